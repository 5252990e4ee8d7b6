import PyProof.Rows.All
import Wide.All
import OpenK.AllK
import Wide.FinOn
import HandS.ForMost
import HandS.ForExc
import HandS.Wide
import HandS.WideMore
import HandS.Evl
import HandS.CallSlots
import HandS.Defaults
import HandS.Walk
import HandS.Style
import HandS.TupAny
import HandS.Deep
import HandS.HeadHook1
import HandS.ExcCtx
import HandS.Lambda
import KE.KeyNested
import HandS.IsInst
import HandS.Zip
import HandS.Small
import HandS.TryOnly
import HandS.TupMul
import HandS.HeadHook4
import HandS.Head3
import HandS.EndBits
import HandS.MakeKw
import HandS.Zip0
import KE.GoesEnumKw
import PyProof.Rows.CallKwBuiltin
import PyProof.Rows.SumAny
import HandS.List
import HandS.Sort
import KE.GoesEnum
import KE.GoesMore
import KE.KRevSl
import HandS.TupLen
import KE.KDictDisplayH
import HandS.SortInts
import KE.KDictWalk
import KE.KDictSum
import HandS.Keys
import HandS.HotCalls
import HandS.ExcIs
import HandS.Text
import HandS.EndTab
import HandS.NestedK
import HandS.SortRule
import KE.KDictPairs
import KE.KItemsList
import HandS.DictTup
import KE.KDictKeyed
import HandS.CallLocal
import HandS.ExcInit
import HandS.ExcField
import HandS.Conv
import HandS.SetFor
import HandS.Strs
import HandS.IntHex
import HandS.StrMore
import HandS.RaiseMore
import HandS.OwnIter
import HandS.OwnEq
import PySem.Challenge.RW_cotide_k35_whole_entries_in_any_order
import KE.KStateDown
import Lean
set_option Elab.async false
set_option linter.all false
set_option maxRecDepth 100000
/-! HL: the head's Hook over a given list of addresses; the run's equation in three parts. -/
namespace HL
open PySem PySem.Spec PyProof.Rows L2 He
def obsL (as : List Addr) (fa : List Fa) (fn : List DefD) (ts : List Tab) (tf : List Defn) (ex : PySem.W.Frag → Bool) (g : Addr → Option Obj) : AlX := (obsT fa fn ts (frT g as), ex (frT g as) && tabsB g tf (frT g as))
theorem saysL_of {as : List Addr} {fa : List Fa} {fn : List DefD} {ts : List Tab} {tf : List Defn} {ex : PySem.W.Frag → Bool} {w : World} {h : Heap} (e : obsL as fa fn ts tf ex h.get? = valX fn ts w) : SaysX fa fn ts tf ex w h (frT h.get? as) := by
  have e1 : obsT fa fn ts (frT h.get? as) = valT fn ts w := congrArg Prod.fst e
  obtain ⟨h1, h2⟩ := Bool.and_eq_true_iff.mp (show (ex (frT h.get? as) && tabsB h.get? tf (frT h.get? as)) = true from congrArg Prod.snd e)
  have tab : ∀ p ∈ tf, PySem.W.codeHdIn (frT h.get? as) (cT (frT h.get? as) p).1 (cT (frT h.get? as) p).2 = true ∧ ∃ o, h.get? (cT (frT h.get? as) p).2 = some o ∧ emptyTab o = true := fun p m => by
    have z := List.all_eq_true.mp h2 p m
    obtain ⟨z1, z2⟩ := Bool.and_eq_true_iff.mp z
    refine ⟨z1, ?_⟩
    split at z2
    · exact ⟨_, by assumption, z2⟩
    · cases z2
  refine ⟨e1, h1, fun p m => (tab p m).1, fun p m => ?_, fun p m => ?_⟩
  · obtain ⟨_, o, q, z⟩ := tab p m
    exact frT_none q z
  · obtain ⟨_, o, q, z⟩ := tab p m
    rw [q, emptyTab_eq z]
def hookL (as : List Addr) (fa : List Fa) (fn : List DefD) (ts : List Tab) (tf : List Defn) (ex : PySem.W.Frag → Bool) : PySem.W.Hook where
  α := AlX
  obs := fun s => obsL as fa fn ts tf ex s.heap.get?
  val := fun w => valX fn ts w
  says := fun w h => ∃ K : PySem.W.Frag, K.In h ∧ SaysX fa fn ts tf ex w h K
  of := fun _ _ e => ⟨_, frT_in, saysL_of e⟩
  keeps := fun _ _ _ ⟨K, hK, c⟩ k => ⟨K, PySem.W.Frag.In.keeps hK k, ⟨c.t, c.more, c.hd, c.out, fun p hp => k _ _ (c.empty p hp)⟩⟩
theorem obsL_eq {as : List Addr} {fa : List Fa} {fn : List DefD} {ts : List Tab} {tf : List Defn} {ex : PySem.W.Frag → Bool} {g : Addr → Option Obj} {s : Shared} (h : ∀ a, g a = s.heap.get? a) : obsL as fa fn ts tf ex g = (hookL as fa fn ts tf ex).obs s := by
  have e : g = s.heap.get? := funext h
  rw [e]
  rfl
theorem three {α β γ δ : Type} {E : Option α} {f : α → β} {g : α → γ} {k : α → δ} {x : β} {y : γ} {z : δ} (h1 : E.map f = some x) (h2 : E.map g = some y) (h3 : E.map k = some z) : E.map (fun s => (f s, g s, k s)) = some (x, y, z) := by
  cases E with
  | none => cases h1
  | some s =>
    have a := Option.some.inj h1
    have b := Option.some.inj h2
    have c := Option.some.inj h3
    show some (f s, g s, k s) = some (x, y, z)
    rw [a, b, c]
end HL
namespace HL
open PySem PySem.Spec PyProof.Rows L2 He
/-- what hangs on the names of the module, n steps deep, each thing as often as it is met; what stood before the module is left out -/
def upTo (g : Addr → Option Obj) : Nat → List Addr → List Addr
  | 0, _ => []
  | n + 1, l => let m := l.flatMap fun a => match g a with
    | some o => (refsD o).filter fun b => Nat.blt mainGlobals b
    | none => []
    m ++ upTo g n m
def asN (g : Addr → Option Obj) (n : Nat) : List Addr := mainGlobals :: upTo g n [mainGlobals]
def obsN (n : Nat) (fa : List Fa) (fn : List DefD) (ts : List Tab) (tf : List Defn) (ex : PySem.W.Frag → Bool) (g : Addr → Option Obj) : AlX := obsL (asN g n) fa fn ts tf ex g
def hookN (n : Nat) (fa : List Fa) (fn : List DefD) (ts : List Tab) (tf : List Defn) (ex : PySem.W.Frag → Bool) : PySem.W.Hook where
  α := AlX
  obs := fun s => obsN n fa fn ts tf ex s.heap.get?
  val := fun w => valX fn ts w
  says := fun w h => ∃ K : PySem.W.Frag, K.In h ∧ SaysX fa fn ts tf ex w h K
  of := fun _ _ e => ⟨_, frT_in, saysL_of e⟩
  keeps := fun _ _ _ ⟨K, hK, c⟩ k => ⟨K, PySem.W.Frag.In.keeps hK k, ⟨c.t, c.more, c.hd, c.out, fun p hp => k _ _ (c.empty p hp)⟩⟩
theorem obsN_eq {n : Nat} {fa : List Fa} {fn : List DefD} {ts : List Tab} {tf : List Defn} {ex : PySem.W.Frag → Bool} {g : Addr → Option Obj} {s : Shared} (h : ∀ a, g a = s.heap.get? a) : obsN n fa fn ts tf ex g = (hookN n fa fn ts tf ex).obs s := by
  have e : g = s.heap.get? := funext h
  rw [e]
  rfl
end HL

/-! the head -/
set_option maxHeartbeats 0
namespace DL
open PySem PySem.Spec PyProof.Rows L2
abbrev Fg := PySem.W.Frag
end DL
namespace DH
open PySem PySem.Spec PyProof.Rows L2 DL
abbrev Kt := List (Str × Str)
end DH
namespace DL
open PySem PySem.Spec PyProof.Rows L2
def row2B (e : DictEntry) (p : Str × Str) : Bool := Value.isStrOf p.1 e.key && Value.isStrOf p.2 e.val
end DL
namespace DL
open PySem PySem.Spec PyProof.Rows L2
def rows2B : List DictEntry → List (Str × Str) → Bool
  | [], [] => true
  | e :: es, p :: ps => row2B e p && rows2B es ps
  | _, _ => false
end DL
namespace DL
open PySem PySem.Spec PyProof.Rows L2
def clsM (s : Stmt) (j : Nat) : Stmt := match s with
  | .ClassDef _ _ _ body _ _ _ _ _ _ _ => body.getD j (.Pass ⟨0, 0, 0, 0⟩)
  | _ => .Pass ⟨0, 0, 0, 0⟩
end DL
namespace DL
open PySem PySem.Spec PyProof.Rows L2
def isnB (c : Str) (K : Fg) : Bool := He.eqO (PySem.W.findIn K (.ref (He.ga K c)) "__class__") (some (some (.builtin "object.__class__"))) && (He.eqO (PySem.W.specialIn K (.builtin "object.__class__") "__get__") (some (some (.builtin "getset_descriptor.__get__"))) && (decide (PySem.W.takesIn K (.builtin "object.__class__") = some true) && decide (PySem.W.mroIn K (He.ga K c) (.type "object") = some true)))
end DL
namespace LW
open PySem PySem.Spec PyProof.Rows L2 DL DH
def topS (i : Nat) : Stmt := PySem.Challenge.pw_cotide_k35_whole_entries_in_any_order.main.body.getD i (.Pass ⟨0, 0, 0, 0⟩)
abbrev s_is_clock : Stmt := topS 12
abbrev s_need_clock : Stmt := topS 13
abbrev s_need_side : Stmt := topS 21
abbrev s_Log_M_init : Stmt := clsM (topS 24) 0
abbrev s_Log_M_entries : Stmt := clsM (topS 24) 10
abbrev s_Log_M_plain : Stmt := clsM (topS 24) 11
abbrev s_Log_M_eq : Stmt := clsM (topS 24) 2
abbrev s_need_day : Stmt := topS 20
abbrev s_need_one : Stmt := topS 22
abbrev s_Log_M_need_square : Stmt := clsM (topS 24) 5
abbrev s_Log_M_add : Stmt := clsM (topS 24) 6
abbrev s_Log_M_chart : Stmt := clsM (topS 24) 13
abbrev s__law_box : Stmt := topS 26
abbrev s__law_mixed : Stmt := topS 27
abbrev s__law_take : Stmt := topS 28
abbrev s__law_clock : Stmt := topS 29
abbrev s__law_what : Stmt := topS 30
abbrev s__law_day : Stmt := topS 31
abbrev s__law_one : Stmt := topS 32
abbrev s__law_shuffled : Stmt := topS 33
abbrev s_law : Stmt := topS 34
abbrev RR : PySem.W.OpenRow := PySem.W.OpenLaw.row PySem.Challenge.rw_cotide_k35_whole_entries_in_any_order
def d_is_clock : He.DefD := ⟨("is_clock", none), "is_clock", "is_clock", defArgs s_is_clock, defBody s_is_clock, defScope s_is_clock, [], []⟩
def d_need_clock : He.DefD := ⟨("need_clock", none), "need_clock", "need_clock", defArgs s_need_clock, defBody s_need_clock, defScope s_need_clock, [], []⟩
def d_need_side : He.DefD := ⟨("need_side", none), "need_side", "need_side", defArgs s_need_side, defBody s_need_side, defScope s_need_side, [], []⟩
def d_need_day : He.DefD := ⟨("need_day", none), "need_day", "need_day", defArgs s_need_day, defBody s_need_day, defScope s_need_day, [], []⟩
def d_need_one : He.DefD := ⟨("need_one", none), "need_one", "need_one", defArgs s_need_one, defBody s_need_one, defScope s_need_one, [], []⟩
def d__law_box : He.DefD := ⟨("_law_box", none), "_law_box", "_law_box", defArgs s__law_box, defBody s__law_box, defScope s__law_box, [], []⟩
def d__law_mixed : He.DefD := ⟨("_law_mixed", none), "_law_mixed", "_law_mixed", defArgs s__law_mixed, defBody s__law_mixed, defScope s__law_mixed, [], []⟩
def d__law_take : He.DefD := ⟨("_law_take", none), "_law_take", "_law_take", defArgs s__law_take, defBody s__law_take, defScope s__law_take, [], []⟩
def d__law_clock : He.DefD := ⟨("_law_clock", none), "_law_clock", "_law_clock", defArgs s__law_clock, defBody s__law_clock, defScope s__law_clock, [], []⟩
def d__law_what : He.DefD := ⟨("_law_what", none), "_law_what", "_law_what", defArgs s__law_what, defBody s__law_what, defScope s__law_what, [], []⟩
def d__law_day : He.DefD := ⟨("_law_day", none), "_law_day", "_law_day", defArgs s__law_day, defBody s__law_day, defScope s__law_day, [], []⟩
def d__law_one : He.DefD := ⟨("_law_one", none), "_law_one", "_law_one", defArgs s__law_one, defBody s__law_one, defScope s__law_one, [], []⟩
def d__law_shuffled : He.DefD := ⟨("_law_shuffled", none), "_law_shuffled", "_law_shuffled", defArgs s__law_shuffled, defBody s__law_shuffled, defScope s__law_shuffled, [], []⟩
def d_law : He.DefD := ⟨("law", none), "law", "law", defArgs s_law, defBody s_law, defScope s_law, [], []⟩
def d_Log_M_init : He.DefD := ⟨("Log", some "__init__"), "__init__", "Log.__init__", defArgs s_Log_M_init, defBody s_Log_M_init, defScope s_Log_M_init, [], []⟩
def d_Log_M_entries : He.DefD := ⟨("Log", some "entries"), "entries", "Log.entries", defArgs s_Log_M_entries, defBody s_Log_M_entries, defScope s_Log_M_entries, [], []⟩
def d_Log_M_plain : He.DefD := ⟨("Log", some "plain"), "plain", "Log.plain", defArgs s_Log_M_plain, defBody s_Log_M_plain, defScope s_Log_M_plain, [], []⟩
def d_Log_M_eq : He.DefD := ⟨("Log", some "__eq__"), "__eq__", "Log.__eq__", defArgs s_Log_M_eq, defBody s_Log_M_eq, defScope s_Log_M_eq, [], []⟩
def d_Log_M_need_square : He.DefD := ⟨("Log", some "need_square"), "need_square", "Log.need_square", defArgs s_Log_M_need_square, defBody s_Log_M_need_square, defScope s_Log_M_need_square, [], []⟩
def d_Log_M_add : He.DefD := ⟨("Log", some "add"), "add", "Log.add", defArgs s_Log_M_add, defBody s_Log_M_add, defScope s_Log_M_add, [.int (0)], []⟩
def d_Log_M_chart : He.DefD := ⟨("Log", some "chart"), "chart", "Log.chart", defArgs s_Log_M_chart, defBody s_Log_M_chart, defScope s_Log_M_chart, [.int (999)], []⟩
def fnL : List He.DefD := [d_is_clock, d_need_clock, d_need_side, d_need_day, d_need_one, d__law_box, d__law_mixed, d__law_take, d__law_clock, d__law_what, d__law_day, d__law_one, d__law_shuffled, d_law, d_Log_M_init, d_Log_M_entries, d_Log_M_plain, d_Log_M_eq, d_Log_M_need_square, d_Log_M_add, d_Log_M_chart]
def faL : List He.Fa := [.glo "is_clock", .glo "need_clock", .glo "need_side", .glo "need_day", .glo "need_one", .glo "_law_box", .glo "_law_mixed", .glo "_law_take", .glo "_law_clock", .glo "_law_what", .glo "_law_day", .glo "_law_one", .glo "_law_shuffled", .glo "law", .free "isinstance", .free "len", .free "list", .free "range", .free "sorted", .free "tuple", .int "FEWEST_HOURS" (3), .int "LAST_DAY" (999), .int "MOST_ENTRIES" (200), .int "MOST_HOURS" (15), .int "MOST_SIDE" (9), .int "UNTOLD" (-2), .glo "BadClock", .exc "BadClock", .glo "BadDay", .exc "BadDay", .glo "BadHour", .exc "BadHour", .glo "BadSquare", .exc "BadSquare", .glo "Full", .exc "Full", .glo "Log", .cls "Log", .noat "Log" "clock", .noat "Log" "high", .noat "Log" "wide", .noat "Log" "rows", .noat "Log" "after", .mkr "Log", .meth "Log" "entries", .meth "Log" "plain", .meth "Log" "__eq__", .meth "Log" "need_square", .meth "Log" "add", .meth "Log" "chart"]
def nm0 : List PySem.Str := ["_wall", "TideError", "NoEntry", "BadClock", "BadHour", "BadSquare", "Full", "BadDay", "FEWEST_HOURS", "MOST_HOURS", "is_clock", "need_clock", "UNTOLD", "MOST_SIDE", "LAST_DAY", "MOST_ENTRIES", "WORDS", "need_day", "need_side", "need_one", "word_of", "Log", "_law_box", "_law_mixed", "_law_take", "_law_clock", "_law_what", "_law_day", "_law_one", "_law_shuffled"]
def nms : List PySem.Str := nm0
abbrev hk : PySem.W.Hook := HL.hookN 4 faL fnL [] [] (fun K => DL.isnB "Log" K)
def ob (s : PySem.W.SharedT) : He.AlX := HL.obsN 4 faL fnL [] [] (fun K => DL.isnB "Log" K) (HandSHeadRun.getT s)
theorem ob_eq (s : PySem.W.SharedT) : ob s = hk.obs s.abs := HL.obsN_eq (HandSHeadRun.getT_eq s)
open PySem.W HandSHeadRun in
theorem run1_f (w : World) (os : OsState) : ((HandSHeadRun.endF (HandSHeadRun.stepQ (HandSHeadRun.denQ HandSHeadRun.tabQ) RR.prog (w.withFollow "special-get-raises" false)) 20000 RR.prog (w.withFollow "special-get-raises" false) os)).map (fun s => looksF RR.prog (boot_heap (w.withFollow "special-get-raises" false).params) s.abs) = some (true) := by
  kernel_rfl
open PySem.W HandSHeadRun in
theorem run2_f (w : World) (os : OsState) : ((HandSHeadRun.endF (HandSHeadRun.stepQ (HandSHeadRun.denQ HandSHeadRun.tabQ) RR.prog (w.withFollow "special-get-raises" false)) 20000 RR.prog (w.withFollow "special-get-raises" false) os)).map (fun s => seenQ (PySem.W.view RR.prog [34]) nms (importedModules RR.prog.main.body) (fun s => xlAt (PySem.W.view RR.prog [34]) [] s && recOk RR.toRowW.records s) s.abs) = some (openGood (PySem.W.view RR.prog [34]) nms) := by
  kernel_rfl
open PySem.W HandSHeadRun in
theorem run3_f (w : World) (os : OsState) : ((HandSHeadRun.endF (HandSHeadRun.stepQ (HandSHeadRun.denQ HandSHeadRun.tabQ) RR.prog (w.withFollow "special-get-raises" false)) 20000 RR.prog (w.withFollow "special-get-raises" false) os)).map (fun s => ob s) = some (hk.val (w.withFollow "special-get-raises" false)) := by
  kernel_rfl
theorem run_f (w : World) : HandSHeadRun.RunEq RR (PySem.W.view RR.prog [34]) hk ob 20000 nms (w.withFollow "special-get-raises" false) := fun os => HL.three (run1_f w os) (run2_f w os) (run3_f w os)
open PySem.W HandSHeadRun in
theorem run1_t (w : World) (os : OsState) : ((HandSHeadRun.endF (HandSHeadRun.stepQ (HandSHeadRun.denQ HandSHeadRun.tabQ) RR.prog (w.withFollow "special-get-raises" true)) 20000 RR.prog (w.withFollow "special-get-raises" true) os)).map (fun s => looksF RR.prog (boot_heap (w.withFollow "special-get-raises" true).params) s.abs) = some (true) := by
  kernel_rfl
open PySem.W HandSHeadRun in
theorem run2_t (w : World) (os : OsState) : ((HandSHeadRun.endF (HandSHeadRun.stepQ (HandSHeadRun.denQ HandSHeadRun.tabQ) RR.prog (w.withFollow "special-get-raises" true)) 20000 RR.prog (w.withFollow "special-get-raises" true) os)).map (fun s => seenQ (PySem.W.view RR.prog [34]) nms (importedModules RR.prog.main.body) (fun s => xlAt (PySem.W.view RR.prog [34]) [] s && recOk RR.toRowW.records s) s.abs) = some (openGood (PySem.W.view RR.prog [34]) nms) := by
  kernel_rfl
open PySem.W HandSHeadRun in
theorem run3_t (w : World) (os : OsState) : ((HandSHeadRun.endF (HandSHeadRun.stepQ (HandSHeadRun.denQ HandSHeadRun.tabQ) RR.prog (w.withFollow "special-get-raises" true)) 20000 RR.prog (w.withFollow "special-get-raises" true) os)).map (fun s => ob s) = some (hk.val (w.withFollow "special-get-raises" true)) := by
  kernel_rfl
theorem run_t (w : World) : HandSHeadRun.RunEq RR (PySem.W.view RR.prog [34]) hk ob 20000 nms (w.withFollow "special-get-raises" true) := fun os => HL.three (run1_t w os) (run2_t w os) (run3_t w os)
theorem run (w : World) : HandSHeadRun.RunEq RR (PySem.W.view RR.prog [34]) hk ob 20000 nms w := PySem.W.byRow2 "special-get-raises" (P := fun w => HandSHeadRun.RunEq RR (PySem.W.view RR.prog [34]) hk ob 20000 nms w) run_f run_t w
end LW
set_option maxHeartbeats 200000
/-! the layer -/
namespace DL
open PySem PySem.Spec PyProof.Rows L2
abbrev NKy := (Int × Int) × (Int × Int)
def hash2 (i j : Int) : Int := reduceHash (Builtin.Tuple.tupleHashOf [hashInt i, hashInt j])
def hashN (k : NKy) : Int := reduceHash (Builtin.Tuple.tupleHashOf [hash2 k.1.1 k.1.2, hash2 k.2.1 k.2.2])
abbrev NEnt := NKy × Addr × Value
def entN (x : NEnt) : DictEntry := ⟨hashN x.1, .ref x.2.1, x.2.2⟩
/-- what the one object at a says: a dict with these entries -/
def NdT (a : Addr) (ys : List NEnt) : Heap → Prop := fun h => (a == sysModules) = false ∧ ys.length ≤ sizeLine ∧ ∃ o es ep, h.get? a = some o ∧ o.ExactDict ∧ o.data = .dict es ep ∧ es.toList = ys.map entN ∧ (ys.map (·.1)).Nodup
/-- a pair of pairs of ints stands at b -/
def KeyAt (H : Hp) (b : Addr) (k : NKy) : Prop := ∃ b1 b2 : Addr, H b = some (.tup [.ref b1, .ref b2]) ∧ H b1 = some (.tup [.int k.1.1, .int k.1.2]) ∧ H b2 = some (.tup [.int k.2.1, .int k.2.2])
theorem KeyAt.mono {H H' : Hp} {b : Addr} {k : NKy} (h : KeyAt H b k) (e : ∀ a xs, H a = some (.tup xs) → H' a = some (.tup xs)) : KeyAt H' b k := by
  obtain ⟨b1, b2, h0, h1, h2⟩ := h
  exact ⟨b1, b2, e _ _ h0, e _ _ h1, e _ _ h2⟩
end DL
namespace DL
open PySem PySem.Spec PyProof.Rows L2
abbrev D := PyData

theorem same_upd {H : Hp} {p : Addr} {o : HO} (h : H p = none) : Same H (upd H p o) := fun b x e => by
  rw [upd_ne (ne_of_none e h)]
  exact e
theorem same_into {H H' : Hp} {p : Addr} {o : HO} (s : Same H H') (h : H p = none) : Same H (upd H' p o) := fun b x e => by
  rw [upd_ne (ne_of_none e h)]
  exact s b x e
theorem Same.seqT {K : Fg} {H H' : Hp} {a : Addr} {xs : List V} (e : Same H H') (h : SqT K H a xs) : SqT K H' a xs := by
  rcases h with (h | ⟨o, h⟩) | h
  · exact .inl (.inl (e _ _ h))
  · exact .inl (.inr ⟨o, e _ _ h⟩)
  · exact .inr h
theorem Same.rd {H H' : Hp} {a : Addr} {u : HO} (e : Same H H') (h : Rd H a u) : Rd H' a u := by
  rcases h with h | ⟨o, h⟩
  · exact .inl (e _ _ h)
  · exact .inr ⟨o, e _ _ h⟩

def keyD : Key → D
  | .inl i => .int i
  | .inr x => .str x
/-- a mark: the keys are tuples -/
def tagT : D × D := (.bool false, .int 1)
/-- a mark: the keys are pairs of pairs -/
def tagN : D × D := (.bool false, .int 2)
def nkD (k : NKy) : D := .tuple [.tuple [.int k.1.1, .int k.1.2], .tuple [.int k.2.1, .int k.2.2]]
mutual
inductive Rep (K : Fg) (H : Hp) : V → D → Prop
  | non : Rep K H .non .none
  | bl (b : Bool) : Rep K H (.bl b) (.bool b)
  | int (i : Int) : Rep K H (.int i) (.int i)
  | str (x : Str) : Rep K H (.str x) (.str x)
  | lst {a : Addr} {vs : List V} {ds : List D} : H a = some (.lst vs) → RepA K H vs ds → Rep K H (.ref a) (.list ds)
  | tup {a : Addr} {vs : List V} {ds : List D} : H a = some (.tup vs) → RepA K H vs ds → Rep K H (.ref a) (.tuple ds)
  | dK {a : Addr} {ks : List (Key × V)} {kvs : List (D × D)} : Rd H a (.dK ks) → RepK K H ks kvs → Rep K H (.ref a) (.dict kvs)
  | dT {a : Addr} {ks : List (List Key × V)} {kvs : List (D × D)} : Rd H a (.dT ks) → RepT K H ks kvs → Rep K H (.ref a) (.dict (tagT :: kvs))
  | ins {a dx : Addr} {c : Str} {fs : List (Str × V)} {kvs : List (D × D)} : H a = some (.ins (He.ga K c) dx fs) → H dx = some (.own a) → RepI K H fs kvs → Rep K H (.ref a) (.dict ((.none, .str c) :: kvs))
  | dN {a : Addr} {ys : List NEnt} {kvs : List (D × D)} : H a = some (.ext (NdT a ys)) → RepN K H ys kvs → Rep K H (.ref a) (.dict (tagN :: kvs))
inductive RepA (K : Fg) (H : Hp) : List V → List D → Prop
  | nil : RepA K H [] []
  | cons {v : V} {vs : List V} {d : D} {ds : List D} : Rep K H v d → RepA K H vs ds → RepA K H (v :: vs) (d :: ds)
inductive RepK (K : Fg) (H : Hp) : List (Key × V) → List (D × D) → Prop
  | nil : RepK K H [] []
  | cons {k : Key} {v : V} {ks : List (Key × V)} {d : D} {kvs : List (D × D)} : Rep K H v d → RepK K H ks kvs → RepK K H ((k, v) :: ks) ((keyD k, d) :: kvs)
inductive RepT (K : Fg) (H : Hp) : List (List Key × V) → List (D × D) → Prop
  | nil : RepT K H [] []
  | cons {k : List Key} {v : V} {ks : List (List Key × V)} {d : D} {kvs : List (D × D)} : Rep K H v d → RepT K H ks kvs → RepT K H ((k, v) :: ks) ((.tuple (k.map keyD), d) :: kvs)
inductive RepN (K : Fg) (H : Hp) : List NEnt → List (D × D) → Prop
  | nil : RepN K H [] []
  | cons {k : NKy} {b : Addr} {u : Value} {v : V} {ys : List NEnt} {d : D} {kvs : List (D × D)} : KeyAt H b k → RelV v u → Rep K H v d → RepN K H ys kvs → RepN K H ((k, b, u) :: ys) ((nkD k, d) :: kvs)
inductive RepI (K : Fg) (H : Hp) : List (Str × V) → List (D × D) → Prop
  | nil : RepI K H [] []
  | cons {k : Str} {v : V} {ks : List (Str × V)} {d : D} {kvs : List (D × D)} : Rep K H v d → RepI K H ks kvs → RepI K H ((k, v) :: ks) ((.str k, d) :: kvs)
end
section
variable {K : Fg} {H H' : Hp}
mutual
theorem Rep.mono (e : Same H H') : ∀ {v : V} {d : D}, Rep K H v d → Rep K H' v d
  | _, _, .non => .non
  | _, _, .bl b => .bl b
  | _, _, .int i => .int i
  | _, _, .str x => .str x
  | _, _, .lst s r => .lst (e _ _ s) (RepA.mono e r)
  | _, _, .tup s r => .tup (e _ _ s) (RepA.mono e r)
  | _, _, .dK s r => .dK (Same.rd e s) (RepK.mono e r)
  | _, _, .dT s r => .dT (Same.rd e s) (RepT.mono e r)
  | _, _, .ins s t r => .ins (e _ _ s) (e _ _ t) (RepI.mono e r)
  | _, _, .dN s r => .dN (e _ _ s) (RepN.mono e r)
theorem RepA.mono (e : Same H H') : ∀ {vs : List V} {ds : List D}, RepA K H vs ds → RepA K H' vs ds
  | _, _, .nil => .nil
  | _, _, .cons a b => .cons (Rep.mono e a) (RepA.mono e b)
theorem RepK.mono (e : Same H H') : ∀ {vs : List (Key × V)} {ds : List (D × D)}, RepK K H vs ds → RepK K H' vs ds
  | _, _, .nil => .nil
  | _, _, .cons a b => .cons (Rep.mono e a) (RepK.mono e b)
theorem RepT.mono (e : Same H H') : ∀ {vs : List (List Key × V)} {ds : List (D × D)}, RepT K H vs ds → RepT K H' vs ds
  | _, _, .nil => .nil
  | _, _, .cons a b => .cons (Rep.mono e a) (RepT.mono e b)
theorem RepN.mono (e : Same H H') : ∀ {ys : List NEnt} {ds : List (D × D)}, RepN K H ys ds → RepN K H' ys ds
  | _, _, .nil => .nil
  | _, _, .cons h r a b => .cons (h.mono fun _ _ q => e _ _ q) r (Rep.mono e a) (RepN.mono e b)
theorem RepI.mono (e : Same H H') : ∀ {vs : List (Str × V)} {ds : List (D × D)}, RepI K H vs ds → RepI K H' vs ds
  | _, _, .nil => .nil
  | _, _, .cons a b => .cons (Rep.mono e a) (RepI.mono e b)
end
theorem RepA.length : ∀ {vs : List V} {ds : List D}, RepA K H vs ds → vs.length = ds.length
  | _, _, .nil => rfl
  | _, _, .cons _ r => congrArg Nat.succ r.length
theorem RepA.get : ∀ {vs : List V} {ds : List D} {i : Nat} {d : D}, RepA K H vs ds → ds[i]? = some d → ∃ v, vs[i]? = some v ∧ Rep K H v d
  | _, _, _, _, .nil, e => by simp at e
  | _, _, 0, _, .cons r _, e => by
    simp at e
    subst e
    exact ⟨_, rfl, r⟩
  | _, _, i + 1, _, .cons _ t, e => by
    obtain ⟨v, h1, h2⟩ := RepA.get (i := i) t (by simpa using e)
    exact ⟨v, by simpa using h1, h2⟩
theorem RepA.append : ∀ {vs ws : List V} {ds es : List D}, RepA K H vs ds → RepA K H ws es → RepA K H (vs ++ ws) (ds ++ es)
  | _, _, _, _, .nil, s => s
  | _, _, _, _, .cons r t, s => .cons r (RepA.append t s)
theorem RepA.take : ∀ {vs : List V} {ds : List D} (n : Nat), RepA K H vs ds → RepA K H (vs.take n) (ds.take n)
  | _, _, 0, _ => .nil
  | _, _, _ + 1, .nil => .nil
  | _, _, n + 1, .cons r t => .cons r (RepA.take n t)
theorem RepA.drop : ∀ {vs : List V} {ds : List D} (n : Nat), RepA K H vs ds → RepA K H (vs.drop n) (ds.drop n)
  | _, _, 0, r => r
  | _, _, _ + 1, .nil => .nil
  | _, _, n + 1, .cons _ t => RepA.drop n t
theorem RepA.set {v : V} {d : D} (r : Rep K H v d) : ∀ {vs : List V} {ds : List D} (i : Nat), RepA K H vs ds → RepA K H (vs.set i v) (ds.set i d)
  | _, _, _, .nil => .nil
  | _, _, 0, .cons _ t => .cons r t
  | _, _, i + 1, .cons q t => .cons q (RepA.set r i t)
theorem RepA.dropLast : ∀ {vs : List V} {ds : List D}, RepA K H vs ds → RepA K H vs.dropLast ds.dropLast := fun {vs ds} r => by
  rw [List.dropLast_eq_take, List.dropLast_eq_take, r.length]
  exact r.take _
theorem RepA.ints : ∀ {vs : List V} {ns : List Int}, RepA K H vs (ns.map PyData.int) → vs = ns.map V.int
  | _, [], .nil => rfl
  | _, n :: ns, .cons r t => by
    cases r
    rw [RepA.ints (ns := ns) t]
    rfl
theorem RepA.of_ints : ∀ ns : List Int, RepA K H (ns.map V.int) (ns.map PyData.int)
  | [] => .nil
  | n :: ns => .cons (.int n) (RepA.of_ints ns)
end
mutual
def plain : D → Bool
  | .list ds => plainA ds
  | .tuple ds => plainA ds
  | .dict _ => false
  | _ => true
def plainA : List D → Bool
  | [] => true
  | d :: ds => plain d && plainA ds
end
section
variable {K : Fg} {H : Hp}
mutual
theorem Rep.dp : ∀ {v : V} {d : D}, Rep K H v d → plain d = true → Dp K H v d
  | _, _, .non, _ => .non
  | _, _, .bl b, _ => .bl b
  | _, _, .int i, _ => .int i
  | _, _, .str x, _ => .str x
  | _, _, .lst s r, h => .lst (.inl (.inl s)) (RepA.dp r h)
  | _, _, .tup s r, h => .tup (.inl (.inl s)) (RepA.dp r h)
  | _, _, .dK _ _, h => by cases h
  | _, _, .dT _ _, h => by cases h
  | _, _, .ins _ _ _, h => by cases h
  | _, _, .dN _ _, h => by cases h
theorem RepA.dp : ∀ {vs : List V} {ds : List D}, RepA K H vs ds → plainA ds = true → DpAll K H vs ds
  | _, _, .nil, _ => .nil
  | _, _, .cons a b, h => .cons (Rep.dp a (Bool.and_eq_true_iff.mp h).1) (RepA.dp b (Bool.and_eq_true_iff.mp h).2)
end
end
/-- un: nothing is known; val: data that stay; own: an object of one's own, with data in it; arg: an object of the caller's that may be written; fn: a def; tre, atr: as own and arg, with own objects within (boxed); gho: an own object taken out of a tree for a while; tab: tables of code objects, with their names -/
inductive Slot where
  | un | val (d : D) | own (d : D) | arg (d : D) | fn (a : Addr) | tre (d : D) | atr (d : D) | gho (n : Nat) (d : D) | tab (T : List (Addr × Str))
abbrev En := List Slot
/-- an error: its class's name, its fields -/
structure Er where
  cls : Str
  fs : List (Str × D)
/-- a value: data that stay, or the object of the i-th slot -/
inductive Vl where
  | st (d : D) | at (i : Nat) | fn (a : Addr)
inductive O (α : Type) where
  | ok (a : α) (r : En) | er (e : Er) (r : En) | bad
def O.bind {α β : Type} : O α → (α → En → O β) → O β
  | .ok a r, f => f a r
  | .er e r, _ => .er e r
  | .bad, _ => .bad
inductive SO where
  | nx (r : En) | rt (d : D) (fr : Bool) (r : En) | bk (r : En) | ct (r : En) | er (e : Er) (r : En) | bad
abbrev EF := En → O Vl
abbrev CF := En → O D
abbrev BF := En → O Bool
abbrev AF := En → O (List Vl)
abbrev SF := En → SO
/-- a def's end: its answer (fr: a new object), what its own first argument holds then -/
inductive R where
  | ok (d : D) (fr : Bool) (out : D) | er (e : Er) (out : D) | bad

/-- the base that a def was entered with -/
structure Bs where
  Hs0 : Hp
  H0 : Hp
  own0 : Addr → Prop
  own1 : Addr → Prop
  rt : Addr → Prop
  pin : Nat → Option Addr
/-- new since then, or free to be taken -/
def Bs.nw (B : Bs) (p : Addr) : Prop := B.H0 p = none ∨ B.own1 p

/-- a tuple stands there: nobody's, never changed -/
def TupAt (H : Hp) (a : Addr) : Prop := ∃ xs, H a = some (.tup xs)
/-- an object that may be owned -/
def OwnAt (H : Hp) (a : Addr) : Prop := ∃ o, H a = some o ∧ ∀ xs, o ≠ .tup xs
theorem OwnAt.some {H : Hp} {a : Addr} (h : OwnAt H a) : ∃ o, H a = Option.some o := let ⟨o, e, _⟩ := h; ⟨o, e⟩
theorem OwnAt.notup {H : Hp} {a : Addr} (h : OwnAt H a) (t : TupAt H a) : False := let ⟨_, e, n⟩ := h; let ⟨xs, q⟩ := t; n xs (Option.some.inj (e.symm.trans q))
theorem OwnAt.nofree {H : Hp} {a : Addr} (h : OwnAt H a) (t : H a = none ∨ TupAt H a) : False := t.elim (fun n => by obtain ⟨o, e⟩ := h.some; rw [n] at e; cases e) h.notup
def Cont (K : Fg) (Hs H : Hp) (p : Addr) : D → Prop
  | .list ds => ∃ vs, H p = some (.lst vs) ∧ RepA K Hs vs ds
  | .dict kvs => (∃ ks, H p = some (.dK ks) ∧ RepK K Hs ks kvs) ∨ (∃ ks es, kvs = tagT :: es ∧ H p = some (.dT ks) ∧ RepT K Hs ks es) ∨ ∃ ys es, kvs = tagN :: es ∧ H p = some (.ext (NdT p ys)) ∧ RepN K Hs ys es
  | _ => False
theorem Cont.mono {K : Fg} {Hs H Hs' H' : Hp} {p : Addr} {d : D} (c : Cont K Hs H p d) (e : Same Hs Hs') (h : H' p = H p) : Cont K Hs' H' p d := by
  cases d with
  | list ds => obtain ⟨vs, a, b⟩ := c; exact ⟨vs, h.trans a, b.mono e⟩
  | dict kvs =>
    rcases c with ⟨ks, a, b⟩ | ⟨ks, es, ee, a, b⟩ | ⟨ys, es, ee, a, b⟩
    · exact .inl ⟨ks, h.trans a, b.mono e⟩
    · exact .inr (.inl ⟨ks, es, ee, h.trans a, b.mono e⟩)
    · exact .inr (.inr ⟨ys, es, ee, h.trans a, b.mono e⟩)
  | _ => exact c.elim
theorem Cont.there {K : Fg} {Hs H : Hp} {p : Addr} {d : D} (c : Cont K Hs H p d) : ∃ o, H p = some o := by
  cases d with
  | list ds => obtain ⟨vs, a, b⟩ := c; exact ⟨_, a⟩
  | dict kvs =>
    rcases c with ⟨ks, a, b⟩ | ⟨ks, es, ee, a, b⟩ | ⟨ys, es, ee, a, b⟩
    · exact ⟨_, a⟩
    · exact ⟨_, a⟩
    · exact ⟨_, a⟩
  | _ => exact c.elim
theorem Cont.own {K : Fg} {Hs H : Hp} {p : Addr} {d : D} (c : Cont K Hs H p d) : OwnAt H p := by
  cases d with
  | list ds => obtain ⟨vs, a, b⟩ := c; exact ⟨_, a, fun _ => nofun⟩
  | dict kvs =>
    rcases c with ⟨ks, a, b⟩ | ⟨ks, es, ee, a, b⟩ | ⟨ys, es, ee, a, b⟩
    · exact ⟨_, a, fun _ => nofun⟩
    · exact ⟨_, a, fun _ => nofun⟩
    · exact ⟨_, a, fun _ => nofun⟩
  | _ => exact c.elim
/-- an own object read as data, under the whole heap -/
theorem Cont.rep {K : Fg} {Hs H : Hp} {p : Addr} {d : D} (c : Cont K Hs H p d) (e : Same Hs H) : Rep K H (.ref p) d := by
  cases d with
  | list ds => obtain ⟨vs, a, b⟩ := c; exact .lst a (b.mono e)
  | dict kvs =>
    rcases c with ⟨ks, a, b⟩ | ⟨ks, es, rfl, a, b⟩ | ⟨ys, es, rfl, a, b⟩
    · exact .dK (.inl a) (b.mono e)
    · exact .dT (.inl a) (b.mono e)
    · exact .dN a (b.mono e)
  | _ => exact c.elim

/-- a mark: an own object with this in it -/
def bx (d : D) : D := .dict [(.bool true, d)]
abbrev Pin := Nat → Option Addr
mutual
/-- v is an own object, or data that stay; the addresses that it owns -/
inductive Tre (K : Fg) (P : Pin) (Hs H : Hp) : V → D → List Addr → Prop
  | st {v : V} {d : D} : Rep K Hs v d → Tre K P Hs H v d []
  | lst {a : Addr} {vs : List V} {ds : List D} {f : List Addr} : H a = some (.lst vs) → Hs a = none → TreA K P Hs H vs ds f → Tre K P Hs H (.ref a) (bx (.list ds)) (a :: f)
  | dK {a : Addr} {ks : List (Key × V)} {kvs : List (D × D)} {f : List Addr} : H a = some (.dK ks) → Hs a = none → TreK K P Hs H ks kvs f → Tre K P Hs H (.ref a) (bx (.dict kvs)) (a :: f)
  | dT {a : Addr} {ks : List (List Key × V)} {kvs : List (D × D)} {f : List Addr} : H a = some (.dT ks) → Hs a = none → TreT K P Hs H ks kvs f → Tre K P Hs H (.ref a) (bx (.dict (tagT :: kvs))) (a :: f)
  | ins {a dx : Addr} {c : Str} {fs : List (Str × V)} {kvs : List (D × D)} {f : List Addr} : H a = some (.ins (He.ga K c) dx fs) → H dx = some (.own a) → Hs a = none → Hs dx = none → TreI K P Hs H fs kvs f → Tre K P Hs H (.ref a) (bx (.dict ((.none, .str c) :: kvs))) (a :: dx :: f)
inductive TreA (K : Fg) (P : Pin) (Hs H : Hp) : List V → List D → List Addr → Prop
  | nil : TreA K P Hs H [] [] []
  | cons {v : V} {vs : List V} {d : D} {ds : List D} {f g : List Addr} : Tre K P Hs H v d f → TreA K P Hs H vs ds g → TreA K P Hs H (v :: vs) (d :: ds) (f ++ g)
inductive TreK (K : Fg) (P : Pin) (Hs H : Hp) : List (Key × V) → List (D × D) → List Addr → Prop
  | nil : TreK K P Hs H [] [] []
  | cons {k : Key} {v : V} {ks : List (Key × V)} {d : D} {kvs : List (D × D)} {f g : List Addr} : Tre K P Hs H v d f → TreK K P Hs H ks kvs g → TreK K P Hs H ((k, v) :: ks) ((keyD k, d) :: kvs) (f ++ g)
inductive TreT (K : Fg) (P : Pin) (Hs H : Hp) : List (List Key × V) → List (D × D) → List Addr → Prop
  | nil : TreT K P Hs H [] [] []
  | cons {k : List Key} {v : V} {ks : List (List Key × V)} {d : D} {kvs : List (D × D)} {f g : List Addr} : Tre K P Hs H v d f → TreT K P Hs H ks kvs g → TreT K P Hs H ((k, v) :: ks) ((.tuple (k.map keyD), d) :: kvs) (f ++ g)
inductive TreI (K : Fg) (P : Pin) (Hs H : Hp) : List (Str × V) → List (D × D) → List Addr → Prop
  | nil : TreI K P Hs H [] [] []
  | cons {k : Str} {v : V} {ks : List (Str × V)} {d : D} {kvs : List (D × D)} {f g : List Addr} : Tre K P Hs H v d f → TreI K P Hs H ks kvs g → TreI K P Hs H ((k, v) :: ks) ((.str k, d) :: kvs) (f ++ g)
end
section
variable {K : Fg} {P P' : Pin} {Hs H Hs' H' : Hp}
mutual
/-- what it owns stands as it stood: so does it -/
theorem Tre.mono (e : Same Hs Hs') (ep : ∀ n a, P n = some a → P' n = some a) : ∀ {v : V} {d : D} {f : List Addr}, Tre K P Hs H v d f → (∀ a ∈ f, ∀ o, H a = some o → H' a = some o) → (∀ a ∈ f, Hs a = none → Hs' a = none) → Tre K P' Hs' H' v d f
  | _, _, _, .st r, _, _ => .st (r.mono e)
  | _, _, _, .lst h n r, k, m => .lst (k _ List.mem_cons_self _ h) (m _ List.mem_cons_self n) (TreA.mono e ep r (fun a i => k a (List.mem_cons_of_mem _ i)) fun a i => m a (List.mem_cons_of_mem _ i))
  | _, _, _, .dK h n r, k, m => .dK (k _ List.mem_cons_self _ h) (m _ List.mem_cons_self n) (TreK.mono e ep r (fun a i => k a (List.mem_cons_of_mem _ i)) fun a i => m a (List.mem_cons_of_mem _ i))
  | _, _, _, .dT h n r, k, m => .dT (k _ List.mem_cons_self _ h) (m _ List.mem_cons_self n) (TreT.mono e ep r (fun a i => k a (List.mem_cons_of_mem _ i)) fun a i => m a (List.mem_cons_of_mem _ i))
  | _, _, _, .ins h h2 n n2 r, k, m => .ins (k _ List.mem_cons_self _ h) (k _ (List.mem_cons_of_mem _ List.mem_cons_self) _ h2) (m _ List.mem_cons_self n) (m _ (List.mem_cons_of_mem _ List.mem_cons_self) n2) (TreI.mono e ep r (fun a i => k a (List.mem_cons_of_mem _ (List.mem_cons_of_mem _ i))) fun a i => m a (List.mem_cons_of_mem _ (List.mem_cons_of_mem _ i)))
theorem TreA.mono (e : Same Hs Hs') (ep : ∀ n a, P n = some a → P' n = some a) : ∀ {v : List V} {d : List D} {f : List Addr}, TreA K P Hs H v d f → (∀ a ∈ f, ∀ o, H a = some o → H' a = some o) → (∀ a ∈ f, Hs a = none → Hs' a = none) → TreA K P' Hs' H' v d f
  | _, _, _, .nil, _, _ => .nil
  | _, _, _, .cons a b, k, m => .cons (Tre.mono e ep a (fun c i => k c (List.mem_append_left _ i)) fun c i => m c (List.mem_append_left _ i)) (TreA.mono e ep b (fun c i => k c (List.mem_append_right _ i)) fun c i => m c (List.mem_append_right _ i))
theorem TreK.mono (e : Same Hs Hs') (ep : ∀ n a, P n = some a → P' n = some a) : ∀ {v : List (Key × V)} {d : List (D × D)} {f : List Addr}, TreK K P Hs H v d f → (∀ a ∈ f, ∀ o, H a = some o → H' a = some o) → (∀ a ∈ f, Hs a = none → Hs' a = none) → TreK K P' Hs' H' v d f
  | _, _, _, .nil, _, _ => .nil
  | _, _, _, .cons a b, k, m => .cons (Tre.mono e ep a (fun c i => k c (List.mem_append_left _ i)) fun c i => m c (List.mem_append_left _ i)) (TreK.mono e ep b (fun c i => k c (List.mem_append_right _ i)) fun c i => m c (List.mem_append_right _ i))
theorem TreT.mono (e : Same Hs Hs') (ep : ∀ n a, P n = some a → P' n = some a) : ∀ {v : List (List Key × V)} {d : List (D × D)} {f : List Addr}, TreT K P Hs H v d f → (∀ a ∈ f, ∀ o, H a = some o → H' a = some o) → (∀ a ∈ f, Hs a = none → Hs' a = none) → TreT K P' Hs' H' v d f
  | _, _, _, .nil, _, _ => .nil
  | _, _, _, .cons a b, k, m => .cons (Tre.mono e ep a (fun c i => k c (List.mem_append_left _ i)) fun c i => m c (List.mem_append_left _ i)) (TreT.mono e ep b (fun c i => k c (List.mem_append_right _ i)) fun c i => m c (List.mem_append_right _ i))
theorem TreI.mono (e : Same Hs Hs') (ep : ∀ n a, P n = some a → P' n = some a) : ∀ {v : List (Str × V)} {d : List (D × D)} {f : List Addr}, TreI K P Hs H v d f → (∀ a ∈ f, ∀ o, H a = some o → H' a = some o) → (∀ a ∈ f, Hs a = none → Hs' a = none) → TreI K P' Hs' H' v d f
  | _, _, _, .nil, _, _ => .nil
  | _, _, _, .cons a b, k, m => .cons (Tre.mono e ep a (fun c i => k c (List.mem_append_left _ i)) fun c i => m c (List.mem_append_left _ i)) (TreI.mono e ep b (fun c i => k c (List.mem_append_right _ i)) fun c i => m c (List.mem_append_right _ i))
end
end
section
variable {K : Fg} {P : Pin} {Hs H : Hp}
mutual
/-- what it owns is there -/
theorem Tre.there : ∀ {v : V} {d : D} {f : List Addr}, Tre K P Hs H v d f → ∀ a ∈ f, OwnAt H a ∧ Hs a = none
  | _, _, _, .st _, a, i => by cases i
  | _, _, _, .lst h n r, a, i => (List.mem_cons.mp i).elim (fun e => by rw [e]; exact ⟨⟨_, h, fun _ => nofun⟩, n⟩) (TreA.there r a)
  | _, _, _, .dK h n r, a, i => (List.mem_cons.mp i).elim (fun e => by rw [e]; exact ⟨⟨_, h, fun _ => nofun⟩, n⟩) (TreK.there r a)
  | _, _, _, .dT h n r, a, i => (List.mem_cons.mp i).elim (fun e => by rw [e]; exact ⟨⟨_, h, fun _ => nofun⟩, n⟩) (TreT.there r a)
  | _, _, _, .ins h h2 n n2 r, a, i => (List.mem_cons.mp i).elim (fun e => by rw [e]; exact ⟨⟨_, h, fun _ => nofun⟩, n⟩) fun i => (List.mem_cons.mp i).elim (fun e => by rw [e]; exact ⟨⟨_, h2, fun _ => nofun⟩, n2⟩) (TreI.there r a)
theorem TreA.there : ∀ {v : List V} {d : List D} {f : List Addr}, TreA K P Hs H v d f → ∀ a ∈ f, OwnAt H a ∧ Hs a = none
  | _, _, _, .nil, a, i => by cases i
  | _, _, _, .cons x y, a, i => (List.mem_append.mp i).elim (Tre.there x a) (TreA.there y a)
theorem TreK.there : ∀ {v : List (Key × V)} {d : List (D × D)} {f : List Addr}, TreK K P Hs H v d f → ∀ a ∈ f, OwnAt H a ∧ Hs a = none
  | _, _, _, .nil, a, i => by cases i
  | _, _, _, .cons x y, a, i => (List.mem_append.mp i).elim (Tre.there x a) (TreK.there y a)
theorem TreT.there : ∀ {v : List (List Key × V)} {d : List (D × D)} {f : List Addr}, TreT K P Hs H v d f → ∀ a ∈ f, OwnAt H a ∧ Hs a = none
  | _, _, _, .nil, a, i => by cases i
  | _, _, _, .cons x y, a, i => (List.mem_append.mp i).elim (Tre.there x a) (TreT.there y a)
theorem TreI.there : ∀ {v : List (Str × V)} {d : List (D × D)} {f : List Addr}, TreI K P Hs H v d f → ∀ a ∈ f, OwnAt H a ∧ Hs a = none
  | _, _, _, .nil, a, i => by cases i
  | _, _, _, .cons x y, a, i => (List.mem_append.mp i).elim (Tre.there x a) (TreI.there y a)
end
end
/-- a tree at p -/
def TreP (K : Fg) (P : Pin) (Hs H : Hp) (p : Addr) (d : D) (f : List Addr) : Prop := Tre K P Hs H (.ref p) (bx d) f ∧ p ∈ f ∧ f.Nodup

/-- tables of code objects, and the code objects in them -/
def TabF (Hs H : Hp) (T : List (Addr × Str)) (f : List Addr) : Prop := (∀ a ∈ f, OwnAt H a ∧ Hs a = none) ∧ ∀ p ∈ T, p.1 ∈ f ∧ ∃ ps : Array Value, H p.1 = some (.tbl ps) ∧ TriplesOk ps.toList ∧ ∀ (pos : Pos) (cv : Value), codeAmong pos ps.toList = some cv → ∃ c ∈ f, cv = .ref c ∧ H c = some (LamX.CodeO c p.2)
theorem TabF.mono {Hs H Hs' H' : Hp} {T : List (Addr × Str)} {f : List Addr} (t : TabF Hs H T f) (k : ∀ a ∈ f, ∀ o, H a = some o → H' a = some o) (m : ∀ a ∈ f, Hs a = none → Hs' a = none) : TabF Hs' H' T f := ⟨fun a i => by
  obtain ⟨⟨o, e, n⟩, z⟩ := t.1 a i
  exact ⟨⟨o, k a i o e, n⟩, m a i z⟩, fun p hp => by
  obtain ⟨i, ps, h1, h2, h3⟩ := t.2 p hp
  refine ⟨i, ps, k _ i _ h1, h2, fun pos cv hc => ?_⟩
  obtain ⟨c, ci, e1, e2⟩ := h3 pos cv hc
  exact ⟨c, ci, e1, k c ci _ e2⟩⟩
def SlotOk (K : Fg) (B : Bs) (Hs H : Hp) (x : Option V) : Slot → Prop
  | .un => True
  | .val d => ∃ v, x = some v ∧ Rep K Hs v d
  | .own d => ∃ p, x = some (.ref p) ∧ Hs p = none ∧ B.nw p ∧ Cont K Hs H p d
  | .arg d => ∃ p, x = some (.ref p) ∧ Hs p = none ∧ (B.rt p ∧ (B.nw p ∨ B.own0 p)) ∧ Cont K Hs H p d
  | .fn a => x = some (.ref a)
  | .gho n d => ∃ p f, B.pin n = some p ∧ TreP K B.pin Hs H p d f ∧ ∀ a ∈ f, B.nw a ∨ B.own0 a
  | .tab T => ∃ f, TabF Hs H T f ∧ ∀ a ∈ f, B.nw a ∨ B.own0 a
  | .tre d => ∃ p f, x = some (.ref p) ∧ TreP K B.pin Hs H p d f ∧ ∀ a ∈ f, B.nw a
  | .atr d => ∃ p f, x = some (.ref p) ∧ TreP K B.pin Hs H p d f ∧ B.rt p ∧ ∀ a ∈ f, B.nw a ∨ B.own0 a
def Slot.mut : Slot → Bool
  | .own _ => true
  | .arg _ => true
  | .tre _ => true
  | .atr _ => true
  | .gho _ _ => true
  | .tab _ => true
  | _ => false
/-- its object is the name's -/
def Slot.nmd : Slot → Bool
  | .gho _ _ => false
  | .tab _ => false
  | s => s.mut
/-- what a slot owns -/
def Feet (K : Fg) (B : Bs) (Hs H : Hp) (x : Option V) (s : Slot) (f : List Addr) : Prop := match s with
  | .own _ => ∃ p, x = some (.ref p) ∧ f = [p]
  | .arg _ => ∃ p, x = some (.ref p) ∧ f = [p]
  | .tre d => ∃ p, x = some (.ref p) ∧ TreP K B.pin Hs H p d f ∧ ∀ a ∈ f, B.nw a
  | .atr d => ∃ p, x = some (.ref p) ∧ TreP K B.pin Hs H p d f ∧ B.rt p ∧ ∀ a ∈ f, B.nw a ∨ B.own0 a
  | .gho n d => ∃ p, B.pin n = some p ∧ TreP K B.pin Hs H p d f ∧ ∀ a ∈ f, B.nw a ∨ B.own0 a
  | .tab T => TabF Hs H T f ∧ ∀ a ∈ f, B.nw a ∨ B.own0 a
  | _ => f = []
/-- the slots own each for itself -/
structure FeetOk (K : Fg) (B : Bs) (Hs H : Hp) (σ : L2.St) (ρ : En) (F : Nat → List Addr) : Prop where
  at_ : ∀ (i : Nat) (x : Option V) (s : Slot), σ[i]? = some x → ρ[i]? = some s → Feet K B Hs H x s (F i)
  out : ∀ i, ρ[i]? = none → F i = []
  dis : ∀ i j, i ≠ j → ∀ a ∈ F i, a ∉ F j

structure Sl (K : Fg) (B : Bs) (Hs H : Hp) (σ : L2.St) (ρ : En) : Prop where
  len : σ.length = ρ.length
  ok : ∀ (i : Nat) (x : Option V) (s : Slot), σ[i]? = some x → ρ[i]? = some s → SlotOk K B Hs H x s
  sub : Same Hs H
  base : Same B.Hs0 Hs
  new : ∀ a, Hs a = none ∨ B.Hs0 a ≠ none ∨ (B.nw a ∨ TupAt H a)
  keep : ∀ a o, B.H0 a = some o → ¬ B.own0 a → ¬ B.own1 a → H a = some o
  there : ∀ a, B.own0 a ∨ B.own1 a → ∃ o, H a = some o
  feet : ∃ F, FeetOk K B Hs H σ ρ F
section
variable {K : Fg} {B : Bs} {Hs H Hs' H' : Hp} {σ : L2.St} {ρ : En}
theorem Feet.root {x : Option V} {s : Slot} {f : List Addr} (h : Feet K B Hs H x s f) (m : s.nmd = true) : ∃ p, x = some (.ref p) ∧ p ∈ f := by
  cases s with
  | own d => obtain ⟨p, e, rfl⟩ := h; exact ⟨p, e, List.mem_singleton_self p⟩
  | arg d => obtain ⟨p, e, rfl⟩ := h; exact ⟨p, e, List.mem_singleton_self p⟩
  | tre d => obtain ⟨p, e, t, _⟩ := h; exact ⟨p, e, t.2.1⟩
  | atr d => obtain ⟨p, e, t, _⟩ := h; exact ⟨p, e, t.2.1⟩
  | _ => cases m
theorem Sl.apart (sl : Sl K B Hs H σ ρ) (i j : Nat) (s t : Slot) (p : Addr) (hij : i ≠ j) (a1 : ρ[i]? = some s) (a2 : s.nmd = true) (b1 : ρ[j]? = some t) (b2 : t.nmd = true) (c1 : σ[i]? = some (some (.ref p))) : σ[j]? ≠ some (some (.ref p)) := fun c2 => by
  obtain ⟨F, h⟩ := sl.feet
  obtain ⟨p1, e1, m1⟩ := (h.at_ i _ s c1 a1).root a2
  obtain ⟨p2, e2, m2⟩ := (h.at_ j _ t c2 b1).root b2
  cases e1
  cases e2
  exact h.dis i j hij p m1 m2
/-- a slot's feet are there and not stable -/
theorem Feet.there {x : Option V} {s : Slot} {f : List Addr} (h : Feet K B Hs H x s f) (o : SlotOk K B Hs H x s) : ∀ a ∈ f, OwnAt H a ∧ Hs a = none := fun a i => by
  cases s with
  | own d =>
    obtain ⟨p, rfl, rfl⟩ := h
    obtain ⟨p', e, n, z, c⟩ := o
    cases e
    rw [List.mem_singleton] at i
    subst i
    exact ⟨c.own, n⟩
  | arg d =>
    obtain ⟨p, rfl, rfl⟩ := h
    obtain ⟨p', e, n, z, c⟩ := o
    cases e
    rw [List.mem_singleton] at i
    subst i
    exact ⟨c.own, n⟩
  | tre d => obtain ⟨p, e, t, _⟩ := h; exact t.1.there a i
  | atr d => obtain ⟨p, e, t, _⟩ := h; exact t.1.there a i
  | gho n d => obtain ⟨p, e, t, _⟩ := h; exact t.1.there a i
  | tab T => exact h.1.1 a i
  | un => have h : f = [] := h; rw [h] at i; cases i
  | val d => have h : f = [] := h; rw [h] at i; cases i
  | fn d => have h : f = [] := h; rw [h] at i; cases i
theorem TreP.mono {p : Addr} {d : D} {f : List Addr} {P : Pin} (t : TreP K P Hs H p d f) (e : Same Hs Hs') (k : ∀ a ∈ f, ∀ o, H a = some o → H' a = some o) (m : ∀ a ∈ f, Hs a = none → Hs' a = none) : TreP K P Hs' H' p d f := ⟨t.1.mono e (fun _ _ z => z) k m, t.2⟩
theorem Feet.mono {x : Option V} {s : Slot} {f : List Addr} (h : Feet K B Hs H x s f) (e : Same Hs Hs') (k : ∀ a ∈ f, ∀ o, H a = some o → H' a = some o) (m : ∀ a ∈ f, Hs a = none → Hs' a = none) : Feet K B Hs' H' x s f := by
  cases s with
  | tre d => obtain ⟨p, e1, t, z⟩ := h; exact ⟨p, e1, t.mono e k m, z⟩
  | atr d => obtain ⟨p, e1, t, z⟩ := h; exact ⟨p, e1, t.mono e k m, z⟩
  | gho n d => obtain ⟨p, e1, t, z⟩ := h; exact ⟨p, e1, t.mono e k m, z⟩
  | tab T => exact ⟨h.1.mono k m, h.2⟩
  | _ => exact h
/-- what a slot owns stands: so does the slot -/
theorem SlotOk.stays {x : Option V} {s : Slot} {f : List Addr} (o : SlotOk K B Hs H x s) (h : Feet K B Hs H x s f) (e : Same Hs Hs') (k : ∀ a ∈ f, ∀ o, H a = some o → H' a = some o) (m : ∀ a ∈ f, Hs a = none → Hs' a = none) : SlotOk K B Hs' H' x s := by
  cases s with
  | un => trivial
  | val d => obtain ⟨v, e1, r⟩ := o; exact ⟨v, e1, r.mono e⟩
  | fn a => exact o
  | own d =>
    obtain ⟨p, rfl, rfl⟩ := h
    obtain ⟨p', e1, n, z, c⟩ := o
    cases e1
    obtain ⟨ob, hb⟩ := c.there
    exact ⟨p, rfl, m p (List.mem_singleton_self p) n, z, c.mono e ((k p (List.mem_singleton_self p) ob hb).trans hb.symm)⟩
  | arg d =>
    obtain ⟨p, rfl, rfl⟩ := h
    obtain ⟨p', e1, n, z, c⟩ := o
    cases e1
    obtain ⟨ob, hb⟩ := c.there
    exact ⟨p, rfl, m p (List.mem_singleton_self p) n, z, c.mono e ((k p (List.mem_singleton_self p) ob hb).trans hb.symm)⟩
  | tre d => obtain ⟨p, e1, t, z⟩ := h; exact ⟨p, f, e1, t.mono e k m, z⟩
  | atr d => obtain ⟨p, e1, t, z⟩ := h; exact ⟨p, f, e1, t.mono e k m, z⟩
  | gho n d => obtain ⟨p, e1, t, z⟩ := h; exact ⟨p, f, e1, t.mono e k m, z⟩
  | tab T => exact ⟨f, h.1.mono k m, h.2⟩
end
/-- the stable heap and the heap grow: new objects alone, all that was stays -/
structure Grow (Hs H Hs' H' : Hp) : Prop where
  s : Same Hs Hs'
  h : Same H H'
  sub : Same Hs' H'
  new : ∀ a, Hs' a = none ∨ Hs a ≠ none ∨ (H a = none ∨ TupAt H a)
theorem Grow.refl {Hs H : Hp} (s : Same Hs H) : Grow Hs H Hs H := ⟨.refl _, .refl _, s, fun a => by
  cases h : Hs a with
  | none => exact .inl rfl
  | some o => exact .inr (.inl (by simp))⟩
theorem Grow.trans {Hs H Hs1 H1 Hs2 H2 : Hp} (a : Grow Hs H Hs1 H1) (b : Grow Hs1 H1 Hs2 H2) : Grow Hs H Hs2 H2 :=
  ⟨a.s.trans b.s, a.h.trans b.h, b.sub, fun p => by
    rcases b.new p with h | h | h
    · exact .inl h
    · rcases a.new p with g | g | g
      · exact absurd g h
      · exact .inr (.inl g)
      · exact .inr (.inr g)
    · rcases h with h | ⟨xs, h⟩
      · exact .inr (.inr (.inl (a.h.free h)))
      · cases q : H p with
        | none => exact .inr (.inr (.inl rfl))
        | some o => exact .inr (.inr (.inr ⟨xs, q.trans ((a.h _ _ q).symm.trans h)⟩))⟩
/-- a new object, stable from the start -/
theorem Grow.laid {Hs H : Hp} {p : Addr} {o : HO} (s : Same Hs H) (n : H p = none) : Grow Hs H (upd Hs p o) (upd H p o) := by
  have ns : Hs p = none := s.free n
  refine ⟨same_upd ns, same_upd n, fun b x e => ?_, fun a => ?_⟩
  · by_cases h : b = p
    · subst h; rw [upd_same] at e ⊢; exact e
    · rw [upd_ne h] at e ⊢; exact s _ _ e
  · by_cases h : a = p
    · subst h; exact .inr (.inr (.inl n))
    · rw [upd_ne h]
      cases q : Hs a with
      | none => exact .inl rfl
      | some o => exact .inr (.inl (by simp))
/-- a new object that isn't stable (yet) -/
theorem Grow.loose {Hs H : Hp} {p : Addr} {o : HO} (s : Same Hs H) (n : H p = none) : Grow Hs H Hs (upd H p o) :=
  ⟨.refl _, same_upd n, same_into s (s.free n), (Grow.refl s).new⟩

section
variable {K : Fg} {B : Bs} {Hs H Hs' H' : Hp} {σ : L2.St} {ρ : En}
/-- what isn't in H now was not there -/
theorem Sl.nw_of (sl : Sl K B Hs H σ ρ) {a : Addr} (h : H a = none) : B.nw a := by
  cases q : B.H0 a with
  | none => exact .inl q
  | some o =>
    by_cases w : B.own0 a
    · obtain ⟨u, q⟩ := sl.there a (.inl w)
      rw [h] at q; cases q
    · by_cases w1 : B.own1 a
      · exact .inr w1
      · have := sl.keep a o q w w1
        rw [h] at this; cases this
theorem Sl.grow (sl : Sl K B Hs H σ ρ) (g : Grow Hs H Hs' H') : Sl K B Hs' H' σ ρ where
  len := sl.len
  ok := fun i x s a b => by
    obtain ⟨F, h⟩ := sl.feet
    have th := (h.at_ i x s a b).there (sl.ok i x s a b)
    exact (sl.ok i x s a b).stays (h.at_ i x s a b) g.s (fun c _ o e => g.h _ _ e) fun c hc n => by
      rcases g.new c with q | q | q
      · exact q
      · exact absurd n q
      · exact ((th c hc).1.nofree q).elim
  sub := g.sub
  base := sl.base.trans g.s
  new := fun a => by
    rcases g.new a with h | h | h
    · exact .inl h
    · rcases sl.new a with q | q | q
      · exact absurd q h
      · exact .inr (.inl q)
      · exact .inr (.inr (q.imp id fun ⟨xs, e⟩ => ⟨xs, g.h _ _ e⟩))
    · rcases h with h | ⟨xs, h⟩
      · exact .inr (.inr (.inl (sl.nw_of h)))
      · exact .inr (.inr (.inr ⟨xs, g.h _ _ h⟩))
  keep := fun a o e n m => g.h _ _ (sl.keep a o e n m)
  there := fun a w => let ⟨o, e⟩ := sl.there a w; ⟨o, g.h _ _ e⟩
  feet := by
    obtain ⟨F, h⟩ := sl.feet
    refine ⟨F, ⟨fun i x s a b => ?_, h.out, h.dis⟩⟩
    have th := (h.at_ i x s a b).there (sl.ok i x s a b)
    exact (h.at_ i x s a b).mono g.s (fun c _ o e => g.h _ _ e) fun c hc n => by
      rcases g.new c with q | q | q
      · exact q
      · exact absurd n q
      · exact ((th c hc).1.nofree q).elim
end
end DL
namespace DL
open PySem PySem.Spec PyProof.Rows L2
abbrev MG := Str → Option Value
def VlOk (K : Fg) (Hs : Hp) (σ : L2.St) (v : V) : Vl → Prop
  | .st d => Rep K Hs v d
  | .at i => σ[i]? = some (some v)
  | .fn a => v = .ref a
def Slot.get : Slot → Option D
  | .val d => some d
  | .own d => some d
  | .arg d => some d
  | _ => none
def Vl.get (ρ : En) : Vl → Option D
  | .st d => some d
  | .at i => (ρ[i]?).bind Slot.get
  | .fn _ => none
/-- the top of it lies in H, what is in it stays -/
def Shal (K : Fg) (Hs H : Hp) (v : V) (d : D) : Prop := Rep K Hs v d ∨ ∃ p, v = .ref p ∧ Cont K Hs H p d
theorem Shal.rep {K : Fg} {Hs H : Hp} {v : V} {d : D} (s : Shal K Hs H v d) (e : Same Hs H) : Rep K H v d := by
  rcases s with h | ⟨p, rfl, c⟩
  · exact h.mono e
  · exact c.rep e
theorem Shal.grow {K : Fg} {Hs H Hs' H' : Hp} {v : V} {d : D} (s : Shal K Hs H v d) (g : Grow Hs H Hs' H') : Shal K Hs' H' v d := by
  rcases s with h | ⟨p, rfl, c⟩
  · exact .inl (h.mono g.s)
  · obtain ⟨o, e⟩ := c.there
    exact .inr ⟨p, rfl, c.mono g.s ((g.h _ _ e).trans e.symm)⟩
section
variable {K : Fg} {B : Bs} {Hs H : Hp} {σ : L2.St} {ρ : En}
theorem Sl.look (sl : Sl K B Hs H σ ρ) {v : V} {x : Vl} {d : D} (h : VlOk K Hs σ v x) (g : x.get ρ = some d) : Shal K Hs H v d := by
  cases x with
  | fn a => cases g
  | st d' =>
    cases g
    exact .inl h
  | «at» i =>
    have g : (ρ[i]?).bind Slot.get = some d := g
    cases e : ρ[i]? with
    | none => rw [e] at g; cases g
    | some s =>
      rw [e] at g
      have o := sl.ok i _ s h e
      cases s with
      | un => cases g
      | fn a => cases g
      | tre d => cases g
      | atr d => cases g
      | gho n d => cases g
      | tab T => cases g
      | val d' =>
        cases g
        obtain ⟨v', e1, r⟩ := o
        cases e1
        exact .inl r
      | own d' =>
        cases g
        obtain ⟨p, e1, _, _, c⟩ := o
        cases e1
        exact .inr ⟨p, rfl, c⟩
      | arg d' =>
        cases g
        obtain ⟨p, e1, _, _, c⟩ := o
        cases e1
        exact .inr ⟨p, rfl, c⟩
end
section
variable {K : Fg} {Hs H : Hp} {v : V} {ds : List D}
theorem Shal.lst (s : Shal K Hs H v (.list ds)) (e : Same Hs H) : ∃ p vs, v = .ref p ∧ H p = some (.lst vs) ∧ RepA K Hs vs ds := by
  rcases s with h | ⟨p, rfl, c⟩
  · cases h with
    | lst s r => exact ⟨_, _, rfl, e _ _ s, r⟩
  · obtain ⟨vs, h, r⟩ := c
    exact ⟨p, vs, rfl, h, r⟩
theorem Shal.tup (s : Shal K Hs H v (.tuple ds)) (e : Same Hs H) : ∃ p vs, v = .ref p ∧ SqT K H p vs ∧ RepA K Hs vs ds := by
  rcases s with h | ⟨p, rfl, c⟩
  · cases h with
    | tup s r => exact ⟨_, _, rfl, .inl (.inl (e _ _ s)), r⟩
  · exact c.elim
theorem Shal.tupH (s : Shal K Hs H v (.tuple ds)) (e : Same Hs H) : ∃ p vs, v = .ref p ∧ H p = some (.tup vs) ∧ RepA K Hs vs ds := by
  rcases s with h | ⟨p, rfl, c⟩
  · cases h with
    | tup s r => exact ⟨_, _, rfl, e _ _ s, r⟩
  · exact c.elim
theorem Shal.int {i : Int} (s : Shal K Hs H v (.int i)) : v = .int i := by
  rcases s with h | ⟨p, rfl, c⟩
  · cases h; rfl
  · exact c.elim
theorem Shal.str {i : Str} (s : Shal K Hs H v (.str i)) : v = .str i := by
  rcases s with h | ⟨p, rfl, c⟩
  · cases h; rfl
  · exact c.elim
theorem Shal.bl {i : Bool} (s : Shal K Hs H v (.bool i)) : v = .bl i := by
  rcases s with h | ⟨p, rfl, c⟩
  · cases h; rfl
  · exact c.elim
theorem Shal.non (s : Shal K Hs H v .none) : v = .non := by
  rcases s with h | ⟨p, rfl, c⟩
  · cases h; rfl
  · exact c.elim
end
inductive RepF (K : Fg) (H : Hp) : List (Str × V) → List (Str × D) → Prop
  | nil : RepF K H [] []
  | cons {x : Str} {v : V} {fs : List (Str × V)} {d : D} {ds : List (Str × D)} : Rep K H v d → RepF K H fs ds → RepF K H ((x, v) :: fs) ((x, d) :: ds)
def ErOk (K : Fg) (mg : MG) (e : Er) (cls : Value) (od : Option Addr) (Hs H : Hp) : Prop :=
  (∃ C, mg e.cls = some (.ref C) ∧ cls = .ref C) ∧ ((e.fs = [] ∧ od = none) ∨ (e.fs ≠ [] ∧ ∃ d fs, od = some d ∧ H d = some (.xd fs) ∧ RepF K Hs fs e.fs))

def OP {α : Type} (K : Fg) (mg : MG) (B : Bs) (W : WX) (σ : L2.St) (Hs : Hp) (P : α → En → Hp → Hp → Prop) : O α → Prop
  | .ok x ρ' => ∀ Hs' H', Sl K B Hs' H' σ ρ' → Same Hs Hs' → P x ρ' Hs' H'
  | .er e ρ' => ∀ cls od Hs' H', Sl K B Hs' H' σ ρ' → Same Hs Hs' → ErOk K mg e cls od Hs' H' → W cls od σ H'
  | .bad => False
def tD (K : Fg) (mg : MG) (B : Bs) (W : WX) (f : EF) : TE := fun σ H Q => ∃ Hs ρ, Sl K B Hs H σ ρ ∧ OP K mg B W σ Hs (fun x _ Hs' H' => ∀ v, VlOk K Hs' σ v x → Q v H') (f ρ)
def tTD (K : Fg) (mg : MG) (B : Bs) (W : WX) (f : BF) : TT := fun σ H Q => ∃ Hs ρ, Sl K B Hs H σ ρ ∧ OP K mg B W σ Hs (fun x _ _ H' => Q x H') (f ρ)
inductive VlsOk (K : Fg) (Hs : Hp) (σ : L2.St) : List V → List Vl → Prop
  | nil : VlsOk K Hs σ [] []
  | cons {v : V} {vs : List V} {x : Vl} {xs : List Vl} : VlOk K Hs σ v x → VlsOk K Hs σ vs xs → VlsOk K Hs σ (v :: vs) (x :: xs)
def tAD (K : Fg) (mg : MG) (B : Bs) (W : WX) (f : AF) : TA := fun σ H Q => ∃ Hs ρ, Sl K B Hs H σ ρ ∧ OP K mg B W σ Hs (fun xs _ Hs' H' => ∀ vs, VlsOk K Hs' σ vs xs → Q vs H') (f ρ)
/-- what no slot owns -/
def Nob (K : Fg) (B : Bs) (Hs H : Hp) (σ : L2.St) (ρ : En) (p : Addr) : Prop := ∃ F, FeetOk K B Hs H σ ρ F ∧ ∀ i, p ∉ F i
/-- a new object, nobody's yet -/
def tC' (K : Fg) (mg : MG) (B : Bs) (W : WX) (f : CF) : TE := fun σ H Q => ∃ Hs ρ, Sl K B Hs H σ ρ ∧
  OP K mg B W σ Hs (fun d ρ' Hs' H' => ∀ p, Hs' p = none → B.nw p → Nob K B Hs' H' σ ρ' p → Cont K Hs' H' p d → Q (.ref p) H') (f ρ)
abbrev PD (X : Cx) (B : Bs) (W : WX) (e : Expr) (f : EF) : Prop := PE X e (tD X.K X.mg B W f)
abbrev PB (X : Cx) (B : Bs) (W : WX) (e : Expr) (f : BF) : Prop := PT X e (tTD X.K X.mg B W f)
abbrev PAD (X : Cx) (B : Bs) (W : WX) (es : List Expr) (f : AF) : Prop := PA X es (tAD X.K X.mg B W f)
abbrev PC' (X : Cx) (B : Bs) (W : WX) (e : Expr) (f : CF) : Prop := PE X e (tC' X.K X.mg B W f)

theorem PE.imp {X : Cx} {e : Expr} {t t' : TE} (h : PE X e t) (i : ∀ σ H Q, t' σ H Q → t σ H Q) : PE X e t' := ⟨fun pins s σ H Q I q => h.run pins s σ H Q I (i σ H Q q)⟩
theorem PT.imp {X : Cx} {e : Expr} {t t' : TT} (h : PT X e t) (i : ∀ σ H Q, t' σ H Q → t σ H Q) : PT X e t' := ⟨fun pins s σ H Q I q => h.run pins s σ H Q I (i σ H Q q)⟩
theorem PW.imp {X : Cx} {e : Expr} {t t' : TT} (h : PW X e t) (i : ∀ σ H Q, t' σ H Q → t σ H Q) : PW X e t' := ⟨fun wh pins s σ H Q I q => h.run wh pins s σ H Q I (i σ H Q q)⟩
theorem PA.imp {X : Cx} {e : List Expr} {t t' : TA} (h : PA X e t) (i : ∀ σ H Q, t' σ H Q → t σ H Q) : PA X e t' := ⟨fun pos pins s σ H Q I q => h.run pos pins s σ H Q I (i σ H Q q)⟩
theorem PS.imp {X : Cx} {e : Stmt} {t t' : TS} (h : PS X e t) (i : ∀ D σ H, t' D σ H → t D σ H) : PS X e t' := ⟨fun pins s σ H D I q => h.run pins s σ H D I (i D σ H q)⟩
theorem PSs.imp {X : Cx} {e : List Stmt} {t t' : TS} (h : PSs X e t) (i : ∀ D σ H, t' D σ H → t D σ H) : PSs X e t' := ⟨fun pins s σ H D I q => h.run pins s σ H D I (i D σ H q)⟩
theorem PI.imp {X : Cx} {tg e : Expr} {t t' : TI} (h : PI X tg e t) (i : ∀ σ H R, t' σ H R → t σ H R) : PI X tg e t' := ⟨fun pins s σ H R I q => h.run pins s σ H R I (i σ H R q)⟩

section
variable {K : Fg} {mg : MG} {B : Bs} {W : WX} {σ : L2.St} {Hs Hs1 H H' : Hp} {α β : Type}
theorem OP.imp {P P' : α → En → Hp → Hp → Prop} {o : O α} (h : OP K mg B W σ Hs P o) (i : ∀ x ρ Hs' H', o = .ok x ρ → Sl K B Hs' H' σ ρ → Same Hs Hs' → P x ρ Hs' H' → P' x ρ Hs' H') : OP K mg B W σ Hs P' o := by
  cases o with
  | ok x r => exact fun Hs' H' s e => i _ _ _ _ rfl s e (h Hs' H' s e)
  | er e r => exact h
  | bad => exact h
/-- the base of the growth may be later -/
theorem OP.later {P : α → En → Hp → Hp → Prop} {o : O α} (h : OP K mg B W σ Hs P o) (e : Same Hs Hs1) : OP K mg B W σ Hs1 P o := by
  cases o with
  | ok x r => exact fun Hs' H' s g => h Hs' H' s (e.trans g)
  | er _ r => exact fun c od Hs' H' s g => h c od Hs' H' s (e.trans g)
  | bad => exact h
theorem OP.bind {P : β → En → Hp → Hp → Prop} {o : O α} {f : α → En → O β} (h : OP K mg B W σ Hs P (o.bind f)) :
    OP K mg B W σ Hs (fun x ρ Hs' _ => OP K mg B W σ Hs' P (f x ρ)) o := by
  cases o with
  | ok x r => exact fun Hs' H' s e => OP.later h e
  | er e r => exact h
  | bad => exact h
end
def cst (d : D) : EF := fun ρ => .ok (.st d) ρ
/-- the i-th name: its data, or its own object -/
def vr (i : Nat) : EF := fun ρ => match ρ[i]? with
  | some (.val d) => .ok (.st d) ρ
  | some (.own _) => .ok (.at i) ρ
  | some (.arg _) => .ok (.at i) ρ
  | some (.tre _) => .ok (.at i) ρ
  | some (.atr _) => .ok (.at i) ρ
  | some (.fn a) => .ok (.fn a) ρ
  | _ => .bad
/-- .. an own object handed out for good -/
def frz (i : Nat) : EF := fun ρ => match ρ[i]? with
  | some (.val d) => .ok (.st d) ρ
  | some (.own d) => .ok (.st d) (ρ.set i (.val d))
  | _ => .bad
def opt {α : Type} (o : Option α) (ρ : En) : O α := match o with
  | some a => .ok a ρ
  | none => .bad
def op1 (g : D → Option D) (fa : EF) : EF := fun ρ => (fa ρ).bind fun x ρ1 => opt ((x.get ρ1).bind fun d => (g d).map Vl.st) ρ1
def op2 (g : D → D → Option D) (fa fb : EF) : EF := fun ρ => (fa ρ).bind fun x ρ1 => (fb ρ1).bind fun y ρ2 => opt ((x.get ρ2).bind fun d => (y.get ρ2).bind fun e => (g d e).map Vl.st) ρ2
def tst (g : D → Option Bool) (fa : EF) : BF := fun ρ => (fa ρ).bind fun x ρ1 => opt ((x.get ρ1).bind g) ρ1

section
variable {X : Cx} {B : Bs} {W : WX} {a b c e : Expr} {fa fb fc : EF} {pos : Pos}
theorem pd_c {v : V} {d : D} (h : PE X e (tC v)) (r : ∀ H, Rep X.K H v d) : PD X B W e (cst d) := PE.imp h fun σ H Q ⟨Hs, ρ, sl, q⟩ => q Hs H sl (.refl _) v (r Hs)
theorem pd_int {i j pos} : PD X B W (.Constant (.int i) j pos) (cst (.int i)) := pd_c pe_int fun _ => .int i
theorem pd_bl {i j pos} : PD X B W (.Constant (.bool i) j pos) (cst (.bool i)) := pd_c pe_bl fun _ => .bl i
/-- a constant of the module -/
theorem pd_gi {x : Str} {i : Int} {t : Tok} (hg : Gl X x) (hm : X.mg x = some (.int i t)) (hd : (x == ("__debug__" : Str)) = false := by decide) : PD X B W (.Name x pos) (cst (.int i)) := pd_c (pe_glob (v := .int i) hg hm ⟨t, rfl⟩ hd) fun _ => .int i
theorem sl_var {K : Fg} {Hs H : Hp} {σ : L2.St} {ρ : En} {i : Nat} {s : Slot} (sl : Sl K B Hs H σ ρ) (h : ρ[i]? = some s) : ∃ x, σ[i]? = some x := by
  have h1 : i < σ.length := by
    rw [sl.len]
    exact (List.getElem?_eq_some_iff.mp h).1
  exact ⟨_, List.getElem?_eq_getElem h1⟩
theorem pd_v {i : Nat} (h : PE X e (tVar i)) : PD X B W e (vr i) := PE.imp h fun σ H Q ⟨Hs, ρ, sl, q⟩ => by
  unfold vr at q
  cases es : ρ[i]? with
  | none => rw [es] at q; exact q.elim
  | some s =>
    rw [es] at q
    obtain ⟨x, ex⟩ := sl_var sl es
    have o := sl.ok i x s ex es
    cases s with
    | un => exact q.elim
    | gho n d => exact q.elim
    | tab T => exact q.elim
    | tre d =>
      obtain ⟨p, f, e1, _⟩ := o
      subst e1
      exact ⟨_, ex, q Hs H sl (.refl _) _ ex⟩
    | atr d =>
      obtain ⟨p, f, e1, _⟩ := o
      subst e1
      exact ⟨_, ex, q Hs H sl (.refl _) _ ex⟩
    | fn a =>
      cases o
      exact ⟨_, ex, q Hs H sl (.refl _) _ rfl⟩
    | val d =>
      obtain ⟨v, e1, r⟩ := o
      subst e1
      exact ⟨v, ex, q Hs H sl (.refl _) v r⟩
    | own d =>
      obtain ⟨p, e1, _⟩ := o
      subst e1
      exact ⟨_, ex, q Hs H sl (.refl _) _ ex⟩
    | arg d =>
      obtain ⟨p, e1, _⟩ := o
      subst e1
      exact ⟨_, ex, q Hs H sl (.refl _) _ ex⟩
end
section
variable {K : Fg} {B : Bs} {Hs H : Hp} {σ : L2.St} {ρ : En}
theorem Cont.frozen {p : Addr} {d : D} {o : HO} (c : Cont K Hs H p d) (e : H p = some o) (n : Hs p = none) : Rep K (upd Hs p o) (.ref p) d := by
  have s : Same Hs (upd Hs p o) := same_upd n
  cases d with
  | list ds =>
    obtain ⟨vs, a, b⟩ := c
    rw [a] at e; cases e
    exact .lst upd_same (b.mono s)
  | dict kvs =>
    rcases c with ⟨ks, a, b⟩ | ⟨ks, es, rfl, a, b⟩ | ⟨ys, es, rfl, a, b⟩
    · rw [a] at e; cases e
      exact .dK (.inl upd_same) (b.mono s)
    · rw [a] at e; cases e
      exact .dT (.inl upd_same) (b.mono s)
    · rw [a] at e; cases e
      exact .dN upd_same (b.mono s)
  | _ => exact c.elim
/-- the stable heap takes an object of H that no slot owns -/
theorem Sl.take {p : Addr} {o : HO} (sl : Sl K B Hs H σ ρ) (e : H p = some o) (n : Hs p = none) (z : B.nw p)
    (hp : Nob K B Hs H σ ρ p) : Sl K B (upd Hs p o) H σ ρ := by
  have sm : Same Hs (upd Hs p o) := same_upd n
  obtain ⟨F, h, nF⟩ := hp
  have st : ∀ i, ∀ c ∈ F i, Hs c = none → upd Hs p o c = none := fun i c hc q => by rw [upd_ne (fun z => nF i (by rw [← z]; exact hc))]; exact q
  exact {
    len := sl.len
    ok := fun i x s a b => (sl.ok i x s a b).stays (h.at_ i x s a b) sm (fun _ _ _ e => e) (st i)
    sub := fun b u h => by
      by_cases hb : b = p
      · subst hb; rw [upd_same] at h; cases h; exact e
      · rw [upd_ne hb] at h; exact sl.sub _ _ h
    base := sl.base.trans (same_upd n)
    new := fun a => by
      by_cases hb : a = p
      · subst hb; exact .inr (.inr (.inl z))
      · rw [upd_ne hb]; exact sl.new a
    keep := sl.keep
    there := sl.there
    feet := ⟨F, fun i x s a b => (h.at_ i x s a b).mono sm (fun _ _ _ e => e) (st i), h.out, h.dis⟩ }
theorem FeetOk.reslot {F : Nat → List Addr} {i : Nat} {s : Slot} (h : FeetOk K B Hs H σ ρ F) (nm : s.mut = false) : FeetOk K B Hs H σ (ρ.set i s) fun j => if i = j then [] else F j := ⟨fun j x t a b => by
    by_cases e : i = j
    · subst e
      have hl := (List.getElem?_eq_some_iff.mp b).1
      rw [List.length_set] at hl
      rw [List.getElem?_set_self hl] at b
      cases b
      rw [if_pos rfl]
      cases s <;> first | (cases nm; done) | rfl
    · rw [List.getElem?_set_ne e] at b
      rw [if_neg e]
      exact h.at_ j x t a b, fun j a => by
    by_cases e : i = j
    · rw [if_pos e]
    · rw [if_neg e]
      rw [List.getElem?_set_ne e] at a
      exact h.out j a, fun j k hjk a ha hb => by
    by_cases e : i = j
    · rw [if_pos e] at ha; cases ha
    · by_cases e2 : i = k
      · rw [if_pos e2] at hb; cases hb
      · rw [if_neg e] at ha
        rw [if_neg e2] at hb
        exact h.dis j k hjk a ha hb⟩
theorem FeetOk.grow {F : Nat → List Addr} {Hs' H' : Hp} (h : FeetOk K B Hs H σ ρ F) (sl : Sl K B Hs H σ ρ) (g : Grow Hs H Hs' H') : FeetOk K B Hs' H' σ ρ F := by
  refine ⟨fun i x s a b => ?_, h.out, h.dis⟩
  have th := (h.at_ i x s a b).there (sl.ok i x s a b)
  exact (h.at_ i x s a b).mono g.s (fun c _ o e => g.h _ _ e) fun c hc n => by
    rcases g.new c with q | q | q
    · exact q
    · exact absurd n q
    · exact ((th c hc).1.nofree q).elim
theorem Nob.grow {p : Addr} {Hs' H' : Hp} (n : Nob K B Hs H σ ρ p) (sl : Sl K B Hs H σ ρ) (g : Grow Hs H Hs' H') : Nob K B Hs' H' σ ρ p := by
  obtain ⟨F, h, q⟩ := n
  exact ⟨F, h.grow sl g, q⟩
theorem Nob.reslot {p : Addr} {i : Nat} {s : Slot} (n : Nob K B Hs H σ ρ p) (nm : s.mut = false) : Nob K B Hs H σ (ρ.set i s) p := by
  obtain ⟨F, h, q⟩ := n
  exact ⟨_, h.reslot nm, fun j m => by
    by_cases e : i = j
    · rw [if_pos e] at m; cases m
    · rw [if_neg e] at m; exact q j m⟩
/-- what a slot owned is nobody's once the slot is forgotten -/
theorem Sl.nob_un {i : Nat} {s t : Slot} {p : Addr} (sl : Sl K B Hs H σ ρ) (h : ρ[i]? = some s) (m : s.nmd = true) (hp : σ[i]? = some (some (.ref p))) (nm : t.mut = false) : Nob K B Hs H σ (ρ.set i t) p := by
  obtain ⟨F, f⟩ := sl.feet
  obtain ⟨p', e1, e2⟩ := (f.at_ i _ s hp h).root m
  cases e1
  refine ⟨_, f.reslot nm, fun j q => ?_⟩
  by_cases e : i = j
  · rw [if_pos e] at q; cases q
  · rw [if_neg e] at q
    exact f.dis i j e p e2 q
/-- a slot forgotten, or told of anew -/
theorem Sl.reslot {i : Nat} {s : Slot} (sl : Sl K B Hs H σ ρ) (hi : ∀ x, σ[i]? = some x → SlotOk K B Hs H x s) (nm : s.mut = false) : Sl K B Hs H σ (ρ.set i s) where
  len := by rw [List.length_set]; exact sl.len
  ok := fun j x t a b => by
    by_cases h : i = j
    · subst h
      have hl := (List.getElem?_eq_some_iff.mp b).1
      rw [List.length_set] at hl
      rw [List.getElem?_set_self hl] at b
      cases b
      exact hi x a
    · rw [List.getElem?_set_ne h] at b
      exact sl.ok j x t a b
  sub := sl.sub
  base := sl.base
  new := sl.new
  keep := sl.keep
  there := sl.there
  feet := by
    obtain ⟨F, h⟩ := sl.feet
    exact ⟨_, h.reslot nm⟩
theorem Sl.freeze {i : Nat} {d : D} {p : Addr} (sl : Sl K B Hs H σ ρ) (h : ρ[i]? = some (.own d)) (hp : σ[i]? = some (some (.ref p))) :
    ∃ Hs', Same Hs Hs' ∧ Sl K B Hs' H σ (ρ.set i (.val d)) ∧ Rep K Hs' (.ref p) d := by
  obtain ⟨p', e1, n, z, c⟩ := sl.ok i _ _ hp h
  cases e1
  obtain ⟨o, eo⟩ := c.there
  have r := c.frozen eo n
  have s1 : Sl K B Hs H σ (ρ.set i .un) := sl.reslot (fun _ _ => trivial) rfl
  have hi : i < ρ.length := (List.getElem?_eq_some_iff.mp h).1
  have s2 := s1.take eo n z (sl.nob_un h rfl hp rfl)
  have s3 := s2.reslot (i := i) (s := .val d) (fun x hx => by
    rw [hp] at hx; cases hx
    exact ⟨_, rfl, r⟩) rfl
  rw [List.set_set] at s3
  exact ⟨_, same_upd n, s3, r⟩
end
section
variable {X : Cx} {B : Bs} {W : WX} {a b c e : Expr} {fa fb fc : EF} {pos : Pos}
theorem pd_f {i : Nat} (h : PE X e (tVar i)) : PD X B W e (frz i) := PE.imp h fun σ H Q ⟨Hs, ρ, sl, q⟩ => by
  unfold frz at q
  cases es : ρ[i]? with
  | none => rw [es] at q; exact q.elim
  | some s =>
    rw [es] at q
    obtain ⟨x, ex⟩ := sl_var sl es
    have o := sl.ok i x s ex es
    cases s with
    | un => exact q.elim
    | fn a => exact q.elim
    | arg d => exact q.elim
    | tre d => exact q.elim
    | atr d => exact q.elim
    | gho n d => exact q.elim
    | tab T => exact q.elim
    | val d =>
      obtain ⟨v, e1, r⟩ := o
      subst e1
      exact ⟨v, ex, q Hs H sl (.refl _) v r⟩
    | own d =>
      obtain ⟨p, e1, _⟩ := o
      subst e1
      obtain ⟨Hs', sm, sl', r⟩ := sl.freeze es ex
      exact ⟨_, ex, q Hs' H sl' sm _ r⟩
end
end DL
namespace DL
open PySem PySem.Spec PyProof.Rows L2
def rX (K : Fg) (g : D → D → Option D) : R2 := fun x y H Q => ∃ Hs d e z, Same Hs H ∧ Shal K Hs H x d ∧ Shal K Hs H y e ∧ g d e = some z ∧ ∀ v Hs' H', Grow Hs H Hs' H' → Rep K Hs' v z → Q v H'
abbrev OpX (X : Cx) (f : Value → Value → Sem Value) (g : D → D → Option D) : Prop := OpR X f (rX X.K g)
/-- .. whose answer is a new object -/
def rXn (K : Fg) (g : D → D → Option D) : R2 := fun x y H Q => ∃ Hs d e z, Same Hs H ∧ Shal K Hs H x d ∧ Shal K Hs H y e ∧ g d e = some z ∧ ∀ p H', H p = none → Grow Hs H Hs H' → Cont K Hs H' p z → Q (.ref p) H'
abbrev OpN (X : Cx) (f : Value → Value → Sem Value) (g : D → D → Option D) : Prop := OpR X f (rXn X.K g)
section
variable {K : Fg} {mg : MG} {B : Bs} {W : WX} {fa fb : EF} {g : D → D → Option D} {σ : L2.St} {H : Hp} {Q : VK}
theorem op2_read (h : tD K mg B W (op2 g fa fb) σ H Q) : tOp (rX K g) (tD K mg B W fa) (tD K mg B W fb) σ H Q := by
  obtain ⟨Hs, ρ, sl, q⟩ := h
  refine ⟨Hs, ρ, sl, OP.imp (OP.bind q) fun x ρ1 Hs1 H1 _ sl1 e1 q1 v hv => ?_⟩
  refine ⟨Hs1, ρ1, sl1, OP.imp (OP.bind q1) fun y ρ2 Hs2 H2 _ sl2 e2 q2 u hu => ?_⟩
  cases ex : x.get ρ2 with
  | none => rw [ex] at q2; exact q2.elim
  | some d =>
    cases ey : y.get ρ2 with
    | none => rw [ex, ey] at q2; exact q2.elim
    | some e =>
      cases ez : g d e with
      | none => rw [ex, ey, Option.bind_some, Option.bind_some, ez] at q2; exact q2.elim
      | some z =>
        rw [ex, ey, Option.bind_some, Option.bind_some, ez] at q2
        have hv2 : VlOk K Hs2 σ v x := by
          cases x with
          | st d => exact Rep.mono e2 hv
          | «at» i => exact hv
          | fn a => exact hv
        refine ⟨Hs2, d, e, z, sl2.sub, sl2.look hv2 ex, sl2.look hu ey, ez, fun w Hs' H' gr r => ?_⟩
        exact q2 Hs' H' (sl2.grow gr) gr.s w r
end
section
variable {X : Cx} {B : Bs} {W : WX} {a b c e : Expr} {fa fb fc : EF} {pos : Pos} {g : D → D → Option D}
theorem pd_bin {op : Operator} (ho : OpX X (binaryOp op) g) (ha : PD X B W a fa) (hb : PD X B W b fb) : PD X B W (.BinOp a op b pos) (op2 g fa fb) :=
  PE.imp (pe_op ho ha hb) fun _ _ _ h => op2_read h
theorem pd_cmp {op : CmpOp} (ho : OpX X (compareOp op) g) (ha : PD X B W a fa) (hb : PD X B W b fb) (hm : behindInMarks op b = false) : PD X B W (.Compare a [op] [b] pos) (op2 g fa fb) :=
  PE.imp (pe_cmpR ho ha hb hm) fun _ _ _ h => op2_read h
theorem pd_ix (hr : IxR X (rX X.K g)) (ha : PD X B W a fa) (hb : PD X B W b fb) (hs : PlainIx b) : PD X B W (.Subscript a b pos) (op2 g fa fb) :=
  PE.imp (pe_ix hr ha hb hs) fun _ _ _ h => op2_read h
end
def subD : D → D → Option D
  | .int i, .int j => some (.int (i - j))
  | _, _ => none
/-- the sizes that a product may have -/
def mulOk (i j : Int) : Bool := decide (i.natAbs < 18446744073709551616) || decide (j.natAbs < 18446744073709551616)
def mulI : D → D → Option D
  | .int i, .int j => if mulOk i j = true then some (.int (i * j)) else none
  | _, _ => none
def divOk (j : Int) : Bool := decide (0 < j) && decide (j.natAbs.log2 < 9000)
def divD : D → D → Option D
  | .int i, .int j => if divOk j = true then some (.int (i / j)) else none
  | _, _ => none
def modD : D → D → Option D
  | .int i, .int j => if 0 < j then some (.int (i % j)) else none
  | _, _ => none
def powOk (i j : Int) : Bool := decide (0 ≤ j) && decide (j ≤ 1000000) && decide (i.natAbs < 18446744073709551616)
def powD : D → D → Option D
  | .int i, .int j => if powOk i j = true then some (.int (i ^ j.toNat)) else none
  | _, _ => none
def cmpI (p : Int → Int → Bool) : D → D → Option D
  | .int i, .int j => some (.bool (p i j))
  | _, _ => none
section
variable {X : Cx} {f : Value → Value → Sem Value}
theorem OpX.int {C : Int → Int → Prop} {h : Int → Int → Int} {g : D → D → Option D} (ho : OpR X f (rI C fun i j => .int (h i j)))
    (hg : ∀ d e z, g d e = some z → ∃ i j, d = .int i ∧ e = .int j ∧ C i j ∧ z = .int (h i j)) : OpX X f g := fun pins s σ H x y v u Q I rx ry q => by
  obtain ⟨Hs, d, e, z, sb, sx, sy, ez, q⟩ := q
  obtain ⟨i, j, rfl, rfl, c, rfl⟩ := hg _ _ _ ez
  exact ho pins s σ H x y v u Q I rx ry ⟨i, j, sx.int, sy.int, c, q _ Hs H (.refl sb) (.int _)⟩
theorem OpX.bl {h : Int → Int → Bool} (ho : OpR X f (rI0 fun i j => .bl (h i j))) : OpX X f (cmpI h) := fun pins s σ H x y v u Q I rx ry q => by
  obtain ⟨Hs, d, e, z, sb, sx, sy, ez, q⟩ := q
  cases d <;> cases e <;> cases ez
  exact ho pins s σ H x y v u Q I rx ry ⟨_, _, sx.int, sy.int, q _ Hs H (.refl sb) (.bl _)⟩
theorem ox_sub : OpX X (binaryOp .Sub) subD := OpX.int (C := fun _ _ => True) (h := fun i j => i - j) (fun pins s σ H x y v u Q I rx ry ⟨i, j, a, b, _, q⟩ => op_sub pins s σ H x y v u Q I rx ry ⟨i, j, a, b, q⟩) fun d e z h => by
  cases d <;> cases e <;> cases h
  exact ⟨_, _, rfl, rfl, trivial, rfl⟩
theorem mul_ok {i j : Int} (h : mulOk i j = true) : CMul i j := by
  unfold mulOk at h
  rcases Bool.or_eq_true_iff.mp h with h | h
  · have := of_decide_eq_true h
    exact .inl (by omega)
  · have := of_decide_eq_true h
    exact .inr (by omega)
theorem ox_mulI : OpX X (binaryOp .Mult) mulI := OpX.int op_mul fun d e z h => by
  cases d <;> cases e <;> first | cases h | skip
  rename_i i j
  unfold mulI at h
  dsimp only at h
  by_cases c : mulOk i j = true
  · rw [if_pos c] at h; cases h
    exact ⟨_, _, rfl, rfl, mul_ok c, rfl⟩
  · rw [if_neg c] at h; cases h
theorem ox_div : OpX X (binaryOp .FloorDiv) divD := OpX.int op_fdivW fun d e z h => by
  cases d <;> cases e <;> first | cases h | skip
  rename_i i j
  unfold divD at h
  dsimp only at h
  by_cases c : divOk j = true
  · rw [if_pos c] at h; cases h
    unfold divOk at c
    obtain ⟨c1, c2⟩ := Bool.and_eq_true_iff.mp c
    exact ⟨_, _, rfl, rfl, ⟨of_decide_eq_true c1, of_decide_eq_true c2⟩, rfl⟩
  · rw [if_neg c] at h; cases h
theorem ox_mod : OpX X (binaryOp .Mod) modD := OpX.int op_mod fun d e z h => by
  cases d <;> cases e <;> first | cases h | skip
  rename_i i j
  unfold modD at h
  dsimp only at h
  by_cases c : 0 < j
  · rw [if_pos c] at h; cases h
    exact ⟨_, _, rfl, rfl, c, rfl⟩
  · rw [if_neg c] at h; cases h
theorem ox_pow : OpX X (binaryOp .Pow) powD := OpX.int op_pow fun d e z h => by
  cases d <;> cases e <;> first | cases h | skip
  rename_i i j
  unfold powD at h
  dsimp only at h
  by_cases c : powOk i j = true
  · rw [if_pos c] at h; cases h
    unfold powOk at c
    obtain ⟨c, c3⟩ := Bool.and_eq_true_iff.mp c
    obtain ⟨c1, c2⟩ := Bool.and_eq_true_iff.mp c
    have := of_decide_eq_true c3
    exact ⟨_, _, rfl, rfl, ⟨of_decide_eq_true c1, of_decide_eq_true c2, by omega⟩, rfl⟩
  · rw [if_neg c] at h; cases h
abbrev ltD := cmpI fun i j => decide (i < j)
abbrev leD := cmpI fun i j => decide (i ≤ j)
abbrev gtD := cmpI fun i j => decide (j < i)
abbrev geD := cmpI fun i j => decide (j ≤ i)
theorem ox_lt : OpX X (compareOp .Lt) ltD := OpX.bl op_lt
theorem ox_le : OpX X (compareOp .LtE) leD := OpX.bl op_le
theorem ox_gt : OpX X (compareOp .Gt) gtD := OpX.bl op_gt
theorem ox_ge : OpX X (compareOp .GtE) geD := OpX.bl op_ge
end
def eqOk (d e : D) : Bool := plain d && plain e && SeqAt.shaped d && SeqAt.shaped e
def eqD (d e : D) : Option D := if eqOk d e = true then some (.bool (PyData.eqv d e)) else none
def neD (d e : D) : Option D := if eqOk d e = true then some (.bool (!PyData.eqv d e)) else none
def isNone : D → Bool
  | .none => true
  | _ => false
def isD : D → D → Option D
  | d, .none => some (.bool (isNone d))
  | _, _ => none
def isntD : D → D → Option D
  | d, .none => some (.bool (!isNone d))
  | _, _ => none
section
variable {X : Cx}
theorem eq_ok {d e : D} (h : eqOk d e = true) : plain d = true ∧ plain e = true ∧ SeqAt.shaped d = true ∧ SeqAt.shaped e = true := by
  unfold eqOk at h
  simp only [Bool.and_eq_true] at h
  exact ⟨h.1.1.1, h.1.1.2, h.1.2, h.2⟩
theorem ox_eq (hu : X.A.units + 64 < cLine) : OpX X (compareOp .Eq) eqD := fun pins s σ H x y v u Q I rx ry q => by
  obtain ⟨Hs, d, e, z, sb, sx, sy, ez, q⟩ := q
  unfold eqD at ez
  by_cases c : eqOk d e = true
  · rw [if_pos c] at ez; cases ez
    obtain ⟨p1, p2, s1, s2⟩ := eq_ok c
    exact op_eqD hu pins s σ H x y v u Q I rx ry ⟨d, e, (sx.rep sb).dp p1, (sy.rep sb).dp p2, s1, s2, q _ Hs H (.refl sb) (.bl _)⟩
  · rw [if_neg c] at ez; cases ez
theorem ox_ne (hu : X.A.units + 64 < cLine) : OpX X (compareOp .NotEq) neD := fun pins s σ H x y v u Q I rx ry q => by
  obtain ⟨Hs, d, e, z, sb, sx, sy, ez, q⟩ := q
  unfold neD at ez
  by_cases c : eqOk d e = true
  · rw [if_pos c] at ez; cases ez
    obtain ⟨p1, p2, s1, s2⟩ := eq_ok c
    exact op_neD hu pins s σ H x y v u Q I rx ry ⟨d, e, (sx.rep sb).dp p1, (sy.rep sb).dp p2, s1, s2, q _ Hs H (.refl sb) (.bl _)⟩
  · rw [if_neg c] at ez; cases ez
theorem Shal.isN {K : Fg} {Hs H : Hp} {x : V} {d : D} (s : Shal K Hs H x d) : decide (x = .non) = isNone d := by
  rcases s with h | ⟨p, rfl, c⟩
  · cases h <;> rfl
  · cases d with
    | none => exact c.elim
    | _ => rfl
end
def ixD : D → D → Option D
  | .list ds, .int i => atI ds i
  | .tuple ds, .int i => atI ds i
  | .str z, .int i => if z.length ≤ sizeLine then (atI z.cps.toList i).map fun c => .str ⟨#[c]⟩ else none
  | _, _ => none
theorem RepA.atI {K : Fg} {H : Hp} {vs : List V} {ds : List D} {i : Int} {d : D} (r : RepA K H vs ds) (h : L2.atI ds i = some d) : ∃ v, L2.atI vs i = some v ∧ Rep K H v d := by
  unfold L2.atI at h ⊢
  rw [r.length]
  cases e : ixN ds.length i with
  | none => rw [e] at h; cases h
  | some j =>
    rw [e] at h
    exact r.get (by simpa using h)
section
variable {X : Cx}
theorem ix_data : IxR X (rX X.K ixD) := fun value slice pins s σ H x y v u Q I rx ry q hs => by
  obtain ⟨Hs, d, e, z, sb, sx, sy, ez, q⟩ := q
  cases e <;> first | (cases d <;> cases ez; done) | skip
  rename_i i
  have ey := sy.int
  cases d <;> first | (cases ez; done) | skip
  · rename_i w
    unfold ixD at ez
    dsimp only at ez
    by_cases c : w.length ≤ sizeLine
    · rw [if_pos c] at ez
      cases ea : L2.atI w.cps.toList i with
      | none => rw [ea] at ez; cases ez
      | some cc =>
        rw [ea] at ez; cases ez
        exact ix_str value slice pins s σ H x y v u Q I rx ry ⟨w, i, cc, sx.str, ey, c, ea, q _ Hs H (.refl sb) (.str _)⟩ hs
    · rw [if_neg c] at ez; cases ez
  · obtain ⟨p, vs, e1, h1, r⟩ := sx.lst sb
    obtain ⟨w, h2, r2⟩ := r.atI ez
    exact ix_list value slice pins s σ H x y v u Q I rx ry ⟨p, vs, i, w, e1, ey, .inl (.inl h1), h2, q _ Hs H (.refl sb) r2⟩ hs
  · obtain ⟨p, vs, e1, h1, r⟩ := sx.tup sb
    obtain ⟨w, h2, r2⟩ := r.atI ez
    exact ix_tup value slice pins s σ H x y v u Q I rx ry ⟨p, vs, i, w, e1, ey, h1, h2, q _ Hs H (.refl sb) r2⟩ hs
end
end DL
namespace DL
open PySem PySem.Spec PyProof.Rows L2
def rX1 (K : Fg) (g : D → Option D) : V → Hp → VK → Prop := fun x H Q => ∃ Hs d z, Same Hs H ∧ Shal K Hs H x d ∧ g d = some z ∧ ∀ v Hs' H', Grow Hs H Hs' H' → Rep K Hs' v z → Q v H'
def negD : D → Option D
  | .int i => some (.int (-i))
  | _ => none
def andF (fa fb : EF) : EF := fun ρ => (fa ρ).bind fun x ρ1 => match x.get ρ1 with
  | some (.bool c) => if c = true then fb ρ1 else .ok (.st (.bool false)) ρ1
  | _ => .bad
def orF (fa fb : EF) : EF := fun ρ => (fa ρ).bind fun x ρ1 => match x.get ρ1 with
  | some (.bool c) => if c = true then .ok (.st (.bool true)) ρ1 else fb ρ1
  | _ => .bad
def notD : D → Option D
  | .bool c => some (.bool (!c))
  | _ => none
def ifF (c : BF) (fa fb : EF) : EF := fun ρ => (c ρ).bind fun b ρ1 => if b = true then fa ρ1 else fb ρ1
def boolOf : D → Option Bool
  | .bool b => some b
  | _ => none
abbrev bF (f : EF) : BF := tst boolOf f
def andB (f g : BF) : BF := fun ρ => (f ρ).bind fun b ρ1 => if b = true then g ρ1 else .ok false ρ1
def orB (f g : BF) : BF := fun ρ => (f ρ).bind fun b ρ1 => if b = true then .ok true ρ1 else g ρ1
def notB (f : BF) : BF := fun ρ => (f ρ).bind fun b ρ1 => .ok (!b) ρ1
def chF (g g' : D → D → Option D) (fa fb fc : EF) : EF := fun ρ => (fa ρ).bind fun x ρ1 => (fb ρ1).bind fun y ρ2 =>
  match (x.get ρ2).bind fun d => (y.get ρ2).bind fun e => g d e with
  | some (.bool k) => if k = true then (fc ρ2).bind fun z ρ3 => opt ((y.get ρ3).bind fun d => (z.get ρ3).bind fun e => (g' d e).map Vl.st) ρ3 else .ok (.st (.bool false)) ρ2
  | _ => .bad

section
variable {K : Fg} {mg : MG} {B : Bs} {W : WX} {fa fb fc : EF} {g g' : D → D → Option D} {g1 : D → Option D} {σ : L2.St} {H : Hp} {Q : VK}
theorem VlOk.mono {Hs Hs' : Hp} {v : V} {x : Vl} (h : VlOk K Hs σ v x) (e : Same Hs Hs') : VlOk K Hs' σ v x := by
  cases x with
  | st d => exact Rep.mono e h
  | «at» i => exact h
  | fn a => exact h
theorem op1_read (h : tD K mg B W (op1 g1 fa) σ H Q) : tUn (rX1 K g1) (tD K mg B W fa) σ H Q := by
  obtain ⟨Hs, ρ, sl, q⟩ := h
  refine ⟨Hs, ρ, sl, OP.imp (OP.bind q) fun x ρ1 Hs1 H1 _ sl1 e1 q1 v hv => ?_⟩
  cases ex : x.get ρ1 with
  | none => rw [ex] at q1; exact q1.elim
  | some d =>
    cases ez : g1 d with
    | none => rw [ex, Option.bind_some, ez] at q1; exact q1.elim
    | some z =>
      rw [ex, Option.bind_some, ez] at q1
      exact ⟨Hs1, d, z, sl1.sub, sl1.look hv ex, ez, fun w Hs' H' gr r => q1 Hs' H' (sl1.grow gr) gr.s w r⟩
/-- a value that is a bool, read as a bool -/
theorem bF_read {Q : Bool → Hp → Prop} (h : tTD K mg B W (bF fa) σ H Q) : tD K mg B W fa σ H (fun x H' => ∃ k, x = .bl k ∧ Q k H') := by
  obtain ⟨Hs, ρ, sl, q⟩ := h
  refine ⟨Hs, ρ, sl, OP.imp (OP.bind q) fun x ρ1 Hs1 H1 _ sl1 e1 q1 v hv => ?_⟩
  cases ex : x.get ρ1 with
  | none => rw [ex] at q1; exact q1.elim
  | some d =>
    rw [ex, Option.bind_some] at q1
    cases d <;> first | exact q1.elim | skip
    exact ⟨_, (sl1.look hv ex).bl, q1 Hs1 H1 sl1 (.refl _)⟩
theorem andF_read (h : tD K mg B W (andF fa fb) σ H Q) : tAndV (tD K mg B W fa) (tD K mg B W fb) σ H Q := by
  obtain ⟨Hs, ρ, sl, q⟩ := h
  refine ⟨Hs, ρ, sl, OP.imp (OP.bind q) fun x ρ1 Hs1 H1 _ sl1 e1 q1 v hv => ?_⟩
  cases ex : x.get ρ1 with
  | none => rw [ex] at q1; exact q1.elim
  | some d =>
    rw [ex] at q1
    cases d <;> first | exact q1.elim | skip
    rename_i c
    refine ⟨c, (sl1.look hv ex).bl, ?_⟩
    cases c with
    | true => exact ⟨Hs1, ρ1, sl1, q1⟩
    | false => exact q1 Hs1 H1 sl1 (.refl _) _ (.bl _)
theorem andB_read {f f' : BF} {Q : Bool → Hp → Prop} (h : tTD K mg B W (andB f f') σ H Q) : tAnd (tTD K mg B W f) (tTD K mg B W f') σ H Q := by
  obtain ⟨Hs, ρ, sl, q⟩ := h
  refine ⟨Hs, ρ, sl, OP.imp (OP.bind q) fun b ρ1 Hs1 H1 _ sl1 e1 q1 => ?_⟩
  cases b with
  | true => exact ⟨Hs1, ρ1, sl1, q1⟩
  | false => exact q1 Hs1 H1 sl1 (.refl _)
theorem orB_read {f f' : BF} {Q : Bool → Hp → Prop} (h : tTD K mg B W (orB f f') σ H Q) : tOr (tTD K mg B W f) (tTD K mg B W f') σ H Q := by
  obtain ⟨Hs, ρ, sl, q⟩ := h
  refine ⟨Hs, ρ, sl, OP.imp (OP.bind q) fun b ρ1 Hs1 H1 _ sl1 e1 q1 => ?_⟩
  cases b with
  | true => exact q1 Hs1 H1 sl1 (.refl _)
  | false => exact ⟨Hs1, ρ1, sl1, q1⟩
theorem notB_read {f : BF} {Q : Bool → Hp → Prop} (h : tTD K mg B W (notB f) σ H Q) : tNot (tTD K mg B W f) σ H Q := by
  obtain ⟨Hs, ρ, sl, q⟩ := h
  exact ⟨Hs, ρ, sl, OP.imp (OP.bind q) fun b ρ1 Hs1 H1 _ sl1 e1 q1 => q1 Hs1 H1 sl1 (.refl _)⟩
theorem chF_read (h : tD K mg B W (chF g g' fa fb fc) σ H Q) : tChain (rX K g) (rX K g') (tD K mg B W fa) (tD K mg B W fb) (tD K mg B W fc) σ H Q := by
  obtain ⟨Hs, ρ, sl, q⟩ := h
  refine ⟨Hs, ρ, sl, OP.imp (OP.bind q) fun x ρ1 Hs1 H1 _ sl1 e1 q1 v hv => ?_⟩
  refine ⟨Hs1, ρ1, sl1, OP.imp (OP.bind q1) fun y ρ2 Hs2 H2 _ sl2 e2 q2 u hu => ?_⟩
  cases ex : x.get ρ2 with
  | none => rw [ex] at q2; exact q2.elim
  | some d =>
    cases ey : y.get ρ2 with
    | none => rw [ex, ey] at q2; exact q2.elim
    | some e =>
      rw [ex, ey, Option.bind_some, Option.bind_some] at q2
      cases ez : g d e with
      | none => rw [ez] at q2; exact q2.elim
      | some z =>
        rw [ez] at q2
        cases z <;> first | exact q2.elim | skip
        rename_i k
        refine ⟨Hs2, d, e, _, sl2.sub, sl2.look (hv.mono e2) ex, sl2.look hu ey, ez, fun w Hs' H' gr r => ?_⟩
        cases r
        refine ⟨k, rfl, ?_⟩
        have sl3 := sl2.grow gr
        cases k with
        | false => exact q2 Hs' H' sl3 gr.s _ (.bl _)
        | true =>
          refine ⟨Hs', ρ2, sl3, OP.later (OP.imp (OP.bind q2) fun z ρ4 Hs4 H4 _ sl4 e4 q4 t ht => ?_) gr.s⟩
          cases ey4 : y.get ρ4 with
          | none => rw [ey4] at q4; exact q4.elim
          | some d4 =>
            cases ez4 : z.get ρ4 with
            | none => rw [ey4, ez4] at q4; exact q4.elim
            | some d5 =>
              cases eg : g' d4 d5 with
              | none => rw [ey4, ez4, Option.bind_some, Option.bind_some, eg] at q4; exact q4.elim
              | some d6 =>
                rw [ey4, ez4, Option.bind_some, Option.bind_some, eg] at q4
                exact ⟨Hs4, d4, d5, d6, sl4.sub, sl4.look (hu.mono e4) ey4, sl4.look ht ez4, eg, fun w Hs5 H5 gr5 r5 => q4 Hs5 H5 (sl4.grow gr5) gr5.s w r5⟩
end
end DL
namespace DL
open PySem PySem.Spec PyProof.Rows L2
section
variable {X : Cx} {B : Bs} {W : WX} {a b c e : Expr} {fa fb fc : EF} {pos : Pos} {g g' : D → D → Option D} {rest : List Expr} {fB gB : BF}
theorem pd_neg (ha : PD X B W a fa) : PD X B W (.UnaryOp .USub a pos) (op1 negD fa) :=
  PE.imp (pe_un (r := rX1 X.K negD) (fun pins s σ H x v Q I rx ⟨Hs, d, z, sb, sx, ez, q⟩ => by
    cases d <;> cases ez
    exact un_neg pins s σ H x v Q I rx ⟨_, sx.int, q _ Hs H (.refl sb) (.int _)⟩) ha) fun _ _ _ h => op1_read h
theorem pd_one {op} (h : PD X B W a fa) : PD X B W (.BoolOp op [a] pos) fa := pe_one h
theorem pd_and (ha : PD X B W a fa) (hb : PD X B W (.BoolOp .And (b :: rest) pos) fb) : PD X B W (.BoolOp .And (a :: b :: rest) pos) (andF fa fb) := PE.imp (pe_and ha hb) fun _ _ _ h => andF_read h
theorem pd_ch {op op' : CmpOp} (ho : OpX X (compareOp op) g) (ho' : OpX X (compareOp op') g') (ha : PD X B W a fa) (hb : PD X B W b fb) (hc : PD X B W c fc)
    (hm : lastMarks [op, op'] [b, c] = false := by with_unfolding_all rfl) : PD X B W (.Compare a [op, op'] [b, c] pos) (chF g g' fa fb fc) := PE.imp (pe_chain ho ho' ha hb hc hm) fun _ _ _ h => chF_read h
abbrev PWD (X : Cx) (B : Bs) (W : WX) (e : Expr) (f : BF) : Prop := PW X e (tTD X.K X.mg B W f)
theorem pb_v (ha : PD X B W a fa) (he : ∀ whole, isTrue a X.env whole = (do let v ← whole; standAt a.pos; holding [v] (truthy v)) := by intro _; rfl) : PB X B W a (bF fa) :=
  PT.imp (pt_val ha he) fun _ _ _ h => bF_read h
theorem pb_cmp {op : CmpOp} (ho : OpX X (compareOp op) g) (ha : PD X B W a fa) (hb : PD X B W b fb) (hm : behindInMarks op b = false) : PB X B W (.Compare a [op] [b] pos) (bF (op2 g fa fb)) :=
  PT.imp (pt_cmpR ho ha hb hm) fun _ _ _ h => op2_read (bF_read h)
theorem pb_ch {op op' : CmpOp} (ho : OpX X (compareOp op) g) (ho' : OpX X (compareOp op') g') (ha : PD X B W a fa) (hb : PD X B W b fb) (hc : PD X B W c fc)
    (hm : lastMarks [op, op'] [b, c] = false := by with_unfolding_all rfl) : PB X B W (.Compare a [op, op'] [b, c] pos) (bF (chF g g' fa fb fc)) := PT.imp (pt_chain ho ho' ha hb hc hm) fun _ _ _ h => chF_read (bF_read h)
theorem pw_a1 (h : PB X B W a fB) : PWD X B W (.BoolOp .And [a] pos) fB := pw_and1 h
theorem pw_o1 (h : PB X B W a fB) : PWD X B W (.BoolOp .Or [a] pos) fB := pw_or1 h
theorem pw_a (ha : PB X B W a fB) (hb : PWD X B W (.BoolOp .And (b :: rest) pos) gB) : PWD X B W (.BoolOp .And (a :: b :: rest) pos) (andB fB gB) := PW.imp (pw_and ha hb) fun _ _ _ h => andB_read h
theorem pw_o (ha : PB X B W a fB) (hb : PWD X B W (.BoolOp .Or (b :: rest) pos) gB) : PWD X B W (.BoolOp .Or (a :: b :: rest) pos) (orB fB gB) := PW.imp (pw_or ha hb) fun _ _ _ h => orB_read h
theorem pb_w (h : PWD X B W a fB) : PB X B W a fB := PW.pt h
theorem pb_not (h : PB X B W a fB) : PB X B W (.UnaryOp .Not a pos) (notB fB) := PT.imp (pt_not h) fun _ _ _ h => notB_read h
end
def nilF : AF := fun ρ => .ok [] ρ
def consF (f : EF) (r : AF) : AF := fun ρ => (f ρ).bind fun x ρ1 => (r ρ1).bind fun xs ρ2 => .ok (x :: xs) ρ2
section
variable {K : Fg} {mg : MG} {B : Bs} {W : WX} {fa : EF} {fr : AF} {σ : L2.St} {H : Hp}
theorem VlsOk.mono {Hs Hs' : Hp} (e : Same Hs Hs') : ∀ {vs : List V} {xs : List Vl}, VlsOk K Hs σ vs xs → VlsOk K Hs' σ vs xs
  | _, _, .nil => .nil
  | _, _, .cons a b => .cons (a.mono e) (VlsOk.mono e b)
theorem VlsOk.length {Hs : Hp} : ∀ {vs : List V} {xs : List Vl}, VlsOk K Hs σ vs xs → vs.length = xs.length
  | _, _, .nil => rfl
  | _, _, .cons _ b => congrArg Nat.succ b.length
theorem consF_read {Q : List V → Hp → Prop} (h : tAD K mg B W (consF fa fr) σ H Q) : tCons (tD K mg B W fa) (tAD K mg B W fr) σ H Q := by
  obtain ⟨Hs, ρ, sl, q⟩ := h
  refine ⟨Hs, ρ, sl, OP.imp (OP.bind q) fun x ρ1 Hs1 H1 _ sl1 e1 q1 v hv => ?_⟩
  exact ⟨Hs1, ρ1, sl1, OP.imp (OP.bind q1) fun xs ρ2 Hs2 H2 _ sl2 e2 q2 vs hvs => q2 Hs2 H2 sl2 (.refl _) _ (.cons (hv.mono e2) hvs)⟩
end
section
variable {X : Cx} {B : Bs} {W : WX} {a b c e : Expr} {es : List Expr} {fa fb fc : EF} {fr : AF} {pos : Pos} {cf : CF}
theorem pad_nil : PAD X B W [] nilF := PA.imp pa_nil fun _ H _ ⟨Hs, ρ, sl, q⟩ => q Hs H sl (.refl _) [] .nil
theorem pad_cons (ha : PD X B W a fa) (hr : PAD X B W es fr) (hs : starEach (a :: es) X.env = (false, eval a X.env) :: starEach es X.env := by rfl) : PAD X B W (a :: es) (consF fa fr) :=
  PA.imp (pa_cons ha hr hs) fun _ _ _ h => consF_read h

def stables : List Vl → Option (List D)
  | [] => some []
  | .st d :: xs => (stables xs).map (d :: ·)
  | .at _ :: _ => none
  | .fn _ :: _ => none
theorem VlsOk.stab {K : Fg} {Hs : Hp} {σ : L2.St} : ∀ {vs : List V} {xs : List Vl} {ds : List D}, VlsOk K Hs σ vs xs → stables xs = some ds → RepA K Hs vs ds
  | _, _, _, .nil, h => by cases h; exact .nil
  | _, .st d :: xs, _, .cons a b, h => by
    cases e : stables xs with
    | none => simp only [stables, e, Option.map_none] at h; cases h
    | some es =>
      simp only [stables, e, Option.map_some, Option.some.injEq] at h
      subst h
      exact .cons a (VlsOk.stab b e)
  | _, .at i :: xs, _, .cons _ _, h => by cases h
  | _, .fn i :: xs, _, .cons _ _, h => by cases h
def short (ds : List D) : Bool := decide (ds.length ≤ 100000)
theorem short_ok {ds : List D} {vs : List V} (h : short ds = true) (l : vs.length = ds.length) : vs.length ≤ sizeLine := by
  have h1 : ds.length ≤ 100000 := of_decide_eq_true h
  have h2 : (100000 : Nat) ≤ sizeLine := by decide
  omega
def sh (mk : List D → D) (ds : List D) : Option D := if short ds = true then some (mk ds) else none
def tupF (f : AF) : EF := fun ρ => (f ρ).bind fun xs ρ1 => opt (((stables xs).bind (sh .tuple)).map Vl.st) ρ1
def lstC (f : AF) : CF := fun ρ => (f ρ).bind fun xs ρ1 => opt ((stables xs).bind (sh .list)) ρ1
/-- a new object handed out for good -/
def frC (f : CF) : EF := fun ρ => (f ρ).bind fun d ρ1 => .ok (.st d) ρ1
theorem Sl.fresh {K : Fg} {B : Bs} {Hs H : Hp} {σ : L2.St} {ρ : En} (sl : Sl K B Hs H σ ρ) {p : Addr} (n : H p = none) :
    Hs p = none ∧ B.nw p ∧ Nob K B Hs H σ ρ p := by
  refine ⟨sl.sub.free n, sl.nw_of n, ?_⟩
  obtain ⟨F, f⟩ := sl.feet
  refine ⟨F, f, fun i m => ?_⟩
  cases e : ρ[i]? with
  | none => rw [f.out i e] at m; cases m
  | some s =>
    obtain ⟨x, ex⟩ := sl_var sl e
    obtain ⟨u, z⟩ := ((f.at_ i x s ex e).there (sl.ok i x s ex e) p m).1.some
    rw [n] at z; cases z
theorem pd_tup {x1} (h : PAD X B W es fr) : PD X B W (.Tuple es x1 pos) (tupF fr) := PE.imp (pe_tup h) fun σ H Q ⟨Hs, ρ, sl, q⟩ => by
  refine ⟨Hs, ρ, sl, OP.imp (OP.bind q) fun xs ρ1 Hs1 H1 _ sl1 e1 q1 vs hvs => ?_⟩
  cases es : stables xs with
  | none => rw [es] at q1; exact q1.elim
  | some ds =>
    rw [es, Option.bind_some] at q1
    unfold sh at q1
    by_cases c : short ds = true
    · rw [if_pos c] at q1
      have r := hvs.stab es
      refine ⟨short_ok c r.length, fun p np => ?_⟩
      have g : Grow Hs1 H1 _ _ := Grow.laid (o := .tup vs) sl1.sub np
      exact q1 _ _ (sl1.grow g) g.s _ (.tup upd_same (r.mono g.s))
    · rw [if_neg c] at q1; exact q1.elim
theorem pc_lst (h : PAD X B W es fr) : PC' X B W (.List es pos) (lstC fr) := PE.imp (pe_lst h) fun σ H Q ⟨Hs, ρ, sl, q⟩ => by
  refine ⟨Hs, ρ, sl, OP.imp (OP.bind q) fun xs ρ1 Hs1 H1 _ sl1 e1 q1 vs hvs => ?_⟩
  cases es : stables xs with
  | none => rw [es] at q1; exact q1.elim
  | some ds =>
    rw [es, Option.bind_some] at q1
    unfold sh at q1
    by_cases c : short ds = true
    · rw [if_pos c] at q1
      have r := hvs.stab es
      refine ⟨short_ok c r.length, fun p np => ?_⟩
      have g : Grow Hs1 H1 Hs1 (upd H1 p (.lst vs)) := Grow.loose sl1.sub np
      obtain ⟨f1, f2, f3⟩ := sl1.fresh np
      exact q1 _ _ (sl1.grow g) (.refl _) p f1 f2 (f3.grow sl1 g) ⟨vs, upd_same, r⟩
    · rw [if_neg c] at q1; exact q1.elim
theorem pd_fr (h : PC' X B W e cf) : PD X B W e (frC cf) := PE.imp h fun σ H Q ⟨Hs, ρ, sl, q⟩ => by
  refine ⟨Hs, ρ, sl, OP.imp (OP.bind q) fun d ρ1 Hs1 H1 _ sl1 e1 q1 p n1 n2 n3 c => ?_⟩
  obtain ⟨o, eo⟩ := c.there
  exact q1 _ H1 (sl1.take eo n1 n2 n3) (same_upd n1) _ (c.frozen eo n1)

def partF (f : Option EF) : En → O (Option Int) := match f with
  | none => fun ρ => .ok none ρ
  | some f => fun ρ => (f ρ).bind fun x ρ1 => match x.get ρ1 with
    | some (.int i) => .ok (some i) ρ1
    | _ => .bad
def tPD (K : Fg) (mg : MG) (B : Bs) (W : WX) (f : En → O (Option Int)) : TO := fun σ H Q => ∃ Hs ρ, Sl K B Hs H σ ρ ∧ OP K mg B W σ Hs (fun x _ Hs' H' => Q x H') (f ρ)
abbrev POD (X : Cx) (B : Bs) (W : WX) (e : Option Expr) (f : Option EF) : Prop := PO X e (tPD X.K X.mg B W (partF f))
theorem PO.imp {e : Option Expr} {t t' : TO} (h : PO X e t) (i : ∀ σ H Q, t' σ H Q → t σ H Q) : PO X e t' := ⟨fun pins s σ H Q I q => h.run pins s σ H Q I (i σ H Q q)⟩
theorem pod_none : POD X B W none none := PO.imp po_none fun σ H Q ⟨Hs, ρ, sl, q⟩ => q Hs H sl (.refl _)
theorem pod_some (h : PD X B W e fa) : POD X B W (some e) (some fa) := PO.imp (po_some h) fun σ H Q ⟨Hs, ρ, sl, q⟩ => by
  refine ⟨Hs, ρ, sl, OP.imp (OP.bind q) fun x ρ1 Hs1 H1 _ sl1 e1 q1 v hv => ?_⟩
  cases ex : x.get ρ1 with
  | none => rw [ex] at q1; exact q1.elim
  | some d =>
    rw [ex] at q1
    cases d <;> first | exact q1.elim | skip
    exact ⟨_, (sl1.look hv ex).int, q1 Hs1 H1 sl1 (.refl _)⟩
def cutD (xs : List D) (lo hi : Option Int) : List D := (xs.drop (HT.sIx xs.length 0 lo)).take (HT.sIx xs.length xs.length hi - HT.sIx xs.length 0 lo)
theorem RepA.cut {K : Fg} {H : Hp} {vs : List V} {ds : List D} (lo hi : Option Int) (r : RepA K H vs ds) : RepA K H (cutV vs lo hi) (cutD ds lo hi) := by
  unfold cutV cutD
  rw [r.length]
  exact (r.drop _).take _
def slF (g : D → Option Int → Option Int → Option D) (fa : EF) (lo hi : Option EF) : EF := fun ρ => (fa ρ).bind fun x ρ1 => (partF lo ρ1).bind fun l ρ2 => (partF hi ρ2).bind fun h ρ3 => opt (((x.get ρ3).bind fun d => g d l h).map Vl.st) ρ3
theorem cut_whole {xs : List D} {lo hi : Option Int} (h : HT.sIx xs.length 0 lo = 0 ∧ HT.sIx xs.length xs.length hi = xs.length) : cutD xs lo hi = xs := by
  unfold cutD
  rw [h.1, h.2]
  simp
end
def addD : D → D → Option D
  | .int i, .int j => some (.int (i + j))
  | .str x, .str y => if x.length + y.length ≤ 100000 then some (.str (x ++ y)) else none
  | .list xs, .list ys => if xs.length + ys.length ≤ 100000 then some (.list (xs ++ ys)) else none
  | .tuple xs, .tuple ys => if xs.length + ys.length ≤ 100000 then some (.tuple (xs ++ ys)) else none
  | _, _ => none
theorem big {n : Nat} (h : n ≤ 100000) : n ≤ sizeLine := by
  have h2 : (100000 : Nat) ≤ sizeLine := by decide
  omega
section
variable {X : Cx}
theorem ox_add : OpX X (binaryOp .Add) addD := fun pins s σ H x y v u Q I rx ry q => by
  obtain ⟨Hs, d, e, z, sb, sx, sy, ez, q⟩ := q
  cases d <;> cases e <;> first | (cases ez; done) | skip
  · cases ez
    exact op_add pins s σ H x y v u Q I rx ry ⟨_, _, sx.int, sy.int, q _ Hs H (.refl sb) (.int _)⟩
  · rename_i xs ys
    unfold addD at ez
    dsimp only at ez
    by_cases c : xs.length + ys.length ≤ 100000
    · rw [if_pos c] at ez; cases ez
      exact op_add_str pins s σ H x y v u Q I rx ry ⟨_, _, sx.str, sy.str, big c, q _ Hs H (.refl sb) (.str _)⟩
    · rw [if_neg c] at ez; cases ez
  · rename_i xs ys
    unfold addD at ez
    dsimp only at ez
    by_cases c : xs.length + ys.length ≤ 100000
    · rw [if_pos c] at ez; cases ez
      obtain ⟨p, vs, e1, h1, r1⟩ := sx.lst sb
      obtain ⟨p2, ws, e2, h2, r2⟩ := sy.lst sb
      refine op_cat pins s σ H x y v u Q I rx ry ⟨p, p2, vs, ws, e1, e2, h1, h2, big (by rw [r1.length, r2.length]; exact c), fun p3 np => ?_⟩
      have g := Grow.laid (o := .lst (vs ++ ws)) sb np
      exact q _ _ _ g (.lst upd_same ((r1.append r2).mono g.s))
    · rw [if_neg c] at ez; cases ez
  · rename_i xs ys
    unfold addD at ez
    dsimp only at ez
    by_cases c : xs.length + ys.length ≤ 100000
    · rw [if_pos c] at ez; cases ez
      obtain ⟨p, vs, e1, h1, r1⟩ := sx.tup sb
      obtain ⟨p2, ws, e2, h2, r2⟩ := sy.tup sb
      have l1 := r1.length
      have l2 := r2.length
      refine op_catA pins s σ H x y v u Q I rx ry ⟨p, p2, vs, ws, e1, e2, h1, h2, big (by omega), fun z1 => ?_, fun z1 z2 => ?_, fun z1 z2 p3 np => ?_⟩
      · subst z1
        cases r1
        rcases sy with sy | ⟨_, _, cc⟩
        · rw [e2] at sy; exact q _ Hs H (.refl sb) sy
        · exact cc.elim
      · subst z2
        cases r2
        rw [List.append_nil] at q
        rcases sx with sx | ⟨_, _, cc⟩
        · rw [e1] at sx; exact q _ Hs H (.refl sb) sx
        · exact cc.elim
      · have g := Grow.laid (o := .tup (vs ++ ws)) sb np
        exact q _ _ _ g (.tup upd_same ((r1.append r2).mono g.s))
    · rw [if_neg c] at ez; cases ez
end
def op2C (g : D → D → Option D) (fa fb : EF) : CF := fun ρ => (fa ρ).bind fun x ρ1 => (fb ρ1).bind fun y ρ2 => opt ((x.get ρ2).bind fun d => (y.get ρ2).bind fun e => g d e) ρ2
theorem pc_bin {X : Cx} {B : Bs} {W : WX} {a b : Expr} {fa fb : EF} {pos : Pos} {g : D → D → Option D} {op : Operator} (ho : OpN X (binaryOp op) g) (ha : PD X B W a fa) (hb : PD X B W b fb) : PC' X B W (.BinOp a op b pos) (op2C g fa fb) :=
  PE.imp (pe_op ho ha hb) fun σ H Q ⟨Hs, ρ, sl, q⟩ => by
  refine ⟨Hs, ρ, sl, OP.imp (OP.bind q) fun x ρ1 Hs1 H1 _ sl1 e1 q1 v hv => ?_⟩
  refine ⟨Hs1, ρ1, sl1, OP.imp (OP.bind q1) fun y ρ2 Hs2 H2 _ sl2 e2 q2 u hu => ?_⟩
  cases ex : x.get ρ2 with
  | none => rw [ex] at q2; exact q2.elim
  | some d =>
    cases ey : y.get ρ2 with
    | none => rw [ex, ey] at q2; exact q2.elim
    | some e =>
      cases ez : g d e with
      | none => rw [ex, ey, Option.bind_some, Option.bind_some, ez] at q2; exact q2.elim
      | some z =>
        rw [ex, ey, Option.bind_some, Option.bind_some, ez] at q2
        refine ⟨Hs2, d, e, z, sl2.sub, sl2.look (hv.mono e2) ex, sl2.look hu ey, ez, fun p H' np gr cn => ?_⟩
        obtain ⟨f1, f2, f3⟩ := sl2.fresh np
        exact q2 Hs2 H' (sl2.grow gr) (.refl _) p f1 f2 (f3.grow sl2 gr) cn
end DL
namespace DL
open PySem PySem.Spec PyProof.Rows L2
section
variable {K : Fg} {B : Bs} {Hs H : Hp} {σ : L2.St} {ρ : En}
theorem Sl.store {i : Nat} {v : V} {s : Slot} (sl : Sl K B Hs H σ ρ) (ok : SlotOk K B Hs H (some v) s)
    (ap : s.mut = true → ∃ f, Feet K B Hs H (some v) s f ∧ ∃ F, FeetOk K B Hs H σ ρ F ∧ ∀ j, i ≠ j → ∀ a ∈ f, a ∉ F j) : Sl K B Hs H (σ.set i (some v)) (ρ.set i s) where
  len := by rw [List.length_set, List.length_set]; exact sl.len
  ok := fun j x t a b => by
    by_cases h : i = j
    · subst h
      have hl := (List.getElem?_eq_some_iff.mp b).1
      have hl' := (List.getElem?_eq_some_iff.mp a).1
      rw [List.length_set] at hl hl'
      rw [List.getElem?_set_self hl] at b
      rw [List.getElem?_set_self hl'] at a
      cases b
      cases a
      exact ok
    · rw [List.getElem?_set_ne h] at a b
      exact sl.ok j x t a b
  sub := sl.sub
  base := sl.base
  new := sl.new
  keep := sl.keep
  there := sl.there
  feet := by
    have key : ∃ f, Feet K B Hs H (some v) s f ∧ ∃ F, FeetOk K B Hs H σ ρ F ∧ ∀ j, i ≠ j → ∀ a ∈ f, a ∉ F j := by
      cases e : s.mut with
      | true => exact ap e
      | false =>
        obtain ⟨F, h⟩ := sl.feet
        refine ⟨[], ?_, F, h, fun j _ a m => by cases m⟩
        cases s <;> first | (cases e; done) | rfl
    obtain ⟨f, ff, F, h, dj⟩ := key
    by_cases hi : i < ρ.length
    · refine ⟨fun j => if i = j then f else F j, ⟨fun j x t a b => ?_, fun j a => ?_, fun j k hjk a ha hb => ?_⟩⟩
      · by_cases e : i = j
        · subst e
          have hl' := (List.getElem?_eq_some_iff.mp a).1
          rw [List.length_set] at hl'
          rw [List.getElem?_set_self hi] at b
          rw [List.getElem?_set_self hl'] at a
          cases b
          cases a
          rw [if_pos rfl]
          exact ff
        · rw [List.getElem?_set_ne e] at a b
          rw [if_neg e]
          exact h.at_ j x t a b
      · by_cases e : i = j
        · subst e
          rw [List.getElem?_set_self hi] at a
          cases a
        · rw [if_neg e]
          rw [List.getElem?_set_ne e] at a
          exact h.out j a
      · by_cases e : i = j
        · rw [if_pos e] at ha
          rw [if_neg (fun z => hjk (e.symm.trans z))] at hb
          exact dj k (fun z => hjk (e.symm.trans z)) a ha hb
        · rw [if_neg e] at ha
          by_cases e2 : i = k
          · rw [if_pos e2] at hb
            exact dj j e a hb ha
          · rw [if_neg e2] at hb
            exact h.dis j k hjk a ha hb
    · have e1 : ρ.set i s = ρ := List.set_eq_of_length_le (by omega)
      have e2 : σ.set i (some v) = σ := List.set_eq_of_length_le (by rw [sl.len]; omega)
      rw [e1, e2]
      exact sl.feet
/-- .. a new object of one's own -/
theorem Sl.storeO {i : Nat} {p : Addr} {d : D} (sl : Sl K B Hs H σ ρ) (n1 : Hs p = none) (n2 : B.nw p) (n3 : Nob K B Hs H σ ρ p) (cn : Cont K Hs H p d) : Sl K B Hs H (σ.set i (some (.ref p))) (ρ.set i (.own d)) := by
  obtain ⟨F, h, q⟩ := n3
  exact sl.store ⟨p, rfl, n1, n2, cn⟩ fun _ => ⟨[p], ⟨p, rfl, rfl⟩, F, h, fun j _ a m => by rw [List.mem_singleton] at m; subst m; exact q j⟩
/-- the content of an own slot -/
def Slot.put (d : D) : Slot → Slot
  | .own _ => .own d
  | .arg _ => .arg d
  | s => s
def Slot.shal : Slot → Bool
  | .own _ => true
  | .arg _ => true
  | _ => false
def Slot.cont : Slot → Option D
  | .own d => some d
  | .arg d => some d
  | _ => none
theorem own_at {i : Nat} {s : Slot} {d : D} (sl : Sl K B Hs H σ ρ) (h : ρ[i]? = some s) (hc : s.cont = some d) :
    ∃ p, σ[i]? = some (some (.ref p)) ∧ Hs p = none ∧ Cont K Hs H p d ∧ (B.own0 p ∨ B.nw p) := by
  obtain ⟨x, ex⟩ := sl_var sl h
  have o := sl.ok i x s ex h
  cases s with
  | own d' =>
    cases hc
    obtain ⟨p, rfl, n, z, c⟩ := o
    exact ⟨p, ex, n, c, .inr z⟩
  | arg d' =>
    cases hc
    obtain ⟨p, rfl, n, ⟨_, z⟩, c⟩ := o
    exact ⟨p, ex, n, c, z.symm⟩
  | _ => cases hc
/-- an own object changes: all else stays -/
theorem Sl.write0 {i : Nat} {s : Slot} {d d' : D} {p : Addr} {Hs' H' : Hp} (sl : Sl K B Hs H σ ρ) (h : ρ[i]? = some s) (hc : s.cont = some d) (hp : σ[i]? = some (some (.ref p)))
    (es : Same Hs Hs') (sub : Same Hs' H') (new : ∀ a, Hs' a = none ∨ Hs a ≠ none ∨ (H a = none ∨ TupAt H a)) (keep : ∀ a o, H a = some o → a ≠ p → H' a = some o) (n' : Hs' p = none) (c' : Cont K Hs' H' p d') :
    Sl K B Hs' H' σ (ρ.set i (s.put d')) ∧ ∀ F, FeetOk K B Hs H σ ρ F → FeetOk K B Hs' H' σ (ρ.set i (s.put d')) F := by
  suffices key : ∀ F, FeetOk K B Hs H σ ρ F → Sl K B Hs' H' σ (ρ.set i (s.put d')) ∧ FeetOk K B Hs' H' σ (ρ.set i (s.put d')) F by
    obtain ⟨F, h0⟩ := sl.feet
    exact ⟨(key F h0).1, fun F h => (key F h).2⟩
  intro F fe
  have hi : i < ρ.length := (List.getElem?_eq_some_iff.mp h).1
  obtain ⟨p0, hp0, n, c, bz⟩ := own_at sl h hc
  rw [hp] at hp0
  cases hp0
  have hm : s.mut = true := by cases s <;> first | rfl | cases hc
  have fi : F i = [p] := by
    have q := fe.at_ i _ s hp h
    cases s with
    | own d0 => obtain ⟨q1, q2, q3⟩ := q; cases q2; exact q3
    | arg d0 => obtain ⟨q1, q2, q3⟩ := q; cases q2; exact q3
    | _ => cases hc
  have other : ∀ (j : Nat) (a : Addr), i ≠ j → a ∈ F j → a ≠ p := fun j a hij m e => by
    subst e
    exact fe.dis i j hij a (by rw [fi]; exact List.mem_singleton_self a) m
  have kk : ∀ (j : Nat) (x : Option V) (t : Slot), i ≠ j → σ[j]? = some x → ρ[j]? = some t → (∀ a ∈ F j, ∀ o, H a = some o → H' a = some o) ∧ ∀ a ∈ F j, Hs a = none → Hs' a = none := fun j x t hij a b => by
    have th := (fe.at_ j x t a b).there (sl.ok j x t a b)
    refine ⟨fun c m o e => keep c o e (other j c hij m), fun c m e => ?_⟩
    rcases new c with q | q | q
    · exact q
    · exact absurd e q
    · exact ((th c m).1.nofree q).elim
  have tk : ∀ a, TupAt H a → TupAt H' a := fun a ⟨xs, e⟩ => ⟨xs, keep a _ e fun z => c.own.notup ⟨xs, by rw [← z]; exact e⟩⟩
  have fe' : FeetOk K B Hs' H' σ (ρ.set i (s.put d')) F := by
    refine ⟨fun j x t a b => ?_, fun j a => ?_, fe.dis⟩
    · by_cases hij : i = j
      · subst hij
        rw [List.getElem?_set_self hi] at b
        cases b
        have q := fe.at_ i _ s hp h
        rw [hp] at a
        cases a
        cases s with
        | own d0 => exact q
        | arg d0 => exact q
        | _ => cases hc
      · rw [List.getElem?_set_ne hij] at b
        obtain ⟨k1, k2⟩ := kk j x t hij a b
        exact (fe.at_ j x t a b).mono es k1 k2
    · by_cases hij : i = j
      · subst hij
        rw [List.getElem?_set_self hi] at a
        cases a
      · rw [List.getElem?_set_ne hij] at a
        exact fe.out j a
  refine ⟨⟨by rw [List.length_set]; exact sl.len, fun j x t a b => ?_, sub, sl.base.trans es, fun a => ?_, fun a o e w w1 => ?_, fun a w => ?_, F, fe'⟩, fe'⟩
  · by_cases hij : i = j
    · subst hij
      rw [List.getElem?_set_self hi] at b
      cases b
      have o := sl.ok i x s a h
      cases s with
      | own d0 =>
        obtain ⟨p1, e1, _, z, _⟩ := o
        rw [hp] at a; cases a; cases e1
        exact ⟨_, rfl, n', z, c'⟩
      | arg d0 =>
        obtain ⟨p1, e1, _, z, _⟩ := o
        rw [hp] at a; cases a; cases e1
        exact ⟨_, rfl, n', z, c'⟩
      | _ => cases hc
    · rw [List.getElem?_set_ne hij] at b
      obtain ⟨k1, k2⟩ := kk j x t hij a b
      exact (sl.ok j x t a b).stays (fe.at_ j x t a b) es k1 k2
  · rcases new a with q | q | q
    · exact .inl q
    · rcases sl.new a with r | r | r
      · exact absurd r q
      · exact .inr (.inl r)
      · exact .inr (.inr (r.imp id (tk a)))
    · exact .inr (.inr (q.imp sl.nw_of (tk a)))
  · refine keep a o (sl.keep a o e w w1) fun ea => ?_
    subst ea
    rcases bz with z | z | z
    · exact w z
    · rw [e] at z; cases z
    · exact w1 z
  · obtain ⟨o, e⟩ := sl.there a w
    by_cases ea : a = p
    · subst ea; exact c'.there
    · exact ⟨o, keep a o e ea⟩
theorem Sl.write {i : Nat} {s : Slot} {d d' : D} {p : Addr} {Hs' H' : Hp} (sl : Sl K B Hs H σ ρ) (h : ρ[i]? = some s) (hc : s.cont = some d) (hp : σ[i]? = some (some (.ref p)))
    (es : Same Hs Hs') (sub : Same Hs' H') (new : ∀ a, Hs' a = none ∨ Hs a ≠ none ∨ (H a = none ∨ TupAt H a)) (keep : ∀ a o, H a = some o → a ≠ p → H' a = some o) (n' : Hs' p = none) (c' : Cont K Hs' H' p d') :
    Sl K B Hs' H' σ (ρ.set i (s.put d')) := (sl.write0 h hc hp es sub new keep n' c').1
theorem Sl.upd {i : Nat} {s : Slot} {d d' : D} {p : Addr} {o : HO} (sl : Sl K B Hs H σ ρ) (h : ρ[i]? = some s) (hc : s.cont = some d) (hp : σ[i]? = some (some (.ref p))) (n : Hs p = none)
    (c' : Cont K Hs (upd H p o) p d') : Sl K B Hs (L2.upd H p o) σ (ρ.set i (s.put d')) :=
  sl.write h hc hp (.refl _) (same_into sl.sub n) (fun a => by
    cases e : Hs a with
    | none => exact .inl rfl
    | some o => exact .inr (.inl (by simp))) (fun a o e ne => by rw [upd_ne ne]; exact e) n c'
end
def RetOk (K : Fg) (Hs H : Hp) (nw : Addr → Prop) (fr : Bool) (v : V) (d : D) : Prop := if fr = true then ∃ p, v = .ref p ∧ Hs p = none ∧ nw p ∧ Cont K Hs H p d else Rep K Hs v d
def SQ (K : Fg) (mg : MG) (B : Bs) (W : WX) (Hs : Hp) (D' : Ends) : SO → Prop
  | .nx ρ' => ∀ σ' Hs' H', Sl K B Hs' H' σ' ρ' → Same Hs Hs' → D'.nx σ' H'
  | .bk ρ' => ∀ σ' Hs' H', Sl K B Hs' H' σ' ρ' → Same Hs Hs' → D'.bk σ' H'
  | .ct ρ' => ∀ σ' Hs' H', Sl K B Hs' H' σ' ρ' → Same Hs Hs' → D'.ct σ' H'
  | .rt d fr ρ' => ∀ σ' Hs' H' v, Sl K B Hs' H' σ' ρ' → Same Hs Hs' → RetOk K Hs' H' B.nw fr v d → D'.rt v H'
  | .er e ρ' => ∀ cls od σ' Hs' H', Sl K B Hs' H' σ' ρ' → Same Hs Hs' → ErOk K mg e cls od Hs' H' → W cls od σ' H'
  | .bad => False
theorem SQ.later {K : Fg} {mg : MG} {B : Bs} {W : WX} {Hs Hs1 : Hp} {D' : Ends} {o : SO} (h : SQ K mg B W Hs D' o) (e : Same Hs Hs1) : SQ K mg B W Hs1 D' o := by
  cases o with
  | nx r => exact fun σ' Hs' H' s g => h σ' Hs' H' s (e.trans g)
  | bk r => exact fun σ' Hs' H' s g => h σ' Hs' H' s (e.trans g)
  | ct r => exact fun σ' Hs' H' s g => h σ' Hs' H' s (e.trans g)
  | rt d fr r => exact fun σ' Hs' H' v s g => h σ' Hs' H' v s (e.trans g)
  | er z r => exact fun c od σ' Hs' H' s g => h c od σ' Hs' H' s (e.trans g)
  | bad => exact h
def tSD (K : Fg) (mg : MG) (B : Bs) (W : WX) (f : SF) : TS := fun D' σ H => ∃ Hs ρ, Sl K B Hs H σ ρ ∧ SQ K mg B W Hs D' (f ρ)
abbrev PSD (X : Cx) (B : Bs) (W : WX) (st : Stmt) (f : SF) : Prop := PS X st (tSD X.K X.mg B W f)
abbrev PSsD (X : Cx) (B : Bs) (W : WX) (st : List Stmt) (f : SF) : Prop := PSs X st (tSD X.K X.mg B W f)
def nxS : SF := fun ρ => .nx ρ
def seqS (f g : SF) : SF := fun ρ => match f ρ with
  | .nx ρ' => g ρ'
  | o => o
/-- an outcome of an expression, then -/
def O.then {α : Type} (o : O α) (k : α → En → SO) : SO := match o with
  | .ok a r => k a r
  | .er e r => .er e r
  | .bad => .bad
def asg (i : Nat) (f : EF) : SF := fun ρ => (f ρ).then fun x ρ1 => match x with
  | .st d => .nx (ρ1.set i (.val d))
  | .fn a => .nx (ρ1.set i (.fn a))
  | .at _ => .bad
def asgO (i : Nat) (f : CF) : SF := fun ρ => (f ρ).then fun d ρ1 => .nx (ρ1.set i (.own d))
def exprS (f : EF) : SF := fun ρ => (f ρ).then fun _ ρ1 => .nx ρ1
def retS (f : EF) : SF := fun ρ => (f ρ).then fun x ρ1 => match x with
  | .st d => .rt d false ρ1
  | _ => .bad
def retC (f : CF) : SF := fun ρ => (f ρ).then fun d ρ1 => .rt d true ρ1
def retO (i : Nat) : SF := fun ρ => match ρ[i]? with
  | some (.own d) => .rt d true ρ
  | _ => .bad
def retN : SF := fun ρ => .rt .none false ρ
def ifS (c : BF) (f g : SF) : SF := fun ρ => (c ρ).then fun b ρ1 => if b = true then f ρ1 else g ρ1
def augS (i : Nat) (g : D → D → Option D) (f : EF) : SF := fun ρ => match ρ[i]? with
  | some (.val d) => (f ρ).then fun x ρ1 => match (x.get ρ1).bind (g d) with
    | some z => .nx (ρ1.set i (.val z))
    | none => .bad
  | _ => .bad
def Slot.lst : Slot → Option (List D)
  | .own (.list ds) => some ds
  | .arg (.list ds) => some ds
  | _ => none
theorem Slot.lst_cont {s : Slot} {ds : List D} (h : s.lst = some ds) : s.cont = some (.list ds) := by
  cases s <;> first | (cases h; done) | skip
  all_goals
    rename_i d
    cases d <;> first | (cases h; done) | skip
    cases h
    rfl
def appS (i : Nat) (f : EF) : SF := fun ρ => match (ρ[i]?).bind Slot.lst with
  | some _ => (f ρ).then fun x ρ1 => match x, ρ1[i]? with
    | .st d, some s1 => (match s1.lst with
      | some ds => if ds.length < 100000 then .nx (ρ1.set i (s1.put (.list (ds ++ [d])))) else .bad
      | none => .bad)
    | _, _ => .bad
  | none => .bad
/-- xs[j] = e -/
def setS (i : Nat) (fi f : EF) : SF := fun ρ => (f ρ).then fun x ρ1 => match x, ρ1[i]? with
  | .st d, some s0 => if s0.shal = true then (fi ρ1).then fun y ρ2 => match y, ρ2[i]? with
    | .st (.int k), some s => (match s.lst with
      | some ds => (match ixN ds.length k with
        | some j => .nx (ρ2.set i (s.put (.list (ds.set j d))))
        | none => .bad)
      | none => .bad)
    | _, _ => .bad else .bad
  | _, _ => .bad
section
variable {K : Fg} {mg : MG} {B : Bs} {W : WX} {σ : L2.St} {Hs Hs1 H H' : Hp} {α β : Type}
theorem OP.stm {D' : Ends} {o : O α} {k : α → En → SO} (h : SQ K mg B W Hs D' (o.then k)) : OP K mg B W σ Hs (fun x ρ Hs' _ => SQ K mg B W Hs' D' (k x ρ)) o := by
  cases o with
  | ok x r => exact fun _ _ _ e => SQ.later h e
  | er _ r => exact fun cls od Hs' H' sl g z => h cls od σ Hs' H' sl g z
  | bad => exact h
end
section
variable {X : Cx} {B : Bs} {W : WX} {a b c e : Expr} {es : List Expr} {fa fb fc : EF} {fr : AF} {pos pos' : Pos} {cf : CF} {st : Stmt} {rest sa sb : List Stmt} {f g : SF} {x : Str} {cB : BF}
theorem psd_nil : PSsD X B W [] nxS := PSs.imp pss_nil fun D' σ H ⟨Hs, ρ, sl, q⟩ => q σ Hs H sl (.refl _)
theorem psd_cons (h : PSD X B W st f) (hr : PSsD X B W rest g) : PSsD X B W (st :: rest) (seqS f g) := PSs.imp (pss_cons h hr) fun D' σ H ⟨Hs, ρ, sl, q⟩ => by
  refine ⟨Hs, ρ, sl, ?_⟩
  unfold seqS at q
  cases e : f ρ with
  | nx r => rw [e] at q; exact fun σ' Hs' H' sl' g => ⟨Hs', r, sl', SQ.later q g⟩
  | rt d fr r => rw [e] at q; exact q
  | bk r => rw [e] at q; exact q
  | ct r => rw [e] at q; exact q
  | er z r => rw [e] at q; exact q
  | bad => rw [e] at q; exact q
theorem psd_one (h : PSD X B W st f) : PSsD X B W [st] f := pss_one h
theorem asg_read {D' : Ends} {σ : L2.St} {H : Hp} {i : Nat} (h : tSD X.K X.mg B W (asg i fa) D' σ H) : tAsg (tD X.K X.mg B W fa) (gName i) D' σ H := by
  obtain ⟨Hs, ρ, sl, q⟩ := h
  refine ⟨Hs, ρ, sl, OP.imp (OP.stm q) fun x ρ1 Hs1 H1 _ sl1 e1 q1 v hv => ?_⟩
  cases x with
  | «at» j => exact q1.elim
  | st d => exact q1 _ Hs1 H1 (sl1.store ⟨v, rfl, hv⟩ fun z => by cases z) (.refl _)
  | fn f => exact q1 _ Hs1 H1 (sl1.store (congrArg some hv) fun z => by cases z) (.refl _)
theorem psd_set {i : Nat} (hN : X.N.Nodup) (hi : X.N[i]? = some x) (hx : Loc X.env.scope x) (he : PD X B W e fa) (hs : swapsWith e (some (.Name x pos')) pos.line X.env = pure false := by rfl)
    (hf : X.fn x = true ∨ X.env.scope.names.lookup x = some .local := by first | exact .inl rfl | exact .inr rfl | assumption) : PSD X B W (.Assign [.Name x pos'] e pos) (asg i fa) :=
  PS.imp (ps_set hN hi hx he hs hf) fun _ _ _ h => asg_read h
theorem asgO_read {D' : Ends} {σ : L2.St} {H : Hp} {i : Nat} (h : tSD X.K X.mg B W (asgO i cf) D' σ H) : tAsg (tC' X.K X.mg B W cf) (gName i) D' σ H := by
  obtain ⟨Hs, ρ, sl, q⟩ := h
  refine ⟨Hs, ρ, sl, OP.imp (OP.stm q) fun d ρ1 Hs1 H1 _ sl1 e1 q1 p n1 n2 n3 cn => ?_⟩
  exact q1 _ Hs1 H1 (sl1.storeO n1 n2 n3 cn) (.refl _)
theorem psd_setO {i : Nat} (hN : X.N.Nodup) (hi : X.N[i]? = some x) (hx : Loc X.env.scope x) (he : PC' X B W e cf) (hs : swapsWith e (some (.Name x pos')) pos.line X.env = pure false := by rfl)
    (hf : X.fn x = true ∨ X.env.scope.names.lookup x = some .local := by first | exact .inl rfl | exact .inr rfl | assumption) : PSD X B W (.Assign [.Name x pos'] e pos) (asgO i cf) :=
  PS.imp (ps_set hN hi hx he hs hf) fun _ _ _ h => asgO_read h
theorem psd_expr (he : PD X B W e fa) (hs : swapsWith e none pos.line X.env = pure false := by rfl) : PSD X B W (.Expr e pos) (exprS fa) := PS.imp (ps_expr he hs) fun D' σ H ⟨Hs, ρ, sl, q⟩ =>
  ⟨Hs, ρ, sl, OP.imp (OP.stm q) fun x ρ1 Hs1 H1 _ sl1 e1 q1 v hv => q1 _ Hs1 H1 sl1 (.refl _)⟩
theorem psd_ret (he : PD X B W e fa) : PSD X B W (.Return (some e) pos) (retS fa) := PS.imp (ps_ret he) fun D' σ H ⟨Hs, ρ, sl, q⟩ =>
  ⟨Hs, ρ, sl, OP.imp (OP.stm q) fun x ρ1 Hs1 H1 _ sl1 e1 q1 v hv => by
    cases x with
    | st d => exact q1 σ Hs1 H1 v sl1 (.refl _) hv
    | «at» j => exact q1.elim
    | fn f => exact q1.elim⟩
theorem psd_retC (he : PC' X B W e cf) : PSD X B W (.Return (some e) pos) (retC cf) := PS.imp (ps_ret he) fun D' σ H ⟨Hs, ρ, sl, q⟩ =>
  ⟨Hs, ρ, sl, OP.imp (OP.stm q) fun d ρ1 Hs1 H1 _ sl1 e1 q1 p n1 n2 n3 cn => q1 σ Hs1 H1 _ sl1 (.refl _) ⟨p, rfl, n1, n2, cn⟩⟩
theorem psd_retO {i : Nat} (he : PE X e (tVar i)) : PSD X B W (.Return (some e) pos) (retO i) := PS.imp (ps_ret he) fun D' σ H ⟨Hs, ρ, sl, q⟩ => by
  unfold retO at q
  cases es : ρ[i]? with
  | none => rw [es] at q; exact q.elim
  | some s =>
    rw [es] at q
    cases s <;> first | exact q.elim | skip
    obtain ⟨y, ey⟩ := sl_var sl es
    obtain ⟨p, e1, n, z, c⟩ := sl.ok i _ _ ey es
    subst e1
    exact ⟨_, ey, q σ Hs H _ sl (.refl _) ⟨p, rfl, n, z, c⟩⟩
theorem psd_if (hc : PB X B W c cB) (ha : PSsD X B W sa f) (hb : PSsD X B W sb g) : PSD X B W (.If c sa sb pos) (ifS cB f g) := PS.imp (ps_if hc ha hb) fun D' σ H ⟨Hs, ρ, sl, q⟩ =>
  ⟨Hs, ρ, sl, OP.imp (OP.stm q) fun b ρ1 Hs1 H1 _ sl1 e1 q1 => by
    cases b with
    | true => exact ⟨Hs1, ρ1, sl1, q1⟩
    | false => exact ⟨Hs1, ρ1, sl1, q1⟩⟩
/-- x.append(e), x one's own -/
theorem psd_app {i : Nat} {c : Expr} (h : PE X c (tBM X.K "list" rAppend (tVar i) (tCons (tD X.K X.mg B W fa) tNil))) (hs : swapsWith c none pos.line X.env = pure false := by rfl) : PSD X B W (.Expr c pos) (appS i fa) :=
  PS.imp (ps_expr h hs) fun D' σ H ⟨Hs, ρ, sl, q⟩ => by
  unfold appS at q
  cases e0 : ρ[i]? with
  | none => rw [e0] at q; exact q.elim
  | some s0 =>
    rw [e0, Option.bind_some] at q
    cases hl : s0.lst with
    | none => rw [hl] at q; exact q.elim
    | some ds0 =>
      rw [hl] at q
      dsimp only at q
      obtain ⟨pp, ep, _, ⟨vs0, hv0, _⟩, _⟩ := own_at sl e0 (Slot.lst_cont hl)
      refine ⟨_, ep, .inl ⟨rfl, _, .inl (.inl hv0)⟩, Hs, ρ, sl, OP.imp (OP.stm q) fun x ρ1 Hs1 H1 _ sl1 e1 q1 u hu => ?_⟩
      cases x <;> first | exact q1.elim | skip
      rename_i d
      cases e2 : ρ1[i]? with
      | none => rw [e2] at q1; exact q1.elim
      | some s1 =>
        rw [e2] at q1
        dsimp only at q1
        cases hc1 : s1.lst with
        | none => rw [hc1] at q1; exact q1.elim
        | some ds =>
          rw [hc1] at q1
          dsimp only at q1
          by_cases hz : ds.length < 100000
          · rw [if_pos hz] at q1
            obtain ⟨p2, ep2, n2, ⟨vs, hv, rv⟩, _⟩ := own_at sl1 e2 (Slot.lst_cont hc1)
            rw [ep] at ep2
            cases ep2
            refine ⟨pp, vs, u, rfl, rfl, hv, ?_, ?_⟩
            · have h2 : (100000 : Nat) ≤ sizeLine := by decide
              rw [rv.length]
              omega
            · exact q1 σ Hs1 _ (sl1.upd e2 (Slot.lst_cont hc1) ep n2 ⟨_, upd_same, rv.append (.cons hu .nil)⟩) (.refl _)
          · rw [if_neg hz] at q1; exact q1.elim
/-- x[j] = e, x one's own list -/
theorem psd_seti {i : Nat} (h : PS X st (tAsg (tD X.K X.mg B W fa) (gSub (tVar i) (tD X.K X.mg B W fb) rSetL))) : PSD X B W st (setS i fb fa) :=
  PS.imp h fun D' σ H ⟨Hs, ρ, sl, q⟩ => by
  refine ⟨Hs, ρ, sl, OP.imp (OP.stm q) fun x ρ1 Hs1 H1 _ sl1 e1 q1 u hu => ?_⟩
  cases x <;> first | exact q1.elim | skip
  rename_i d
  cases e0 : ρ1[i]? with
  | none => rw [e0] at q1; exact q1.elim
  | some s0 =>
    rw [e0] at q1
    dsimp only at q1
    by_cases hm : s0.shal = true
    · rw [if_pos hm] at q1
      obtain ⟨d0, hd0⟩ : ∃ d, s0.cont = some d := by cases s0 <;> first | (cases hm; done) | exact ⟨_, rfl⟩
      obtain ⟨pp, ep, _, _, _⟩ := own_at sl1 e0 hd0
      refine ⟨_, ep, Hs1, ρ1, sl1, OP.imp (OP.stm q1) fun y ρ2 Hs2 H2 _ sl2 e2 q2 w hw => ?_⟩
      cases y <;> first | exact q2.elim | skip
      rename_i dk ed
      clear ed
      cases dk <;> first | exact q2.elim | skip
      rename_i k
      cases e3 : ρ2[i]? with
      | none => rw [e3] at q2; exact q2.elim
      | some s =>
        rw [e3] at q2
        dsimp only at q2
        cases hl : s.lst with
        | none => rw [hl] at q2; exact q2.elim
        | some ds =>
          rw [hl] at q2
          dsimp only at q2
          cases ej : ixN ds.length k with
          | none => rw [ej] at q2; exact q2.elim
          | some j =>
            rw [ej] at q2
            obtain ⟨p2, ep2, n2, ⟨vs, hv, rv⟩, _⟩ := own_at sl2 e3 (Slot.lst_cont hl)
            rw [ep] at ep2
            cases ep2
            have ew : w = .int k := Shal.int (K := X.K) (Hs := Hs2) (H := H2) (.inl hw)
            refine ⟨pp, vs, k, j, rfl, ew, hv, by rw [rv.length]; exact ej, ?_⟩
            exact q2 σ Hs2 _ (sl2.upd e3 (Slot.lst_cont hl) ep n2 ⟨_, upd_same, RepA.set (Rep.mono e2 hu) j rv⟩) (.refl _)
    · rw [if_neg hm] at q1; exact q1.elim
/-- x.pop(), x one's own list -/
def popF (i : Nat) : EF := fun ρ => match ρ[i]? with
  | some s => (match s.lst with
    | some ds => (match ds[ds.length - 1]? with
      | some d => .ok (.st d) (ρ.set i (s.put (.list ds.dropLast)))
      | none => .bad)
    | none => .bad)
  | none => .bad
end
end DL
namespace DL
open PySem PySem.Spec PyProof.Rows L2
/-- a parameter: data, or a def -/
inductive Md where
  | p | f (a : Addr)
inductive ArgsOk (K : Fg) (Hs : Hp) : List Md → List V → List D → Prop
  | nil : ArgsOk K Hs [] [] []
  | p {ms : List Md} {v : V} {vs : List V} {d : D} {ds : List D} : Rep K Hs v d → ArgsOk K Hs ms vs ds → ArgsOk K Hs (.p :: ms) (v :: vs) (d :: ds)
  | f {ms : List Md} {a : Addr} {vs : List V} {ds : List D} : ArgsOk K Hs ms vs ds → ArgsOk K Hs (.f a :: ms) (.ref a :: vs) (.none :: ds)
theorem ArgsOk.len {K : Fg} {Hs : Hp} : ∀ {m : List Md} {vs : List V} {ds : List D}, ArgsOk K Hs m vs ds → vs.length = m.length ∧ ds.length = m.length
  | _, _, _, .nil => ⟨rfl, rfl⟩
  | _, _, _, .p _ r => ⟨congrArg Nat.succ r.len.1, congrArg Nat.succ r.len.2⟩
  | _, _, _, .f r => ⟨congrArg Nat.succ r.len.1, congrArg Nat.succ r.len.2⟩
def spD (K : Fg) (mg : MG) (m : List Md) (F : List D → R) : Sp := fun vs H Q E => ∃ Hs ds, Same Hs H ∧ ArgsOk K Hs m vs ds ∧ match F ds with
  | .ok d fr _ => ∀ r Hs' H', Grow Hs H Hs' H' → RetOk K Hs' H' (fun p => H p = none) fr r d → Q r H'
  | .er e _ => ∀ cls od Hs' H', Grow Hs H Hs' H' → ErOk K mg e cls od Hs' H' → E cls od H'
  | .bad => False
/-- behind a def that has changed its own first argument at p -/
structure Aft (K : Fg) (Hs H Hs' H' : Hp) (p : Addr) (c : D) : Prop where
  s : Same Hs Hs'
  sub : Same Hs' H'
  new : ∀ a, Hs' a = none ∨ Hs a ≠ none ∨ (H a = none ∨ TupAt H a)
  keep : ∀ a o, H a = some o → a ≠ p → H' a = some o
  n : Hs' p = none
  c : Cont K Hs' H' p c
def spO (K : Fg) (mg : MG) (m : List Md) (F : D → List D → R) : Sp := fun vs H Q E => ∃ Hs p c vs' ds, vs = .ref p :: vs' ∧ Same Hs H ∧ Hs p = none ∧ Cont K Hs H p c ∧ ArgsOk K Hs m vs' ds ∧ match F c ds with
  | .ok d fr c' => ∀ r Hs' H', Aft K Hs H Hs' H' p c' → RetOk K Hs' H' (fun p => H p = none) fr r d → Q r H'
  | .er e c' => ∀ cls od Hs' H', Aft K Hs H Hs' H' p c' → ErOk K mg e cls od Hs' H' → E cls od H'
  | .bad => False
def slots0 : List Md → List D → En
  | .p :: ms, d :: ds => .val d :: slots0 ms ds
  | .f a :: ms, _ :: ds => .fn a :: slots0 ms ds
  | _, _ => []
def runD (m : List Md) (n : Nat) (body : SF) (ds : List D) : R := match body (slots0 m ds ++ List.replicate (n - m.length) .un) with
  | .nx _ => .ok .none false .none
  | .rt d fr _ => .ok d fr .none
  | .er e _ => .er e .none
  | _ => .bad
def out0 (ρ : En) (k : D → R) : R := match ρ with
  | .arg c :: _ => k c
  | _ => .bad
def runO (m : List Md) (n : Nat) (body : SF) (c : D) (ds : List D) : R := match body (.arg c :: slots0 m ds ++ List.replicate (n - (m.length + 1)) .un) with
  | .nx ρ => out0 ρ fun c' => .ok .none false c'
  | .rt d fr ρ => out0 ρ fun c' => .ok d fr c'
  | .er e ρ => out0 ρ fun c' => .er e c'
  | _ => .bad
theorem spD.imp {K : Fg} {mg : MG} {m : List Md} {F F' : List D → R} (h : ∀ ds, F' ds ≠ .bad → F ds = F' ds) : ∀ vs H Q E, spD K mg m F' vs H Q E → spD K mg m F vs H Q E := fun vs H Q E ⟨Hs, ds, s, a, q⟩ => by
  refine ⟨Hs, ds, s, a, ?_⟩
  rw [h ds (fun e => by rw [e] at q; exact q)]
  exact q
theorem spO.imp {K : Fg} {mg : MG} {m : List Md} {F F' : D → List D → R} (h : ∀ c ds, F' c ds ≠ .bad → F c ds = F' c ds) : ∀ vs H Q E, spO K mg m F' vs H Q E → spO K mg m F vs H Q E := fun vs H Q E ⟨Hs, p, c, vs', ds, e0, s, n, cn, a, q⟩ => by
  refine ⟨Hs, p, c, vs', ds, e0, s, n, cn, a, ?_⟩
  rw [h c ds (fun e => by rw [e] at q; exact q)]
  exact q

section
variable {P : Program} {w : World} {K : Fg} {mg : MG} {base : Heap}
theorem slots0_len : ∀ {m : List Md} {ds : List D}, ds.length = m.length → (slots0 m ds).length = m.length
  | [], [], _ => rfl
  | .p :: ms, d :: ds, h => congrArg Nat.succ (slots0_len (Nat.succ.inj h))
  | .f a :: ms, d :: ds, h => congrArg Nat.succ (slots0_len (Nat.succ.inj h))
  | [], _ :: _, h => by cases h
  | _ :: _, [], h => by cases h
theorem slots0_ok {Hs H : Hp} {B : Bs} : ∀ {m : List Md} {vs : List V} {ds : List D}, ArgsOk K Hs m vs ds → ∀ (i : Nat) (x : Option V) (s : Slot), (vs.map some)[i]? = some x → (slots0 m ds)[i]? = some s → SlotOk K B Hs H x s ∧ s.mut = false
  | _, _, _, .nil, i, _, _, a, _ => by simp at a
  | _, _, _, .p r t, 0, _, _, a, b => by
    simp [slots0] at a b
    subst a b
    exact ⟨⟨_, rfl, r⟩, rfl⟩
  | _, _, _, .f t, 0, _, _, a, b => by
    simp [slots0] at a b
    subst a b
    exact ⟨rfl, rfl⟩
  | _, _, _, .p r t, i + 1, _, _, a, b => slots0_ok t i _ _ (by simpa using a) (by simpa [slots0] using b)
  | _, _, _, .f t, i + 1, _, _, a, b => slots0_ok t i _ _ (by simpa using a) (by simpa [slots0] using b)
theorem app_get {α : Type} {xs ys : List α} {i : Nat} {x : α} (h : (xs ++ ys)[i]? = some x) : (i < xs.length ∧ xs[i]? = some x) ∨ (xs.length ≤ i ∧ ys[i - xs.length]? = some x) := by
  by_cases hi : i < xs.length
  · rw [List.getElem?_append_left hi] at h; exact .inl ⟨hi, h⟩
  · rw [List.getElem?_append_right (by omega)] at h; exact .inr ⟨by omega, h⟩
theorem sl_start {Hs H : Hp} {m : List Md} {vs : List V} {ds : List D} {N : List Str} (s : Same Hs H) (a : ArgsOk K Hs m vs ds) (hn : m.length ≤ N.length) :
    Sl K ⟨Hs, H, fun _ => False, fun _ => False, fun _ => False, fun _ => none⟩ Hs H (start N vs) (slots0 m ds ++ List.replicate (N.length - m.length) .un) := by
  obtain ⟨l1, l2⟩ := a.len
  have l3 := slots0_len l2
  have key : ∀ (i : Nat) (x : Option V) (t : Slot), (start N vs)[i]? = some x → (slots0 m ds ++ List.replicate (N.length - m.length) Slot.un)[i]? = some t → SlotOk K ⟨Hs, H, fun _ => False, fun _ => False, fun _ => False, fun _ => none⟩ Hs H x t ∧ t.mut = false := fun i x t a1 b1 => by
    unfold L2.start at a1
    rcases app_get b1 with ⟨h, b2⟩ | ⟨h, b2⟩
    · rcases app_get a1 with ⟨h', a2⟩ | ⟨h', a2⟩
      · exact slots0_ok a i x t a2 b2
      · rw [List.length_map] at h'
        omega
    · rw [List.getElem?_replicate] at b2
      split at b2
      · cases b2; exact ⟨trivial, rfl⟩
      · cases b2
  refine ⟨?_, fun i x t a1 b1 => (key i x t a1 b1).1, s, .refl _, fun b => ?_, fun b o e _ _ => e, fun _ z => z.elim (fun z => z.elim) (fun z => z.elim), fun _ => [], fun i x s a b => ?_, fun _ _ => rfl, fun _ _ _ _ m => by cases m⟩
  · unfold L2.start
    simp
    omega
  · cases e : Hs b with
    | none => exact .inl rfl
    | some o => exact .inr (.inl (by show Hs b ≠ none; rw [e]; simp))
  · have := (key i _ s a b).2
    cases s <;> first | (cases this; done) | rfl
theorem sl_startO {Hs H : Hp} {m : List Md} {vs : List V} {ds : List D} {N : List Str} {p : Addr} {c : D} (s : Same Hs H) (n : Hs p = none) (cn : Cont K Hs H p c) (a : ArgsOk K Hs m vs ds) (hn : m.length + 1 ≤ N.length) :
    Sl K ⟨Hs, H, fun a => a = p, fun _ => False, fun a => a = p, fun _ => none⟩ Hs H (start N (.ref p :: vs)) (.arg c :: slots0 m ds ++ List.replicate (N.length - (m.length + 1)) .un) := by
  obtain ⟨l1, l2⟩ := a.len
  have l3 := slots0_len l2
  have key : ∀ (i : Nat) (x : Option V) (t : Slot), (start N (.ref p :: vs))[i]? = some x → (.arg c :: slots0 m ds ++ List.replicate (N.length - (m.length + 1)) Slot.un)[i]? = some t → SlotOk K ⟨Hs, H, fun a => a = p, fun _ => False, fun a => a = p, fun _ => none⟩ Hs H x t ∧ (t.mut = true → i = 0) := fun i x t a1 b1 => by
    unfold L2.start at a1
    cases i with
    | zero =>
      simp at a1 b1
      subst a1 b1
      exact ⟨⟨p, rfl, n, ⟨rfl, .inr rfl⟩, cn⟩, fun _ => rfl⟩
    | succ i =>
      rw [List.map_cons, List.cons_append, List.getElem?_cons_succ] at a1
      rw [List.cons_append, List.getElem?_cons_succ] at b1
      rcases app_get b1 with ⟨h, b2⟩ | ⟨h, b2⟩
      · rcases app_get a1 with ⟨h', a2⟩ | ⟨h', a2⟩
        · have := slots0_ok (B := ⟨Hs, H, fun a => a = p, fun _ => False, fun a => a = p, fun _ => none⟩) (H := H) a i x t a2 b2
          exact ⟨this.1, fun z => by rw [this.2] at z; cases z⟩
        · rw [List.length_map] at h'
          omega
      · rw [List.getElem?_replicate] at b2
        split at b2
        · cases b2; exact ⟨trivial, fun z => by cases z⟩
        · cases b2
  refine ⟨?_, fun i x t a1 b1 => (key i x t a1 b1).1, s, .refl _, fun b => ?_, fun b o e _ _ => e, fun b z => ?_, fun i => if i = 0 then [p] else [], fun i x s a b => ?_, fun i a => ?_, fun i j hij a m m2 => ?_⟩
  · unfold L2.start
    simp
    omega
  · cases e : Hs b with
    | none => exact .inl rfl
    | some o => exact .inr (.inl (by show Hs b ≠ none; rw [e]; simp))
  · rcases z with z | z
    · have z : b = p := z
      subst z
      exact cn.there
    · exact z.elim
  · by_cases e : i = 0
    · subst e
      rw [if_pos rfl]
      unfold L2.start at a
      simp at a b
      subst a b
      exact ⟨p, rfl, rfl⟩
    · rw [if_neg e]
      have := (key i _ s a b).2
      cases s <;> first | rfl | exact absurd (this rfl) e
  · by_cases e : i = 0
    · subst e
      cases a
    · exact if_neg e
  · by_cases e : i = 0
    · by_cases e2 : j = 0
      · omega
      · rw [if_neg e2] at m2; cases m2
    · rw [if_neg e] at m; cases m
theorem nw_false {Hs H : Hp} {o r0 : Addr → Prop} {q0 : Pin} {a : Addr} (z : Bs.nw ⟨Hs, H, o, fun _ => False, r0, q0⟩ a) : H a = none := z.elim id fun z => z.elim
theorem RetOk.fin {Hs H Hs' H' : Hp} {o r0 : Addr → Prop} {q0 : Pin} {fr : Bool} {v : V} {d : D} (r : RetOk K Hs' H' (Bs.nw ⟨Hs, H, o, fun _ => False, r0, q0⟩) fr v d) : RetOk K Hs' H' (fun p => H p = none) fr v d := by
  cases fr with
  | false => exact r
  | true =>
    obtain ⟨p, e, n, z, c⟩ := r
    exact ⟨p, e, n, nw_false z, c⟩
theorem tup_back {H H' : Hp} {a : Addr} (t : TupAt H' a) (k : ∀ o, H a = some o → H' a = some o) : H a = none ∨ TupAt H a := by
  obtain ⟨xs, e⟩ := t
  cases q : H a with
  | none => exact .inl rfl
  | some o => exact .inr ⟨xs, q.trans ((k o q).symm.trans e)⟩
theorem Sl.growth {Hs H Hs' H' : Hp} {σ : L2.St} {ρ : En} (sl : Sl K ⟨Hs, H, fun _ => False, fun _ => False, fun _ => False, fun _ => none⟩ Hs' H' σ ρ) : Grow Hs H Hs' H' := ⟨sl.base, fun a o e => sl.keep a o e (fun z => z) (fun z => z), sl.sub, fun a => (sl.new a).imp id (fun z => z.imp id fun z => z.elim (fun z => .inl (nw_false z)) fun t => tup_back t fun o e => sl.keep a o e (fun z => z) (fun z => z))⟩
theorem Sl.aft {Hs H Hs' H' : Hp} {σ : L2.St} {r : En} {p : Addr} {c : D} (hH : ∃ o, H p = some o) (sl : Sl K ⟨Hs, H, fun a => a = p, fun _ => False, fun a => a = p, fun _ => none⟩ Hs' H' σ (.arg c :: r)) : Aft K Hs H Hs' H' p c := by
  obtain ⟨x, ex⟩ := sl_var (i := 0) (s := .arg c) sl rfl
  obtain ⟨q, e1, n, w, cn⟩ := sl.ok 0 _ _ ex rfl
  have w : q = p := w.1
  subst w
  exact ⟨sl.base, sl.sub, fun a => (sl.new a).imp id (fun z => z.imp id fun z => z.elim (fun z => .inl (nw_false z)) fun t => tup_back t fun o e => sl.keep a o e (fun z => cn.own.notup (by rw [← z]; exact t)) (fun z => z)), fun a o e ne => sl.keep a o e ne (fun z => z), n, cn⟩
/-- THE RULE for a def: its body as a term of rules -/
theorem defD {x qual : Str} {st : Stmt} {dvs : List V} {kws : List (Str × V)} {f : Addr} {fd : FuncData} {N ps : List Str} {k : Nat} {body : SF} (F : FunD K x qual (defArgs st) (defBody st) (defScope st) dvs kws f fd) (S : FnScope N ps (defScope st)) (m : List Md) (hm : m.length = ps.length)
    (der : ∀ (cdv : Value) (A : Around) (outer : List Env) (s : Shared) (H : Hp) (E : XK) (B : Bs) (W : WX), Room k (A.deeper (envOfC qual (defScope st) s.heap.objs.size f cdv)) → L2N.Takes (cxOf (L2N.CX P w) P w K mg base N qual (defScope st) f cdv A outer s H E) W →
      PSsD (cxOf (L2N.CX P w) P w K mg base N qual (defScope st) f cdv A outer s H E) B W (defBody st) body) : FnOk P w K mg base (L2N.CX P w) (k + 1) f fd ps (spD K mg m (runD m N.length body)) := by
  have hn : m.length ≤ N.length := by
    have h := congrArg List.length S.pre
    rw [List.length_take] at h
    omega
  refine F.ok S (fun vs H Q E h => ?_) (fun cdv A outer s H vs Q E hr h => ?_)
  · obtain ⟨Hs, ds, _, a, _⟩ := h
    rw [a.len.1, hm]
  · obtain ⟨Hs, ds, sm, a, q⟩ := h
    refine ⟨_, der cdv A outer s H E ⟨Hs, H, fun _ => False, fun _ => False, fun _ => False, fun _ => none⟩ (fun cls d _ H' => E cls d H') hr (L2N.takes_of rfl rfl rfl rfl), Hs, _, sl_start sm a hn, ?_⟩
    unfold runD at q
    show SQ K mg _ _ _ _ _
    cases e : body (slots0 m ds ++ List.replicate (N.length - m.length) .un) with
    | nx r => rw [e] at q; exact fun σ' Hs' H' sl _ => q _ _ _ sl.growth .non
    | rt d fr r => rw [e] at q; exact fun σ' Hs' H' v sl _ ro => q _ _ _ sl.growth ro.fin
    | er z r => rw [e] at q; exact fun cls od σ' Hs' H' sl _ eo => q cls od Hs' H' sl.growth eo
    | bk r => rw [e] at q; exact q.elim
    | ct r => rw [e] at q; exact q.elim
    | bad => rw [e] at q; exact q.elim
theorem defO {x qual : Str} {st : Stmt} {dvs : List V} {kws : List (Str × V)} {f : Addr} {fd : FuncData} {N ps : List Str} {k : Nat} {body : SF} (F : FunD K x qual (defArgs st) (defBody st) (defScope st) dvs kws f fd) (S : FnScope N ps (defScope st)) (m : List Md) (hm : m.length + 1 = ps.length)
    (der : ∀ (cdv : Value) (A : Around) (outer : List Env) (s : Shared) (H : Hp) (E : XK) (B : Bs) (W : WX), Room k (A.deeper (envOfC qual (defScope st) s.heap.objs.size f cdv)) → L2N.Takes (cxOf (L2N.CX P w) P w K mg base N qual (defScope st) f cdv A outer s H E) W →
      PSsD (cxOf (L2N.CX P w) P w K mg base N qual (defScope st) f cdv A outer s H E) B W (defBody st) body) : FnOk P w K mg base (L2N.CX P w) (k + 1) f fd ps (spO K mg m (runO m N.length body)) := by
  have hn : m.length + 1 ≤ N.length := by
    have h := congrArg List.length S.pre
    rw [List.length_take] at h
    omega
  refine F.ok S (fun vs H Q E h => ?_) (fun cdv A outer s H vs Q E hr h => ?_)
  · obtain ⟨Hs, p, c, vs', ds, rfl, _, _, _, a, _⟩ := h
    rw [List.length_cons, a.len.1, hm]
  · obtain ⟨Hs, p, c, vs', ds, rfl, sm, n, cn, a, q⟩ := h
    have hH := cn.there
    refine ⟨_, der cdv A outer s H E ⟨Hs, H, fun a => a = p, fun _ => False, fun a => a = p, fun _ => none⟩ (fun cls d _ H' => E cls d H') hr (L2N.takes_of rfl rfl rfl rfl), Hs, _, sl_startO sm n cn a hn, ?_⟩
    unfold runO at q
    show SQ K mg _ _ _ _ _
    have split : ∀ {r : En} {kk : D → R}, (∀ c' r', r = .arg c' :: r' → out0 r kk = kk c') ∧ (out0 r kk = .bad ∨ ∃ c' r', r = .arg c' :: r') := fun {r kk} => by
      refine ⟨fun c' r' e => by rw [e]; rfl, ?_⟩
      cases r with
      | nil => exact .inl rfl
      | cons s r' => cases s <;> first | exact .inl rfl | exact .inr ⟨_, _, rfl⟩
    cases e : body (.arg c :: slots0 m ds ++ List.replicate (N.length - (m.length + 1)) .un) with
    | nx r =>
      rw [e] at q
      dsimp only at q
      rcases (split (r := r) (kk := fun c' => R.ok .none false c')).2 with z | ⟨c', r', rfl⟩
      · rw [z] at q; exact q.elim
      · exact fun σ' Hs' H' sl _ => q _ _ _ (sl.aft hH) .non
    | rt d fr r =>
      rw [e] at q
      dsimp only at q
      rcases (split (r := r) (kk := fun c' => R.ok d fr c')).2 with z | ⟨c', r', rfl⟩
      · rw [z] at q; exact q.elim
      · exact fun σ' Hs' H' v sl _ ro => q _ _ _ (sl.aft hH) ro.fin
    | er z r =>
      rw [e] at q
      dsimp only at q
      rcases (split (r := r) (kk := fun c' => R.er z c')).2 with y | ⟨c', r', rfl⟩
      · rw [y] at q; exact q.elim
      · exact fun cls od σ' Hs' H' sl _ eo => q cls od Hs' H' (sl.aft hH) eo
    | bk r => rw [e] at q; exact q.elim
    | ct r => rw [e] at q; exact q.elim
    | bad => rw [e] at q; exact q.elim
end
def argD : List Md → List Vl → Option (List D)
  | [], [] => some []
  | .p :: ms, .st d :: xs => (argD ms xs).map (d :: ·)
  | .f a :: ms, .fn b :: xs => if a = b then (argD ms xs).map (.none :: ·) else none
  | _, _ => none
/-- .. own objects lent -/
def argB : List Md → List Vl → En → Option (List D)
  | [], [], _ => some []
  | .p :: ms, x :: xs, ρ => (x.get ρ).bind fun d => (argB ms xs ρ).map (d :: ·)
  | .f a :: ms, .fn b :: xs, ρ => if a = b then (argB ms xs ρ).map (.none :: ·) else none
  | _, _, _ => none
/-- f(args) -/
def callF (m : List Md) (F : List D → R) (dd : List D) (fa : AF) : EF := fun ρ => (fa ρ).bind fun xs ρ1 => match argD m (xs ++ dd.map Vl.st) with
  | some ds => (match F ds with
    | .ok d _ _ => .ok (.st d) ρ1
    | .er e _ => .er e ρ1
    | .bad => .bad)
  | none => .bad
/-- .. its answer a new object -/
def callC (m : List Md) (F : List D → R) (dd : List D) (fa : AF) : CF := fun ρ => (fa ρ).bind fun xs ρ1 => match argD m (xs ++ dd.map Vl.st) with
  | some ds => (match F ds with
    | .ok d true _ => .ok d ρ1
    | .er e _ => .er e ρ1
    | _ => .bad)
  | none => .bad
def flat : D → Bool
  | .none => true
  | .bool _ => true
  | .int _ => true
  | .str _ => true
  | _ => false
/-- .. own objects lent, the answer flat -/
def callB (m : List Md) (F : List D → R) (dd : List D) (fa : AF) : EF := fun ρ => (fa ρ).bind fun xs ρ1 => match argB m (xs ++ dd.map Vl.st) ρ1 with
  | some ds => (match F ds with
    | .ok d _ _ => if flat d = true then .ok (.st d) ρ1 else .bad
    | .er e _ => if e.fs.isEmpty = true then .er e ρ1 else .bad
    | .bad => .bad)
  | none => .bad
/-- .. its first argument an own object that it changes -/
def callO (m : List Md) (F : D → List D → R) (dd : List D) (fa : AF) : EF := fun ρ => (fa ρ).bind fun xs ρ1 => match xs with
  | .at i :: xs' => (match ρ1[i]? with
    | some s => (match s.cont, argD m (xs' ++ dd.map Vl.st) with
      | some c, some ds => (match F c ds with
        | .ok d _ c' => .ok (.st d) (ρ1.set i (s.put c'))
        | .er e c' => .er e (ρ1.set i (s.put c'))
        | .bad => .bad)
      | _, _ => .bad)
    | none => .bad)
  | _ => .bad
section
variable {K : Fg} {mg : MG} {B : Bs} {W : WX} {σ : L2.St} {Hs H : Hp} {ρ : En}
theorem VlsOk.app : ∀ {vs : List V} {xs : List Vl} {ws : List V} {ds : List D}, VlsOk K Hs σ vs xs → RepA K Hs ws ds → VlsOk K Hs σ (vs ++ ws) (xs ++ ds.map Vl.st)
  | _, _, _, _, .nil, .nil => .nil
  | _, _, _, _, .nil, .cons a b => .cons a (VlsOk.app .nil b)
  | _, _, _, _, .cons a b, r => .cons a (VlsOk.app b r)
theorem VlsOk.at_inv {vs : List V} {i : Nat} {xs : List Vl} (h : VlsOk K Hs σ vs (.at i :: xs)) : ∃ v vs', vs = v :: vs' ∧ σ[i]? = some (some v) ∧ VlsOk K Hs σ vs' xs := by
  cases h with
  | cons a b => exact ⟨_, _, rfl, a, b⟩
theorem argD_ok : ∀ {m : List Md} {vs : List V} {xs : List Vl} {ds : List D}, VlsOk K Hs σ vs xs → argD m xs = some ds → ArgsOk K Hs m vs ds
  | [], _, [], _, .nil, h => by cases h; exact .nil
  | .p :: ms, _, .st d :: xs, _, .cons a b, h => by
    cases e : argD ms xs with
    | none => simp only [argD, e, Option.map_none] at h; cases h
    | some es =>
      simp only [argD, e, Option.map_some, Option.some.injEq] at h
      subst h
      exact .p a (argD_ok b e)
  | .f z :: ms, _, .fn y :: xs, _, .cons a b, h => by
    unfold argD at h
    by_cases c : z = y
    · rw [if_pos c] at h
      subst c
      cases e : argD ms xs with
      | none => rw [e] at h; cases h
      | some es =>
        rw [e] at h
        cases h
        cases a
        exact .f (argD_ok b e)
    · rw [if_neg c] at h; cases h
  | [], _, _ :: _, _, .cons _ _, h => by cases h
  | .p :: ms, _, [], _, .nil, h => by cases h
  | .f _ :: ms, _, [], _, .nil, h => by cases h
  | .p :: ms, _, .at _ :: xs, _, .cons a b, h => by cases h
  | .p :: ms, _, .fn _ :: xs, _, .cons a b, h => by cases h
  | .f _ :: ms, _, .at _ :: xs, _, .cons a b, h => by cases h
  | .f _ :: ms, _, .st _ :: xs, _, .cons a b, h => by cases h
theorem Rep.flat {Hs' : Hp} {v : V} {d : D} (r : Rep K Hs v d) (f : flat d = true) : Rep K Hs' v d := by
  cases r <;> first | (cases f; done) | skip
  · exact .non
  · exact .bl _
  · exact .int _
  · exact .str _
theorem ErOk.plain {e : Er} {cls : Value} {od : Option Addr} {Hs' H' : Hp} (h : ErOk K mg e cls od Hs H) (f : e.fs.isEmpty = true) : ErOk K mg e cls od Hs' H' := ⟨h.1, h.2.elim .inl fun z => absurd (List.isEmpty_iff.mp f) z.1⟩
end
section
variable {X : Cx} {B : Bs} {W : WX} {k : Nat} {f : Addr} {fd : FuncData} {ps : List Str} {m : List Md} {F : List D → R} {FO : D → List D → R} {dvs : List V} {dd : List D} {ds : List Value} {x : Str} {p pos : Pos} {e : Expr} {es : List Expr} {fa : AF}
theorem pd_call (G : FnOk X.prog X.w X.K X.mg X.base (L2N.CX X.prog X.w) k f fd ps (spD X.K X.mg m F)) (tk : L2N.Takes X W) (hr : Room k X.A) (hg : Gl X x) (hm : X.mg x = some (.ref f)) (hk : PySem.W.keepIn X.K (.ref f) = true) (hb : Binds X.K fd ps ds) (hd : Vals dvs ds) (hdd : ∀ H, RepA X.K H dvs dd)
    (ha : PAD X B W (e :: es) fa) (hdb : (x == ("__debug__" : Str)) = false := by decide) (he : starEach (e :: es) X.env = (false, eval e X.env) :: starEach es X.env := by rfl) (hpl : (backTo pos (starEach es X.env)).any (·.1) = false := by rfl) :
    PD X B W (.Call (.Name x p) (e :: es) [] pos) (callF m F dd fa) := PE.imp (pe_callSD (E := WE W) G hr hg hm hk hb hd (fun σ => L2N.passAt tk σ) ha hdb he hpl) fun σ H Q ⟨Hs, ρ, sl, q⟩ => by
  refine ⟨Hs, ρ, sl, OP.imp (OP.bind q) fun xs ρ1 Hs1 H1 _ sl1 e1 q1 vs hvs => ?_⟩
  cases ea : argD m (xs ++ dd.map Vl.st) with
  | none => rw [ea] at q1; exact q1.elim
  | some es =>
    rw [ea] at q1
    refine ⟨Hs1, es, sl1.sub, argD_ok (hvs.app (hdd Hs1)) ea, ?_⟩
    dsimp only at q1
    cases eF : F es with
    | bad => rw [eF] at q1; exact q1.elim
    | er z c => rw [eF] at q1; exact fun cls od Hs' H' g eo => q1 cls od Hs' H' (sl1.grow g) g.s eo
    | ok d fr c =>
      rw [eF] at q1
      intro r Hs' H' g ro
      have sl2 := sl1.grow g
      cases fr with
      | false => exact q1 Hs' H' sl2 g.s r ro
      | true =>
        obtain ⟨pp, rfl, n, n0, cn⟩ := ro
        obtain ⟨o, eo⟩ := cn.there
        obtain ⟨f1, f2, f3⟩ := sl1.fresh n0
        exact q1 _ H' (sl2.take eo n f2 (f3.grow sl1 g)) (g.s.trans (same_upd n)) _ (cn.frozen eo n)
theorem callO_write {Hs H Hs' H' : Hp} {σ : L2.St} {ρ : En} {i : Nat} {s : Slot} {c c' : D} {p : Addr} (sl : Sl X.K B Hs H σ ρ) (es : ρ[i]? = some s) (ec : s.cont = some c) (hp : σ[i]? = some (some (.ref p))) (a : Aft X.K Hs H Hs' H' p c') : Sl X.K B Hs' H' σ (ρ.set i (s.put c')) :=
  sl.write es ec hp a.s a.sub a.new a.keep a.n a.c
theorem pd_callO (G : FnOk X.prog X.w X.K X.mg X.base (L2N.CX X.prog X.w) k f fd ps (spO X.K X.mg m FO)) (tk : L2N.Takes X W) (hr : Room k X.A) (hg : Gl X x) (hm : X.mg x = some (.ref f)) (hk : PySem.W.keepIn X.K (.ref f) = true) (hb : Binds X.K fd ps ds) (hd : Vals dvs ds) (hdd : ∀ H, RepA X.K H dvs dd)
    (ha : PAD X B W (e :: es) fa) (hdb : (x == ("__debug__" : Str)) = false := by decide) (he : starEach (e :: es) X.env = (false, eval e X.env) :: starEach es X.env := by rfl) (hpl : (backTo pos (starEach es X.env)).any (·.1) = false := by rfl) :
    PD X B W (.Call (.Name x p) (e :: es) [] pos) (callO m FO dd fa) := PE.imp (pe_callSD (E := WE W) G hr hg hm hk hb hd (fun σ => L2N.passAt tk σ) ha hdb he hpl) fun σ H Q ⟨Hs, ρ, sl, q⟩ => by
  refine ⟨Hs, ρ, sl, OP.imp (OP.bind q) fun xs ρ1 Hs1 H1 _ sl1 e1 q1 vs hvs => ?_⟩
  cases xs with
  | nil => exact q1.elim
  | cons xx xs' =>
    cases xx with
    | st d => exact q1.elim
    | fn a => exact q1.elim
    | «at» i =>
    obtain ⟨v, vs', rfl, hv, hvr⟩ := VlsOk.at_inv hvs
    dsimp only at q1
    cases ei : ρ1[i]? with
    | none => rw [ei] at q1; exact q1.elim
    | some s =>
      rw [ei] at q1
      dsimp only at q1
      cases ec : s.cont with
      | none => rw [ec] at q1; exact q1.elim
      | some c =>
        cases ea : argD m (xs' ++ dd.map Vl.st) with
        | none => rw [ec, ea] at q1; exact q1.elim
        | some es =>
          rw [ec, ea] at q1
          dsimp only at q1
          obtain ⟨pp, ep, n, cn, _⟩ := own_at sl1 ei ec
          rw [ep] at hv
          cases hv
          refine ⟨Hs1, pp, c, vs' ++ dvs, es, rfl, sl1.sub, n, cn, argD_ok (hvr.app (hdd Hs1)) ea, ?_⟩
          cases eF : FO c es with
          | bad => rw [eF] at q1; exact q1.elim
          | er z c' => rw [eF] at q1; exact fun cls od Hs' H' g eo => q1 cls od Hs' H' (callO_write sl1 ei ec ep g) g.s eo
          | ok d fr c' =>
            rw [eF] at q1
            intro r Hs' H' g ro
            have sl2 := callO_write sl1 ei ec ep g
            cases fr with
            | false => exact q1 Hs' H' sl2 g.s r ro
            | true =>
              obtain ⟨p2, rfl, n2, n0, cn2⟩ := ro
              obtain ⟨o, eo⟩ := cn2.there
              obtain ⟨f1, f2, f3⟩ := sl1.fresh n0
              obtain ⟨F, fe, nF⟩ := f3
              have f4 : Nob X.K B Hs' H' σ (ρ1.set i (s.put c')) p2 := ⟨F, (sl1.write0 ei ec ep g.s g.sub g.new g.keep g.n g.c).2 F fe, nF⟩
              exact q1 _ H' (sl2.take eo n2 f2 f4) (g.s.trans (same_upd n2)) _ (cn2.frozen eo n2)
end
end DL
namespace DL
open PySem PySem.Spec PyProof.Rows L2
/-- where a datum goes: slots and data -/
inductive Tg where
  | nm (i : Nat)
  | tp (ts : List Tg)
  | ls (ts : List Tg)
mutual
def Tg.put : Tg → D → En → Option En
  | .nm i, d, ρ => some (ρ.set i (.val d))
  | .tp ts, .tuple ds, ρ => Tg.puts ts ds ρ
  | .ls ts, .list ds, ρ => Tg.puts ts ds ρ
  | _, _, _ => none
def Tg.puts : List Tg → List D → En → Option En
  | [], [], ρ => some ρ
  | t :: ts, d :: ds, ρ => (Tg.put t d ρ).bind fun ρ1 => Tg.puts ts ds ρ1
  | _, _, _ => none
end
mutual
def Tg.at : Tg → List Nat
  | .nm i => [i]
  | .tp ts => Tg.ats ts
  | .ls ts => Tg.ats ts
def Tg.ats : List Tg → List Nat
  | [] => []
  | t :: ts => Tg.at t ++ Tg.ats ts
end
/-- slots other than these are as they were -/
def Out (vs : List Nat) (σ σ' : L2.St) : Prop := σ'.length = σ.length ∧ ∀ i, i ∉ vs → σ'[i]? = σ[i]?
theorem Out.refl (vs : List Nat) (σ : L2.St) : Out vs σ σ := ⟨rfl, fun _ _ => rfl⟩
theorem Out.trans {vs ws : List Nat} {σ σ1 σ2 : L2.St} (a : Out vs σ σ1) (b : Out ws σ1 σ2) : Out (vs ++ ws) σ σ2 := ⟨b.1.trans a.1, fun i hi => by
  rw [List.mem_append] at hi
  rw [b.2 i (fun z => hi (.inr z)), a.2 i (fun z => hi (.inl z))]⟩
def gD (K : Fg) (B : Bs) (t : Tg) : TG := fun v σ H Q => ∃ Hs ρ d ρ', Sl K B Hs H σ ρ ∧ Rep K Hs v d ∧ Tg.put t d ρ = some ρ' ∧ ∀ σ', Sl K B Hs H σ' ρ' → Out t.at σ σ' → Q σ' H
def gsD (K : Fg) (B : Bs) (t : List Tg) : TGs := fun vs σ H Q => ∃ Hs ρ ds ρ', Sl K B Hs H σ ρ ∧ RepA K Hs vs ds ∧ Tg.puts t ds ρ = some ρ' ∧ ∀ σ', Sl K B Hs H σ' ρ' → Out (Tg.ats t) σ σ' → Q σ' H
theorem PG.imp {X : Cx} {e : Expr} {t t' : TG} (h : PG X e t) (i : ∀ v σ H Q, t' v σ H Q → t v σ H Q) : PG X e t' := ⟨fun pins s σ H v u Q I r q => h.run pins s σ H v u Q I r (i v σ H Q q)⟩
theorem PGs.imp {X : Cx} {e : List Expr} {t t' : TGs} (h : PGs X e t) (i : ∀ (v : List V) σ H Q, t' v σ H Q → t v σ H Q) : PGs X e t' := ⟨fun pins s σ H v u Q I r q => h.run pins s σ H v u Q I r (i v σ H Q q)⟩
section
variable {X : Cx} {B : Bs} {e : Expr} {es : List Expr} {t : Tg} {ts : List Tg} {pos : Pos} {x : Str}
theorem pgd_nm {i : Nat} (hN : X.N.Nodup) (hi : X.N[i]? = some x) (hx : Loc X.env.scope x) (hf : X.fn x = true ∨ X.env.scope.names.lookup x = some .local := by first | exact .inl rfl | exact .inr rfl | assumption) : PG X (.Name x pos) (gD X.K B (.nm i)) :=
  PG.imp (pg_name hN hi hx hf) fun v σ H Q ⟨Hs, ρ, d, ρ', sl, r, h, q⟩ => by
  simp only [Tg.put, Option.some.injEq] at h
  subst h
  refine q _ (sl.store ⟨v, rfl, r⟩ fun z => by cases z) ⟨by rw [List.length_set], fun j hj => ?_⟩
  rw [List.getElem?_set_ne]
  simp only [Tg.at, List.mem_singleton] at hj
  exact fun z => hj z.symm
theorem pgsd_nil : PGs X [] (gsD X.K B []) := PGs.imp pgs_nil fun vs σ H Q ⟨Hs, ρ, ds, ρ', sl, r, h, q⟩ => by
  cases r with
  | nil =>
    simp only [Tg.puts, Option.some.injEq] at h
    subst h
    exact ⟨rfl, q σ sl (.refl _ _)⟩
  | cons a b => cases h
theorem pgsd_cons (h1 : PG X e (gD X.K B t)) (h2 : PGs X es (gsD X.K B ts)) (hs : (assignEach (e :: es) X.env).map (·.2) = assign e X.env :: (assignEach es X.env).map (·.2) := by rfl) : PGs X (e :: es) (gsD X.K B (t :: ts)) :=
  PGs.imp (pgs_cons h1 h2 hs) fun vs σ H Q ⟨Hs, ρ, ds, ρ', sl, r, h, q⟩ => by
  cases r with
  | nil => cases h
  | @cons v vr d dr a b =>
    unfold Tg.puts at h
    cases e1 : Tg.put t d ρ with
    | none => rw [e1] at h; cases h
    | some ρ1 =>
      rw [e1, Option.bind_some] at h
      refine ⟨v, vr, rfl, Hs, ρ, d, ρ1, sl, a, e1, fun σ1 sl1 o1 => ⟨Hs, ρ1, dr, ρ', sl1, b, h, fun σ2 sl2 o2 => q σ2 sl2 (o1.trans o2)⟩⟩
theorem pgd_tp {k : Nat} {n : Nat} (hc : X.calm = true) (h : PGs X es (gsD X.K B ts)) (ht : ts.length = n) (hn : (assignEach es X.env).length = n := by rfl) (hst : (assignEach es X.env).findIdx? (·.1) = none := by rfl) : PG X (.Tuple es k pos) (gD X.K B (.tp ts)) :=
  PG.imp (pg_tup hc h hn hst) fun v σ H Q ⟨Hs, ρ, d, ρ', sl, r, hp, q⟩ => by
  cases d <;> first | (cases hp; done) | skip
  rename_i ds
  unfold Tg.put at hp
  obtain ⟨p, vs, e1, s, ra⟩ := Shal.tup (.inl r) sl.sub
  have len : ∀ {ts : List Tg} {ds : List D} {ρ ρ' : En}, Tg.puts ts ds ρ = some ρ' → ds.length = ts.length := by
    intro ts
    induction ts with
    | nil => intro ds ρ ρ' h; cases ds <;> first | rfl | cases h
    | cons t ts ih =>
      intro ds ρ ρ' h
      cases ds with
      | nil => cases h
      | cons d ds =>
        unfold Tg.puts at h
        cases e1 : Tg.put t d ρ with
        | none => rw [e1] at h; cases h
        | some ρ1 =>
          rw [e1, Option.bind_some] at h
          exact congrArg Nat.succ (ih h)
  exact ⟨p, vs, e1, s, by rw [ra.length, len hp, ht], Hs, ρ, ds, ρ', sl, ra, hp, q⟩
/-- a, b = e -/
def asgT (t : Tg) (f : EF) : SF := fun ρ => (f ρ).then fun x ρ1 => match x with
  | .st d => (match Tg.put t d ρ1 with
    | some ρ2 => .nx ρ2
    | none => .bad)
  | _ => .bad
theorem psd_asgT {W : WX} {fa : EF} {tg : Expr} (he : PD X B W e fa) (hg : PG X tg (gD X.K B t)) (hs : swapsWithSole [tg] e pos.line X.env = pure false := by rfl) (hw : swappedStores [tg] e X.env = pure none := by rfl)
    (h1 : (assignEach [tg] X.env).map (·.2) = [assign tg X.env] := by rfl) : PSD X B W (.Assign [tg] e pos) (asgT t fa) := PS.imp (ps_asg he hg hs hw h1) fun D' σ H ⟨Hs, ρ, sl, q⟩ => by
  refine ⟨Hs, ρ, sl, OP.imp (OP.stm q) fun x ρ1 Hs1 H1 _ sl1 e1 q1 v hv => ?_⟩
  cases x <;> first | exact q1.elim | skip
  rename_i d ed
  clear ed
  dsimp only at q1
  cases ep : Tg.put t d ρ1 with
  | none => rw [ep] at q1; exact q1.elim
  | some ρ2 =>
    rw [ep] at q1
    exact ⟨Hs1, ρ1, d, ρ2, sl1, hv, ep, fun σ' sl' _ => q1 σ' Hs1 H1 sl' (.refl _)⟩
end
structure WalkD (K : Fg) (J : It) (Hs : Hp) (ds : List D) : Prop where
  goes : ∀ i H, i < ds.length → Same Hs H → J.go i H
  stops : ∀ H, Same Hs H → J.stop ds.length H
  yields : ∀ i H x H' d, ds[i]? = some d → Same Hs H → J.yld i H x H' → ∀ Hs1, Same Hs Hs1 → Same Hs1 H → ∃ Hs2, Grow Hs1 H Hs2 H' ∧ Rep K Hs2 x d
def tID (K : Fg) (mg : MG) (B : Bs) (W : WX) (f : En → O (List D)) : TI := fun σ H R' => ∃ Hs ρ, Sl K B Hs H σ ρ ∧ OP K mg B W σ Hs (fun ds _ Hs' H' => ∀ J, WalkD K J Hs' ds → R' J H') (f ρ)
abbrev PID (X : Cx) (B : Bs) (W : WX) (tg e : Expr) (f : En → O (List D)) : Prop := PI X tg e (tID X.K X.mg B W f)
def forLoop (t : Tg) (body : SF) : List D → En → SO
  | [], ρ => .nx ρ
  | d :: ds, ρ => match Tg.put t d ρ with
    | none => .bad
    | some ρ1 => match body ρ1 with
      | .nx ρ2 => forLoop t body ds ρ2
      | .ct ρ2 => forLoop t body ds ρ2
      | .bk ρ2 => .nx ρ2
      | .rt d fr ρ2 => .rt d fr ρ2
      | .er e ρ2 => .er e ρ2
      | .bad => .bad
def forS (t : Tg) (src : En → O (List D)) (body : SF) : SF := fun ρ => (src ρ).then fun ds ρ1 => forLoop t body ds ρ1
theorem drop_get {α : Type} {xs : List α} {i : Nat} (h : i < xs.length) : xs.drop i = xs[i] :: xs.drop (i + 1) := by
  rw [List.drop_eq_getElem_cons h]
section
variable {X : Cx} {B : Bs} {W : WX} {e tg : Expr} {t : Tg} {pos : Pos} {src : En → O (List D)} {body : List Stmt} {fb : SF}
theorem psd_for (hp : PassesOwn (model X.prog X.w) X.A X.env X.xe) (hc : X.calm = true) (hi : PID X B W tg e src) (hg : PG X tg (gD X.K B t)) (hb : PSsD X B W body fb)
    (hs : ∀ x, foldedSetIterable e X.env x = pure x := by intro _; rfl) : PSD X B W (.For tg e body [] pos) (forS t src fb) := PS.imp (ps_for hp hc hi hg hb hs) fun D' σ H ⟨Hs, ρ, sl, q⟩ => by
  refine ⟨Hs, ρ, sl, OP.imp (OP.stm q) fun ds ρ1 Hs1 H1 _ sl1 e1 q1 J w => ?_⟩
  refine ⟨fun i m σ H => m = ds.length - i ∧ i ≤ ds.length ∧ ∃ Hs ρ, Same Hs1 Hs ∧ Sl X.K B Hs H σ ρ ∧ SQ X.K X.mg B W Hs D' (forLoop t fb (ds.drop i) ρ), ⟨ds.length, rfl, Nat.zero_le _, Hs1, ρ1, .refl _, sl1, q1⟩, ?_⟩
  rintro i m σ2 H2 ⟨rfl, hi, Hs2, ρ2, s2, sl2, q2⟩
  have sm : Same Hs1 H2 := s2.trans sl2.sub
  by_cases hlt : i < ds.length
  · refine .inr ⟨w.goes i H2 hlt sm, fun σ H => ∃ Hs ρ, Same Hs1 Hs ∧ Sl X.K B Hs H σ ρ ∧ SQ X.K X.mg B W Hs D' (forLoop t fb (ds.drop (i + 1)) ρ), fun σ' H' h => ⟨ds.length - (i + 1), by omega, rfl, hlt, h⟩, fun x H3 y => ?_⟩
    obtain ⟨Hs3, g, r⟩ := w.yields i H2 x H3 ds[i] (by simp [hlt]) sm y Hs2 s2 sl2.sub
    rw [drop_get hlt] at q2
    unfold forLoop at q2
    cases ep : Tg.put t ds[i] ρ2 with
    | none => rw [ep] at q2; exact q2.elim
    | some ρ3 =>
      rw [ep] at q2
      dsimp only at q2
      refine ⟨Hs3, ρ2, _, ρ3, sl2.grow g, r, ep, fun σ3 sl3 _ => ⟨Hs3, ρ3, sl3, ?_⟩⟩
      have s3 : Same Hs1 Hs3 := s2.trans g.s
      cases eb : fb ρ3 with
      | nx ρ4 =>
        rw [eb] at q2
        exact fun σ' Hs' H' sl' e => ⟨Hs', ρ4, s3.trans e, sl', SQ.later q2 (g.s.trans e)⟩
      | ct ρ4 =>
        rw [eb] at q2
        exact fun σ' Hs' H' sl' e => ⟨Hs', ρ4, s3.trans e, sl', SQ.later q2 (g.s.trans e)⟩
      | bk ρ4 => rw [eb] at q2; exact SQ.later (o := .nx ρ4) q2 g.s
      | rt d fr ρ4 => rw [eb] at q2; exact SQ.later (o := .rt d fr ρ4) q2 g.s
      | er z ρ4 => rw [eb] at q2; exact SQ.later (o := .er z ρ4) q2 g.s
      | bad => rw [eb] at q2; exact q2.elim
  · have e : i = ds.length := by omega
    subst e
    rw [List.drop_length] at q2
    exact .inl ⟨w.stops H2 sm, q2 σ2 Hs2 H2 sl2 (.refl _)⟩
end
end DL
namespace DL
open PySem PySem.Spec PyProof.Rows L2
def Slot.lent : Slot → Bool
  | .arg _ => true
  | .atr _ => true
  | .gho _ _ => true
  | .tab _ => true
  | _ => false
def inB (B : Bs) (Hs H : Hp) (ρ : En) (F : Nat → List Addr) : Bs := ⟨Hs, H, fun a => ∃ (j : Nat) (s : Slot), ρ[j]? = some s ∧ s.lent = true ∧ a ∈ F j, fun a => ∃ (j : Nat) (s : Slot), ρ[j]? = some s ∧ s.lent = false ∧ a ∈ F j, B.rt, B.pin⟩
section
variable {K : Fg} {B B' : Bs} {Hs H Hs' H' : Hp} {σ σ' : L2.St} {ρ ρ' : En} {F : Nat → List Addr}
/-- what a slot owns may be written -/
theorem Feet.may {x : Option V} {s : Slot} {f : List Addr} (h : Feet K B Hs H x s f) (o : SlotOk K B Hs H x s) : ∀ a ∈ f, (s.lent = false → B.nw a) ∧ (B.nw a ∨ B.own0 a) := fun a i => by
  cases s with
  | own d =>
    obtain ⟨p, rfl, rfl⟩ := h
    obtain ⟨p', e, n, z, c⟩ := o
    cases e
    rw [List.mem_singleton] at i
    subst i
    exact ⟨fun _ => z, .inl z⟩
  | arg d =>
    obtain ⟨p, rfl, rfl⟩ := h
    obtain ⟨p', e, n, z, c⟩ := o
    cases e
    rw [List.mem_singleton] at i
    subst i
    exact ⟨fun z => (by cases z), z.2⟩
  | tre d => obtain ⟨p, e, t, z⟩ := h; exact ⟨fun _ => z a i, .inl (z a i)⟩
  | atr d => obtain ⟨p, e, t, _, z⟩ := h; exact ⟨fun y => (by cases y), z a i⟩
  | gho n d => obtain ⟨p, e, t, z⟩ := h; exact ⟨fun y => (by cases y), z a i⟩
  | tab T => exact ⟨fun y => (by cases y), h.2 a i⟩
  | un => have h : f = [] := h; rw [h] at i; cases i
  | val d => have h : f = [] := h; rw [h] at i; cases i
  | fn d => have h : f = [] := h; rw [h] at i; cases i
/-- the same under another base -/
theorem Feet.rebase {x : Option V} {s : Slot} {f : List Addr} (h : Feet K B Hs H x s f) (o : SlotOk K B Hs H x s) (m : ∀ a ∈ f, (s.lent = false → B'.nw a) ∧ (B'.nw a ∨ B'.own0 a)) (r : ∀ a, B.rt a → B'.rt a) (ep : ∀ n a, B.pin n = some a → B'.pin n = some a) : Feet K B' Hs H x s f ∧ SlotOk K B' Hs H x s := by
  have tp : ∀ {p d f}, TreP K B.pin Hs H p d f → TreP K B'.pin Hs H p d f := fun t => ⟨t.1.mono (.refl _) ep (fun _ _ _ e => e) (fun _ _ e => e), t.2⟩
  cases s with
  | own d =>
    obtain ⟨p, rfl, rfl⟩ := h
    obtain ⟨p', e, n, z, c⟩ := o
    cases e
    exact ⟨⟨p, rfl, rfl⟩, p, rfl, n, (m p (List.mem_singleton_self p)).1 rfl, c⟩
  | arg d =>
    obtain ⟨p, rfl, rfl⟩ := h
    obtain ⟨p', e, n, z, c⟩ := o
    cases e
    exact ⟨⟨p, rfl, rfl⟩, p, rfl, n, ⟨r p z.1, (m p (List.mem_singleton_self p)).2⟩, c⟩
  | tre d => obtain ⟨p, e, t, z⟩ := h; exact ⟨⟨p, e, tp t, fun a i => (m a i).1 rfl⟩, p, f, e, tp t, fun a i => (m a i).1 rfl⟩
  | atr d => obtain ⟨p, e, t, q, z⟩ := h; exact ⟨⟨p, e, tp t, r p q, fun a i => (m a i).2⟩, p, f, e, tp t, r p q, fun a i => (m a i).2⟩
  | gho n d => obtain ⟨p, e, t, z⟩ := h; exact ⟨⟨p, ep n p e, tp t, fun a i => (m a i).2⟩, p, f, ep n p e, tp t, fun a i => (m a i).2⟩
  | tab T => exact ⟨⟨h.1, fun a i => (m a i).2⟩, f, h.1, fun a i => (m a i).2⟩
  | un => exact ⟨h, o⟩
  | val d => exact ⟨h, o⟩
  | fn d => exact ⟨h, o⟩
theorem Sl.inner (sl : Sl K B Hs H σ ρ) (fe : FeetOk K B Hs H σ ρ F) : Sl K (inB B Hs H ρ F) Hs H σ ρ ∧ FeetOk K (inB B Hs H ρ F) Hs H σ ρ F := by
  have key : ∀ (i : Nat) (x : Option V) (s : Slot), σ[i]? = some x → ρ[i]? = some s → Feet K (inB B Hs H ρ F) Hs H x s (F i) ∧ SlotOk K (inB B Hs H ρ F) Hs H x s := fun i x s a b =>
    (fe.at_ i x s a b).rebase (sl.ok i x s a b) (fun c m => by
      cases e : s.lent with
      | false => exact ⟨fun _ => .inr ⟨i, s, b, e, m⟩, .inl (.inr ⟨i, s, b, e, m⟩)⟩
      | true => exact ⟨fun z => (by cases z), .inr ⟨i, s, b, e, m⟩⟩) (fun _ z => z) fun _ _ z => z
  have fe' : FeetOk K (inB B Hs H ρ F) Hs H σ ρ F := ⟨fun i x s a b => (key i x s a b).1, fe.out, fe.dis⟩
  refine ⟨⟨sl.len, fun i x s a b => (key i x s a b).2, sl.sub, .refl _, fun a => ?_, fun a o e _ _ => e, fun a w => ?_, F, fe'⟩, fe'⟩
  · cases e : Hs a with
    | none => exact .inl rfl
    | some o => exact .inr (.inl (by show Hs a ≠ none; rw [e]; simp))
  · have h1 : ∃ (j : Nat) (s : Slot), ρ[j]? = some s ∧ a ∈ F j := by
      rcases w with ⟨j, s, b, _, m⟩ | ⟨j, s, b, _, m⟩ <;> exact ⟨j, s, b, m⟩
    obtain ⟨j, s, b, m⟩ := h1
    obtain ⟨x, ex⟩ := sl_var sl b
    exact ((fe.at_ j x s ex b).there (sl.ok j x s ex b) a m).1.some
theorem inB_may (sl : Sl K B Hs H σ ρ) (fe : FeetOk K B Hs H σ ρ F) {a : Addr} : ((inB B Hs H ρ F).nw a → B.nw a) ∧ ((inB B Hs H ρ F).own0 a → B.nw a ∨ B.own0 a) := by
  refine ⟨fun z => ?_, fun ⟨j, s, b, e, m⟩ => ?_⟩
  · rcases z with z | ⟨j, s, b, e, m⟩
    · exact sl.nw_of z
    · obtain ⟨x, ex⟩ := sl_var sl b
      exact ((fe.at_ j x s ex b).may (sl.ok j x s ex b) a m).1 e
  · obtain ⟨x, ex⟩ := sl_var sl b
    exact ((fe.at_ j x s ex b).may (sl.ok j x s ex b) a m).2
theorem Sl.outer {σ2 : L2.St} {ρ2 : En} (sl : Sl K B Hs H σ ρ) (fe : FeetOk K B Hs H σ ρ F) (i : Sl K (inB B Hs H ρ F) Hs' H' σ2 ρ2) : Sl K B Hs' H' σ2 ρ2 ∧ ∀ F2, FeetOk K (inB B Hs H ρ F) Hs' H' σ2 ρ2 F2 → FeetOk K B Hs' H' σ2 ρ2 F2 := by
  have key : ∀ F2, FeetOk K (inB B Hs H ρ F) Hs' H' σ2 ρ2 F2 → ∀ (j : Nat) (x : Option V) (s : Slot), σ2[j]? = some x → ρ2[j]? = some s → Feet K B Hs' H' x s (F2 j) ∧ SlotOk K B Hs' H' x s := fun F2 f2 j x s a b =>
    (f2.at_ j x s a b).rebase (i.ok j x s a b) (fun c m => by
      have q := (f2.at_ j x s a b).may (i.ok j x s a b) c m
      refine ⟨fun z => (inB_may sl fe).1 (q.1 z), ?_⟩
      rcases q.2 with z | z
      · exact .inl ((inB_may sl fe).1 z)
      · exact (inB_may sl fe).2 z) (fun _ z => z) fun _ _ z => z
  have all : ∀ F2, FeetOk K (inB B Hs H ρ F) Hs' H' σ2 ρ2 F2 → FeetOk K B Hs' H' σ2 ρ2 F2 := fun F2 f2 => ⟨fun j x s a b => (key F2 f2 j x s a b).1, f2.out, f2.dis⟩
  obtain ⟨F2, f2⟩ := i.feet
  refine ⟨⟨i.len, fun j x s a b => (key F2 f2 j x s a b).2, i.sub, sl.base.trans i.base, fun a => ?_, fun a o e w w1 => ?_, fun a w => ?_, F2, all F2 f2⟩, all⟩
  · rcases i.new a with h | h | h
    · exact .inl h
    · rcases sl.new a with q | q | q
      · exact absurd q h
      · exact .inr (.inl q)
      · refine .inr (.inr (q.imp id fun t => ?_))
        have nf : ∀ k, a ∉ F k := fun k m => by
          cases ek : ρ[k]? with
          | none => rw [fe.out k ek] at m; cases m
          | some s =>
            obtain ⟨x, ex⟩ := sl_var sl ek
            exact ((fe.at_ k x s ex ek).there (sl.ok k x s ex ek) a m).1.notup t
        obtain ⟨xs, e⟩ := t
        exact ⟨xs, i.keep a _ e (fun ⟨k, d, z1, z2, z3⟩ => nf k z3) fun ⟨k, d, z1, z2, z3⟩ => nf k z3⟩
    · exact .inr (.inr (h.imp (inB_may sl fe).1 id))
  · have no : ∀ z : B.nw a ∨ B.own0 a, False := fun z => by
      rcases z with (z | z) | z
      · rw [e] at z; cases z
      · exact w1 z
      · exact w z
    exact i.keep a o (sl.keep a o e w w1) (fun z => no ((inB_may sl fe).2 z)) fun z => no (.inl ((inB_may sl fe).1 (.inr z)))
  · obtain ⟨o, e⟩ := sl.there a w
    by_cases w0 : (inB B Hs H ρ F).own0 a
    · exact i.there a (.inl w0)
    · by_cases w1 : (inB B Hs H ρ F).own1 a
      · exact i.there a (.inr w1)
      · exact ⟨o, i.keep a o e w0 w1⟩
/-- an object that no slot owns stays, and stays nobody's -/
theorem Sl.floats {σ2 : L2.St} {ρ2 : En} {p : Addr} {o : HO} (i : Sl K (inB B Hs H ρ F) Hs' H' σ2 ρ2) (e : H p = some o) (nt : ∀ xs, o ≠ .tup xs) (n : Hs p = none) (np : ∀ j, p ∉ F j) :
    H' p = some o ∧ Hs' p = none ∧ ∀ F2, FeetOk K (inB B Hs H ρ F) Hs' H' σ2 ρ2 F2 → ∀ j, p ∉ F2 j := by
  have w0 : ¬ (inB B Hs H ρ F).own0 p := fun ⟨k, d, z1, z2, z3⟩ => np k z3
  have w1 : ¬ (inB B Hs H ρ F).own1 p := fun ⟨k, d, z1, z2, z3⟩ => np k z3
  have nn : ¬ (inB B Hs H ρ F).nw p := fun z => by
    rcases z with z | z
    · have z : H p = none := z
      rw [e] at z; cases z
    · exact w1 z
  refine ⟨i.keep p o e w0 w1, ?_, fun F2 f2 j m => ?_⟩
  · rcases i.new p with h | h | h
    · exact h
    · exact absurd n h
    · exact (h.elim nn fun ⟨xs, t⟩ => nt xs (Option.some.inj ((i.keep p o e w0 w1).symm.trans t))).elim
  · cases es : ρ2[j]? with
    | none => rw [f2.out j es] at m; cases m
    | some s =>
      obtain ⟨x, ex⟩ := sl_var i es
      rcases ((f2.at_ j x s ex es).may (i.ok j x s ex es) p m).2 with z | z
      · exact nn z
      · exact w0 z
def wipeE (ρ : En) : List Nat → En
  | [] => ρ
  | v :: vs => (wipeE ρ vs).set v .un
theorem FeetOk.forget1 {i : Nat} (h : FeetOk K B Hs H σ ρ F) : FeetOk K B Hs H (σ.set i none) (ρ.set i .un) (fun j => if i = j then [] else F j) := by
    refine ⟨fun j x t a b => ?_, fun j a => ?_, fun j k hjk a ha hb => ?_⟩
    · by_cases e : i = j
      · subst e
        have hl := (List.getElem?_eq_some_iff.mp b).1
        rw [List.length_set] at hl
        rw [List.getElem?_set_self hl] at b
        cases b
        rw [if_pos rfl]
        rfl
      · rw [List.getElem?_set_ne e] at a b
        rw [if_neg e]
        exact h.at_ j x t a b
    · by_cases e : i = j
      · rw [if_pos e]
      · rw [if_neg e]
        rw [List.getElem?_set_ne e] at a
        exact h.out j a
    · by_cases e : i = j
      · rw [if_pos e] at ha; cases ha
      · by_cases e2 : i = k
        · rw [if_pos e2] at hb; cases hb
        · rw [if_neg e] at ha
          rw [if_neg e2] at hb
          exact h.dis j k hjk a ha hb
theorem Sl.forget1 {i : Nat} (sl : Sl K B Hs H σ ρ) : Sl K B Hs H (σ.set i none) (ρ.set i .un) where
  len := by rw [List.length_set, List.length_set]; exact sl.len
  ok := fun j x t a b => by
    by_cases h : i = j
    · subst h
      have hl := (List.getElem?_eq_some_iff.mp b).1
      rw [List.length_set] at hl
      rw [List.getElem?_set_self hl] at b
      cases b
      trivial
    · rw [List.getElem?_set_ne h] at a b
      exact sl.ok j x t a b
  sub := sl.sub
  base := sl.base
  new := sl.new
  keep := sl.keep
  there := sl.there
  feet := by
    obtain ⟨F, h⟩ := sl.feet
    exact ⟨_, h.forget1⟩
theorem Sl.wiped (sl : Sl K B Hs H σ ρ) : ∀ vs : List Nat, Sl K B Hs H (wipe σ vs) (wipeE ρ vs)
  | [] => sl
  | v :: vs => (sl.wiped vs).forget1
theorem Nob.wiped {p : Addr} (n : Nob K B Hs H σ ρ p) : ∀ vs : List Nat, Nob K B Hs H (wipe σ vs) (wipeE ρ vs) p
  | [] => n
  | v :: vs => by
    obtain ⟨F, h, q⟩ := n.wiped vs
    exact ⟨_, h.forget1, fun j m => by
      by_cases e : v = j
      · rw [if_pos e] at m; cases m
      · rw [if_neg e] at m; exact q j m⟩
theorem wipeE_un {i : Nat} : ∀ {vs : List Nat}, i ∈ vs → ∀ s, (wipeE ρ vs)[i]? = some s → s = .un
  | [], h, _, _ => by cases h
  | v :: vs, h, s, e => by
    unfold wipeE at e
    by_cases hv : v = i
    · subst hv
      have hl := (List.getElem?_eq_some_iff.mp e).1
      rw [List.length_set] at hl
      rw [List.getElem?_set_self hl] at e
      exact (Option.some.inj e).symm
    · rw [List.getElem?_set_ne hv] at e
      rcases List.mem_cons.mp h with h | h
      · exact absurd h.symm hv
      · exact wipeE_un h s e
theorem wipe_out' {i : Nat} {vs : List Nat} (h : i ∉ vs) : (wipe σ vs)[i]? = σ[i]? := wipe_out h
theorem FeetOk.unwipe {vs : List Nat} (h : FeetOk K B Hs H (wipe σ vs) (wipeE ρ vs) F) (sl : Sl K B Hs H (wipe σ vs) (wipeE ρ vs)) : FeetOk K B Hs H σ (wipeE ρ vs) F := ⟨fun j x t a b => by
    by_cases hj : j ∈ vs
    · have e := wipeE_un hj t b
      subst e
      obtain ⟨y, ey⟩ := sl_var sl b
      exact h.at_ j y _ ey b
    · rw [← wipe_out' hj] at a
      exact h.at_ j x t a b, h.out, h.dis⟩
theorem Sl.unwipe {vs : List Nat} (sl : Sl K B Hs H (wipe σ vs) (wipeE ρ vs)) : Sl K B Hs H σ (wipeE ρ vs) where
  len := by rw [← sl.len, wipe_length]
  ok := fun j x t a b => by
    by_cases h : j ∈ vs
    · rw [wipeE_un h t b]; trivial
    · rw [← wipe_out' h] at a
      exact sl.ok j x t a b
  sub := sl.sub
  base := sl.base
  new := sl.new
  keep := sl.keep
  there := sl.there
  feet := by
    obtain ⟨F, h⟩ := sl.feet
    exact ⟨F, h.unwipe sl⟩
/-- something nobody owns is written -/
theorem Sl.scratch {p : Addr} {o : HO} (sl : Sl K B Hs H σ ρ) (fe : FeetOk K B Hs H σ ρ F) (np : ∀ j, p ∉ F j) (n : Hs p = none) (z : B.nw p ∨ B.own0 p) (nt : ¬ TupAt H p) : Sl K B Hs (L2.upd H p o) σ ρ ∧ FeetOk K B Hs (L2.upd H p o) σ ρ F := by
  have st : ∀ i, ∀ c ∈ F i, ∀ u, H c = some u → L2.upd H p o c = some u := fun i c m u e => by rw [L2.upd_ne (fun q => np i (by rw [← q]; exact m))]; exact e
  have fe' : FeetOk K B Hs (L2.upd H p o) σ ρ F := ⟨fun i x s a b => (fe.at_ i x s a b).mono (.refl _) (st i) (fun _ _ e => e), fe.out, fe.dis⟩
  refine ⟨⟨sl.len, fun i x s a b => (sl.ok i x s a b).stays (fe.at_ i x s a b) (.refl _) (st i) (fun _ _ e => e), same_into sl.sub n, sl.base, fun a => (sl.new a).imp id fun q => q.imp id fun q => q.imp id fun t => ⟨t.choose, by rw [L2.upd_ne (fun z => nt (by rw [← z]; exact t))]; exact t.choose_spec⟩, fun a u e w w1 => ?_, fun a w => ?_, F, fe'⟩, fe'⟩
  · have k := sl.keep a u e w w1
    by_cases ha : a = p
    · subst ha
      rcases z with (z | z) | z
      · rw [e] at z; cases z
      · exact absurd z w1
      · exact absurd z w
    · rw [L2.upd_ne ha]; exact k
  · obtain ⟨u, e⟩ := sl.there a w
    by_cases ha : a = p
    · subst ha; exact ⟨_, L2.upd_same⟩
    · rw [L2.upd_ne ha]; exact ⟨u, e⟩
theorem wipe_eq {vs : List Nat} (o : Out vs σ σ') : wipe σ' vs = wipe σ vs := by
  refine List.ext_getElem? fun i => ?_
  by_cases h : i ∈ vs
  · have gone : ∀ (τ : L2.St) {ws : List Nat}, i ∈ ws → (wipe τ ws)[i]? = if i < τ.length then some none else none := fun τ ws => by
      induction ws with
      | nil => intro h; cases h
      | cons v ws ih =>
        intro h
        unfold wipe
        by_cases hv : v = i
        · subst hv
          rw [List.getElem?_set, wipe_length]
          simp
        · rw [List.getElem?_set_ne hv]
          rcases List.mem_cons.mp h with h | h
          · exact absurd h.symm hv
          · exact ih h
    rw [gone σ' h, gone σ h, o.1]
  · rw [wipe_out' h, wipe_out' h, o.2 i h]
end
def noEr {α : Type} : O α → O α
  | .er _ _ => .bad
  | o => o
abbrev W0 : WX := fun _ _ _ _ => False
theorem OP.noEr {α : Type} {K : Fg} {mg : MG} {B : Bs} {σ : L2.St} {Hs : Hp} {P : α → En → Hp → Hp → Prop} {o : O α} (h : OP K mg B W0 σ Hs P (DL.noEr o)) : OP K mg B W0 σ Hs P o := by
  cases o with
  | ok x r => exact h
  | er e r => exact h.elim
  | bad => exact h
def compLoop (t : Tg) (vs : List Nat) (tt : BF) (te : EF) : List D → En → O (List D)
  | [], ρ => .ok [] ρ
  | d :: ds, ρ => match t.put d ρ with
    | none => .bad
    | some ρ1 => (noEr (tt ρ1)).bind fun b ρ2 => if b = true then (noEr (te ρ2)).bind fun x ρ3 => match x with
        | .st z => (compLoop t vs tt te ds (wipeE ρ3 vs)).bind fun zs ρ4 => .ok (z :: zs) ρ4
        | _ => .bad
      else compLoop t vs tt te ds (wipeE ρ2 vs)
def compC (t : Tg) (vs : List Nat) (src : En → O (List D)) (tt : BF) (te : EF) : CF := fun ρ => (src ρ).bind fun ds ρ1 => (noEr (compLoop t vs tt te ds (wipeE ρ1 vs))).bind fun zs ρ2 => if short zs = true then .ok (.list zs) ρ2 else .bad
def tDA (K : Fg) (mg : MG) (f : EF) : TE := fun σ H Q => ∃ B, tD K mg B W0 f σ H Q
def tTA (K : Fg) (mg : MG) (f : BF) : TT := fun σ H Q => ∃ B, tTD K mg B W0 f σ H Q
def tgA (K : Fg) (t : Tg) : TG := fun v σ H Q => ∃ B, gD K B t v σ H Q
def yes : BF := fun ρ => .ok true ρ
theorem PTs.imp {X : Cx} {e : List Expr} {t t' : TT} (h : PTs X e t) (i : ∀ σ H Q, t' σ H Q → t σ H Q) : PTs X e t' := ⟨fun pins s σ H Q I q => h.run pins s σ H Q I (i σ H Q q)⟩
theorem ptsd_nil {X : Cx} {B : Bs} {W : WX} : PTs X [] (tTD X.K X.mg B W yes) := PTs.imp pts_nil fun σ H Q ⟨Hs, ρ, sl, q⟩ => q Hs H sl (.refl _)
section
variable {X : Cx} {B : Bs} {W : WX} {elt tg iter : Expr} {ifs : List Expr} {scope : Scope} {own : List (Str × Nat)} {pos : Pos} {t : Tg} {src : En → O (List D)} {tt : BF} {fe : EF}
theorem comp_read {σ : L2.St} {H : Hp} {Q : VK} {vs : List Nat} (hv : ∀ i ∈ t.at, i ∈ vs) (h : tC' X.K X.mg B W (compC t vs src tt fe) σ H Q) : tLc (tID X.K X.mg B W src) (tgA X.K t) (tTA X.K X.mg tt) (tDA X.K X.mg fe) vs σ H Q := by
  obtain ⟨Hs, ρ, sl, q⟩ := h
  refine ⟨Hs, ρ, sl, OP.imp (OP.bind q) fun ds ρ1 Hs1 H1 _ sl1 e1 q1 J w Dl nD => ?_⟩
  have q1 := q1
  obtain ⟨f1, f2, f3⟩ := sl1.fresh nD
  -- what is wanted of the rest of the loop, with acc made so far
  let Fin : List D → O (List D) → Prop := fun acc o => match o with
    | .ok zs ρ2 => (acc ++ zs).length ≤ 100000 ∧ ∀ Hs' H' p, Sl X.K B Hs' H' σ ρ2 → Same Hs1 Hs' → Hs' p = none → B.nw p → Nob X.K B Hs' H' σ ρ2 p → Cont X.K Hs' H' p (.list (acc ++ zs)) → Q (.ref p) H'
    | _ => False
  have fin0 : Fin [] (compLoop t vs tt fe ds (wipeE ρ1 vs)) := by
    cases ec : compLoop t vs tt fe ds (wipeE ρ1 vs) with
    | er e r => rw [ec] at q1; exact q1.elim
    | bad => rw [ec] at q1; exact q1.elim
    | ok zs ρ2 =>
      rw [ec] at q1
      unfold DL.noEr O.bind at q1
      dsimp only at q1
      by_cases c : short zs = true
      · rw [if_pos c] at q1
        exact ⟨of_decide_eq_true c, fun Hs' H' p a b c d e f => q1 Hs' H' a b p c d e f⟩
      · rw [if_neg c] at q1; exact q1.elim
  refine ⟨fun i m H' => m = ds.length - i ∧ i ≤ ds.length ∧ ∃ Hs' ρ' acc, Same Hs1 Hs' ∧ Sl X.K B Hs' H' (wipe σ vs) (wipeE ρ' vs) ∧ Hs' Dl = none ∧ Nob X.K B Hs' H' (wipe σ vs) (wipeE ρ' vs) Dl ∧ Cont X.K Hs' H' Dl (.list acc) ∧ Fin acc (compLoop t vs tt fe (ds.drop i) (wipeE ρ' vs)),
    ⟨ds.length, rfl, Nat.zero_le _, Hs1, ρ1, [], .refl _, (sl1.grow (Grow.loose sl1.sub nD)).wiped vs, f1, (f3.grow sl1 (Grow.loose sl1.sub nD)).wiped vs, ⟨[], upd_same, .nil⟩, fin0⟩, ?_⟩
  rintro i m H2 ⟨rfl, hi, Hs2, ρ2, acc, s2, sl2, nd2, np2, cn2, fin2⟩
  have sm : Same Hs1 H2 := s2.trans sl2.sub
  by_cases hlt : i < ds.length
  · refine .inr ⟨w.goes i H2 hlt sm, fun H' => i + 1 ≤ ds.length ∧ ∃ Hs' ρ' acc, Same Hs1 Hs' ∧ Sl X.K B Hs' H' (wipe σ vs) (wipeE ρ' vs) ∧ Hs' Dl = none ∧ Nob X.K B Hs' H' (wipe σ vs) (wipeE ρ' vs) Dl ∧ Cont X.K Hs' H' Dl (.list acc) ∧ Fin acc (compLoop t vs tt fe (ds.drop (i + 1)) (wipeE ρ' vs)),
      fun H' h => ⟨ds.length - (i + 1), by omega, rfl, h⟩, fun x H3 y => ?_⟩
    obtain ⟨Hs3, g, r⟩ := w.yields i H2 x H3 ds[i] (by simp [hlt]) sm y Hs2 s2 sl2.sub
    rw [drop_get hlt] at fin2
    unfold compLoop at fin2
    cases ep : Tg.put t ds[i] (wipeE ρ2 vs) with
    | none => rw [ep] at fin2; exact fin2.elim
    | some ρ3 =>
      rw [ep] at fin2
      dsimp only at fin2
      have sl3 := sl2.grow g
      have nd3 : Hs3 Dl = none := by
        rcases g.new Dl with h | h | h
        · exact h
        · exact absurd nd2 h
        · exact (cn2.own.nofree h).elim
      obtain ⟨vs3, ev3, rv3⟩ := cn2
      have ev3 : H3 Dl = some (.lst vs3) := g.h _ _ ev3
      have rv3 := rv3.mono g.s
      obtain ⟨F2, fe2, nF2⟩ := np2
      have fe3 := fe2.grow sl2 g
      have slI := (sl3.inner fe3).1
      refine ⟨_, Hs3, _, _, ρ3, slI, r, ep, fun σ4 sl4 o4 => ⟨?_, ?_⟩⟩
      · refine wipe_eq (σ := wipe σ vs) (σ' := σ4) ⟨o4.1, fun j hj => o4.2 j fun z => hj (hv j z)⟩ |>.trans ?_
        refine wipe_eq ⟨wipe_length _ _, fun j hj => wipe_out' hj⟩
      have wq : wipe σ4 vs = wipe σ vs := (wipe_eq (σ := wipe σ vs) (σ' := σ4) ⟨o4.1, fun j hj => o4.2 j fun z => hj (hv j z)⟩).trans (wipe_eq ⟨wipe_length _ _, fun j hj => wipe_out' hj⟩)
      have lenz : vs3.length = acc.length := rv3.length
      refine ⟨_, Hs3, ρ3, sl4, ?_⟩
      cases et : tt ρ3 with
      | er e z => rw [et] at fin2; exact fin2.elim
      | bad => rw [et] at fin2; exact fin2.elim
      | ok b ρ4 =>
        rw [et] at fin2
        unfold DL.noEr O.bind at fin2
        dsimp only at fin2
        intro Hs5 H5 sl5 e5
        cases b with
        | false =>
          rw [if_neg (by decide)] at fin2
          rw [if_neg (by decide)]
          have sl6 := (sl5.wiped vs)
          rw [wq] at sl6
          obtain ⟨h1, h2, h3⟩ := sl6.floats ev3 (fun _ => nofun) nd3 nF2
          obtain ⟨slo, all⟩ := sl3.outer fe3 sl6
          obtain ⟨F4, fe4⟩ := sl6.feet
          exact ⟨hlt, Hs5, ρ4, acc, (s2.trans g.s).trans e5, slo, h2, ⟨F4, all F4 fe4, h3 F4 fe4⟩, ⟨vs3, h1, rv3.mono e5⟩, fin2⟩
        | true =>
          rw [if_pos rfl] at fin2
          rw [if_pos rfl]
          refine ⟨_, Hs5, ρ4, sl5, ?_⟩
          cases ee : fe ρ4 with
          | er e z => rw [ee] at fin2; exact fin2.elim
          | bad => rw [ee] at fin2; exact fin2.elim
          | ok x6 ρ6 =>
            rw [ee] at fin2
            cases x6 <;> first | exact fin2.elim | skip
            rename_i z6
            dsimp only at fin2
            intro Hs7 H7 sl7 e7 v7 hv7
            have sl8 := (sl7.wiped vs)
            rw [wq] at sl8
            obtain ⟨h1, h2, h3⟩ := sl8.floats ev3 (fun _ => nofun) nd3 nF2
            obtain ⟨slo, all⟩ := sl3.outer fe3 sl8
            obtain ⟨F4, fe4⟩ := sl8.feet
            obtain ⟨sl9, fe9⟩ := slo.scratch (o := .lst (vs3 ++ [v7])) (all F4 fe4) (h3 F4 fe4) h2 (.inl f2) (fun ⟨_, t⟩ => by rw [h1] at t; cases t)
            cases ec : compLoop t vs tt fe (ds.drop (i + 1)) (wipeE ρ6 vs) with
            | er e z => rw [ec] at fin2; exact fin2.elim
            | bad => rw [ec] at fin2; exact fin2.elim
            | ok zs ρ10 =>
              rw [ec] at fin2
              obtain ⟨l10, fin10⟩ := fin2
              have h8 : (100000 : Nat) ≤ sizeLine := by decide
              refine ⟨vs3, h1, ?_, hlt, Hs7, ρ6, acc ++ [z6], (s2.trans g.s).trans (e5.trans e7), sl9, h2, ⟨F4, fe9, h3 F4 fe4⟩, ⟨vs3 ++ [v7], upd_same, ((rv3.mono (e5.trans e7)).append (.cons hv7 .nil))⟩, ?_⟩
              · rw [List.length_append, List.length_cons] at l10
                omega
              · rw [ec]
                refine ⟨?_, ?_⟩
                · rw [List.append_assoc]; exact l10
                · rw [List.append_assoc]; exact fin10
  · have e : i = ds.length := by omega
    subst e
    rw [List.drop_length] at fin2
    obtain ⟨_, fin3⟩ := fin2
    rw [List.append_nil] at fin3
    obtain ⟨F2, fe2, nF2⟩ := np2
    exact .inl ⟨w.stops H2 sm, fin3 Hs2 H2 Dl sl2.unwipe s2 nd2 f2 ⟨F2, fe2.unwipe sl2, nF2⟩ cn2⟩
/-- [e for t in .. if ..] -/
theorem pc_lc (hc : X.calm = true) (hN : X.N.Nodup) (hi : PID X B W tg iter src) (ok : BlkOk X.N X.env.scope scope own)
    (hg : ∀ (s : Shared) (H : Hp) (C : Addr) (cl : List (Str × Addr)) (fp : List Addr) (B : Bs), PG (X.blk s H scope (compEnvC scope cl C X.env) fp) tg (gD X.K B t))
    (ht : ∀ (s : Shared) (H : Hp) (C : Addr) (cl : List (Str × Addr)) (fp : List Addr) (B : Bs), PTs (X.blk s H scope (compEnvC scope cl C X.env) fp) ifs (tTD X.K X.mg B W0 tt))
    (he : ∀ (s : Shared) (H : Hp) (C : Addr) (cl : List (Str × Addr)) (fp : List Addr) (B : Bs), PD (X.blk s H scope (compEnvC scope cl C X.env) fp) B W0 elt fe)
    (hv : ∀ i ∈ t.at, i ∈ own.map (·.2) := by decide) (hs : ∀ x, foldedSetIterable iter X.env x = pure x := by intro _; rfl) : PC' X B W (.ListComp elt [⟨tg, iter, ifs, 0⟩] scope pos) (compC t (own.map (·.2)) src tt fe) :=
  PE.imp (pe_lc (g := tgA X.K t) (tt := tTA X.K X.mg tt) (te := tDA X.K X.mg fe) hc hN hi ok (fun s H C cl fp => ⟨fun pins s' σ H' v u Q I r ⟨B, q⟩ => (hg s H C cl fp B).run pins s' σ H' v u Q I r q⟩)
    (fun s H C cl fp => ⟨fun pins s' σ H' Q I ⟨B, q⟩ => (ht s H C cl fp B).run pins s' σ H' Q I q⟩) (fun s H C cl fp => ⟨fun pins s' σ H' Q I ⟨B, q⟩ => (he s H C cl fp B).run pins s' σ H' Q I q⟩) hs) fun σ H Q h => comp_read hv h
end
end DL
namespace DL
open PySem PySem.Spec PyProof.Rows L2
theorem PI.or {X : Cx} {tg e : Expr} {t t' : TI} (h : PI X tg e t) (h' : PI X tg e t') : PI X tg e (fun σ H R => t σ H R ∨ t' σ H R) := ⟨fun pins s σ H R I q => q.elim (h.run pins s σ H R I) (h'.run pins s σ H R I)⟩
section
variable {K : Fg} {Hs : Hp}
theorem walk_lst {a : Addr} {vs : List V} {ds : List D} (h : Hs a = some (.lst vs)) (r : RepA K Hs vs ds) : WalkD K (Itl K a) Hs ds where
  goes := fun i H hi s => (walk_list (K := K) (a := a) (xs := vs)).goes i H (by rw [r.length]; exact hi) (.inl (.inl (s _ _ h)))
  stops := fun H s => by
    have := (walk_list (K := K) (a := a) (xs := vs)).stops H (.inl (.inl (s _ _ h)))
    rw [r.length] at this
    exact this
  yields := fun i H x H' d hd s y Hs1 s1 s2 => by
    have hi : i < vs.length := by rw [r.length]; exact (List.getElem?_eq_some_iff.mp hd).1
    obtain ⟨rfl, hx⟩ := (walk_list (K := K) (a := a) (xs := vs)).yields i H x H' hi (.inl (.inl (s _ _ h))) y
    obtain ⟨v, e, rv⟩ := r.get hd
    rw [hx] at e
    cases e
    exact ⟨Hs1, .refl s2, rv.mono s1⟩
theorem walk_tpl {a : Addr} {vs : List V} {ds : List D} (h : SqT K Hs a vs) (r : RepA K Hs vs ds) : WalkD K (Itt K a) Hs ds where
  goes := fun i H hi s => (walk_tup (K := K) (a := a) (xs := vs)).goes i H (by rw [r.length]; exact hi) (DL.Same.seqT s h)
  stops := fun H s => by
    have := (walk_tup (K := K) (a := a) (xs := vs)).stops H (DL.Same.seqT s h)
    rw [r.length] at this
    exact this
  yields := fun i H x H' d hd s y Hs1 s1 s2 => by
    have hi : i < vs.length := by rw [r.length]; exact (List.getElem?_eq_some_iff.mp hd).1
    obtain ⟨rfl, hx⟩ := (walk_tup (K := K) (a := a) (xs := vs)).yields i H x H' hi (DL.Same.seqT s h) y
    obtain ⟨v, e, rv⟩ := r.get hd
    rw [hx] at e
    cases e
    exact ⟨Hs1, .refl s2, rv.mono s1⟩
/-- lo, lo + 1, .., below hi -/
def rng (lo hi : Int) : List D := (List.range (hi - lo).toNat).map fun (i : Nat) => .int (lo + (i : Int))
theorem rng_len (lo hi : Int) : (rng lo hi).length = (hi - lo).toNat := by unfold rng; rw [List.length_map, List.length_range]
theorem walk_rng {lo hi : Int} : WalkD K (Itr lo (hi - lo).toNat) Hs (rng lo hi) where
  goes := fun i H h s => by rw [rng_len] at h; exact h
  stops := fun H s => by rw [rng_len]; exact Nat.le_refl _
  yields := fun i H x H' d hd s y Hs1 s1 s2 => by
    obtain ⟨rfl, rfl⟩ := y
    unfold rng at hd
    rw [List.getElem?_map] at hd
    cases e : (List.range (hi - lo).toNat)[i]? with
    | none => rw [e] at hd; cases hd
    | some j =>
      rw [e] at hd
      cases hd
      obtain ⟨hj, ej⟩ := List.getElem?_eq_some_iff.mp e
      rw [List.getElem_range] at ej
      subst ej
      exact ⟨Hs1, .refl s2, .int _⟩
def signs (z : Str) : List D := z.cps.toList.map fun c => .str ⟨#[c]⟩
theorem walk_sgn {z : Str} : WalkD K (Its z) Hs (signs z) where
  goes := fun i H h s => by
    unfold signs at h
    rw [List.length_map, Array.length_toList] at h
    exact h
  stops := fun H s => by
    unfold signs
    rw [List.length_map, Array.length_toList]
    exact Nat.le_refl _
  yields := fun i H x H' d hd s y Hs1 s1 s2 => by
    obtain ⟨rfl, c, hc, rfl⟩ := y
    unfold signs at hd
    rw [List.getElem?_map, Array.getElem?_toList, hc] at hd
    cases hd
    exact ⟨Hs1, .refl s2, .str _⟩
end
/-- a list or a tuple or a text that stays -/
def srcF (f : EF) : En → O (List D) := fun ρ => (f ρ).bind fun x ρ1 => match x with
  | .st (.list ds) => .ok ds ρ1
  | .st (.tuple ds) => .ok ds ρ1
  | .st (.str z) => .ok (signs z) ρ1
  | _ => .bad
def rngOk (i : Int) : Bool := Nat.ble i.natAbs 4000000000000000000
theorem rng_fit {i : Int} (h : -4000000000000000000 ≤ i) (h2 : i ≤ 4000000000000000000) : rngOk i = true := Nat.ble_eq.mpr (by omega)
theorem rng_ok {i : Int} (h : rngOk i = true) : -(2 ^ 62) ≤ i ∧ i < 2 ^ 62 := by
  have h1 : i.natAbs ≤ 4000000000000000000 := Nat.ble_eq.mp h
  omega
def srcR1 (f : EF) : En → O (List D) := fun ρ => (f ρ).bind fun x ρ1 => match x.get ρ1 with
  | some (.int i) => if rngOk i = true then .ok (rng 0 i) ρ1 else .bad
  | _ => .bad
def srcR2 (f g : EF) : En → O (List D) := fun ρ => (f ρ).bind fun x ρ1 => (g ρ1).bind fun y ρ2 => match x.get ρ2, y.get ρ2 with
  | some (.int i), some (.int j) => if rngOk i = true ∧ rngOk j = true then .ok (rng i j) ρ2 else .bad
  | _, _ => .bad
section
variable {X : Cx} {B : Bs} {W : WX} {e e2 tg : Expr} {fa fb : EF} {p pos : Pos}
theorem pid_seq (h : PD X B W e fa) : PID X B W tg e (srcF fa) := PI.imp (PI.or (PI.or (pi_list h) (pi_tup h)) (pi_str h)) fun σ H R' ⟨Hs, ρ, sl, q⟩ => by
  have all : ∀ x ρ1, fa ρ = .ok x ρ1 → (∃ ds, x = .st (.list ds)) ∨ (∃ ds, x = .st (.tuple ds)) ∨ (∃ z, x = .st (.str z)) := fun x ρ1 ex => by
    unfold srcF at q
    rw [ex] at q
    cases x <;> first | exact q.elim | skip
    rename_i d
    cases d <;> first | exact q.elim | skip
    · exact .inr (.inr ⟨_, rfl⟩)
    · exact .inl ⟨_, rfl⟩
    · exact .inr (.inl ⟨_, rfl⟩)
  have go : (∃ (ρ1 : En) (ds : List D), fa ρ = .ok (.st (.tuple ds)) ρ1) ∨ (∃ (ρ1 : En) (z : Str), fa ρ = .ok (.st (.str z)) ρ1) ∨ ((∀ ρ1 ds, fa ρ ≠ .ok (.st (.tuple ds)) ρ1) ∧ ∀ ρ1 z, fa ρ ≠ .ok (.st (.str z)) ρ1) := by
    by_cases h1 : ∃ (ρ1 : En) (ds : List D), fa ρ = .ok (.st (.tuple ds)) ρ1
    · exact .inl h1
    · by_cases h2 : ∃ (ρ1 : En) (z : Str), fa ρ = .ok (.st (.str z)) ρ1
      · exact .inr (.inl h2)
      · exact .inr (.inr ⟨fun ρ1 ds e => h1 ⟨ρ1, ds, e⟩, fun ρ1 z e => h2 ⟨ρ1, z, e⟩⟩)
  rcases go with ⟨ρ0, ds0, e0⟩ | ⟨ρ0, z0, e0⟩ | ⟨n1, n2⟩
  · refine .inl (.inr ⟨Hs, ρ, sl, OP.imp (OP.bind q) fun x ρ1 Hs1 H1 ex sl1 e1 q1 v hv => ?_⟩)
    rw [e0] at ex
    cases ex
    obtain ⟨a, vs, rfl, s, r⟩ := Shal.tup (H := Hs1) (.inl hv) (.refl _)
    exact ⟨a, rfl, ⟨vs, DL.Same.seqT sl1.sub s⟩, q1 Hs1 H1 sl1 (.refl _) _ (walk_tpl s r)⟩
  · refine .inr ⟨Hs, ρ, sl, OP.imp (OP.bind q) fun x ρ1 Hs1 H1 ex sl1 e1 q1 v hv => ?_⟩
    rw [e0] at ex
    cases ex
    exact ⟨_, Shal.str (H := Hs1) (.inl hv), q1 Hs1 H1 sl1 (.refl _) _ walk_sgn⟩
  · refine .inl (.inl ⟨Hs, ρ, sl, OP.imp (OP.bind q) fun x ρ1 Hs1 H1 ex sl1 e1 q1 v hv => ?_⟩)
    rcases all x ρ1 ex with ⟨ds, rfl⟩ | ⟨ds, rfl⟩ | ⟨z, rfl⟩
    · obtain ⟨a, vs, rfl, s, r⟩ := Shal.lst (H := Hs1) (.inl hv) (.refl _)
      exact ⟨a, rfl, ⟨vs, .inl (.inl (sl1.sub _ _ s))⟩, q1 Hs1 H1 sl1 (.refl _) _ (walk_lst s r)⟩
    · exact absurd ex (n1 _ _)
    · exact absurd ex (n2 _ _)
theorem pid_r1 (hg : Gl X "range") (hm : X.mg "range" = none) (h : PD X B W e fa) (hs : starEach [e] X.env = [(false, eval e X.env)] := by rfl) : PID X B W tg (.Call (.Name "range" p) [e] [] pos) (srcR1 fa) :=
  PI.imp (pi_range1 hg hm (pa_cons h pa_nil hs) hs) fun σ H R' ⟨Hs, ρ, sl, q⟩ => by
  refine ⟨Hs, ρ, sl, OP.imp (OP.bind q) fun x ρ1 Hs1 H1 ex sl1 e1 q1 v hv => ?_⟩
  cases eg : x.get ρ1 with
  | none => rw [eg] at q1; exact q1.elim
  | some d =>
    rw [eg] at q1
    cases d <;> first | exact q1.elim | skip
    rename_i i
    dsimp only at q1
    by_cases c : rngOk i = true
    · rw [if_pos c] at q1
      obtain ⟨c1, c2⟩ := rng_ok c
      refine ⟨i, by rw [(sl1.look hv eg).int], c1, c2, ?_⟩
      have w : WalkD X.K (Itr 0 (i - 0).toNat) Hs1 (rng 0 i) := walk_rng
      rw [Int.sub_zero] at w
      exact q1 Hs1 H1 sl1 (.refl _) _ w
    · rw [if_neg c] at q1; exact q1.elim
end
def rXc (K : Fg) (g : List D → Option D) : List V → Hp → VK → Prop := fun vs H Q => ∃ Hs ds z, Same Hs H ∧ (∀ (i : Nat) v d, vs[i]? = some v → ds[i]? = some d → Shal K Hs H v d) ∧ vs.length = ds.length ∧ g ds = some z ∧ ∀ v Hs' H', Grow Hs H Hs' H' → Rep K Hs' v z → Q v H'
def rXcn (K : Fg) (g : List D → Option D) : List V → Hp → VK → Prop := fun vs H Q => ∃ Hs ds z, Same Hs H ∧ (∀ (i : Nat) v d, vs[i]? = some v → ds[i]? = some d → Shal K Hs H v d) ∧ vs.length = ds.length ∧ g ds = some z ∧ ∀ p H', H p = none → Grow Hs H Hs H' → Cont K Hs H' p z → Q (.ref p) H'
def gets (ρ : En) : List Vl → Option (List D)
  | [] => some []
  | x :: xs => (x.get ρ).bind fun d => (gets ρ xs).map (d :: ·)
def bltF (g : List D → Option D) (fa : AF) : EF := fun ρ => (fa ρ).bind fun xs ρ1 => opt (((gets ρ1 xs).bind g).map Vl.st) ρ1
def bltC (g : List D → Option D) (fa : AF) : CF := fun ρ => (fa ρ).bind fun xs ρ1 => opt ((gets ρ1 xs).bind g) ρ1
section
variable {K : Fg} {mg : MG} {B : Bs} {W : WX} {σ : L2.St} {Hs H : Hp} {ρ : En} {fa : AF} {g : List D → Option D} {Q : VK}
theorem gets_ok (sl : Sl K B Hs H σ ρ) : ∀ {vs : List V} {xs : List Vl} {ds : List D}, VlsOk K Hs σ vs xs → gets ρ xs = some ds → vs.length = ds.length ∧ ∀ (i : Nat) v d, vs[i]? = some v → ds[i]? = some d → Shal K Hs H v d
  | _, [], _, .nil, h => by
    cases h
    exact ⟨rfl, fun i v d a => by simp at a⟩
  | _, x :: xs, _, .cons a b, h => by
    unfold gets at h
    cases ex : x.get ρ with
    | none => rw [ex] at h; cases h
    | some d =>
      rw [ex, Option.bind_some] at h
      cases es : gets ρ xs with
      | none => rw [es] at h; cases h
      | some ds =>
        rw [es] at h
        cases h
        obtain ⟨l, r⟩ := gets_ok sl b es
        refine ⟨congrArg Nat.succ l, fun i v d a1 b1 => ?_⟩
        cases i with
        | zero =>
          simp at a1 b1
          subst a1 b1
          exact sl.look a ex
        | succ i => exact r i v d (by simpa using a1) (by simpa using b1)
theorem blt_read (h : tD K mg B W (bltF g fa) σ H Q) : tCB (rXc K g) (tAD K mg B W fa) σ H Q := by
  obtain ⟨Hs, ρ, sl, q⟩ := h
  refine ⟨Hs, ρ, sl, OP.imp (OP.bind q) fun xs ρ1 Hs1 H1 _ sl1 e1 q1 vs hvs => ?_⟩
  cases es : gets ρ1 xs with
  | none => rw [es] at q1; exact q1.elim
  | some ds =>
    rw [es, Option.bind_some] at q1
    cases eg : g ds with
    | none => rw [eg] at q1; exact q1.elim
    | some z =>
      rw [eg] at q1
      obtain ⟨l, r⟩ := gets_ok sl1 hvs es
      exact ⟨Hs1, ds, z, sl1.sub, r, l, eg, fun v Hs' H' gr rv => q1 Hs' H' (sl1.grow gr) gr.s v rv⟩
theorem bltC_read (h : tC' K mg B W (bltC g fa) σ H Q) : tCB (rXcn K g) (tAD K mg B W fa) σ H Q := by
  obtain ⟨Hs, ρ, sl, q⟩ := h
  refine ⟨Hs, ρ, sl, OP.imp (OP.bind q) fun xs ρ1 Hs1 H1 _ sl1 e1 q1 vs hvs => ?_⟩
  cases es : gets ρ1 xs with
  | none => rw [es] at q1; exact q1.elim
  | some ds =>
    rw [es, Option.bind_some] at q1
    cases eg : g ds with
    | none => rw [eg] at q1; exact q1.elim
    | some z =>
      rw [eg] at q1
      obtain ⟨l, r⟩ := gets_ok sl1 hvs es
      refine ⟨Hs1, ds, z, sl1.sub, r, l, eg, fun p H' np gr cn => ?_⟩
      obtain ⟨f1, f2, f3⟩ := sl1.fresh np
      exact q1 Hs1 H' (sl1.grow gr) (.refl _) p f1 f2 (f3.grow sl1 gr) cn
end
section
variable {X : Cx} {B : Bs} {W : WX} {x : Str} {p pos : Pos} {e : Expr} {es : List Expr} {fa : AF} {id T : String} {g : List D → Option D}
theorem pd_blt (hc : CallR X (.builtin id) (rXc X.K g)) (hg : Gl X x) (hm : X.mg x = none) (hv : bootBuiltins x = some (.builtin id)) (ha : PAD X B W (e :: es) fa) (hn : x ≠ "__name__" := by decide) (hdb : (x == ("__debug__" : Str)) = false := by decide)
    (he : starEach (e :: es) X.env = (false, eval e X.env) :: starEach es X.env := by rfl) (hpl : (backTo pos (starEach es X.env)).any (·.1) = false := by rfl) : PD X B W (.Call (.Name x p) (e :: es) [] pos) (bltF g fa) :=
  PE.imp (pe_callB hc hg hm hv ha hn hdb he hpl) fun _ _ _ h => blt_read h
theorem pd_bty (hc : CallR X (.type T) (rXc X.K g)) (hg : Gl X x) (hm : X.mg x = none) (hv : bootBuiltins x = some (.type T)) (ha : PAD X B W (e :: es) fa) (hn : x ≠ "__name__" := by decide) (hdb : (x == ("__debug__" : Str)) = false := by decide)
    (he : starEach (e :: es) X.env = (false, eval e X.env) :: starEach es X.env := by rfl) (hpl : (backTo pos (starEach es X.env)).any (·.1) = false := by rfl) : PD X B W (.Call (.Name x p) (e :: es) [] pos) (bltF g fa) :=
  PE.imp (pe_callTy hc hg hm hv ha hn hdb he hpl) fun _ _ _ h => blt_read h
theorem pc_bty (hc : CallR X (.type T) (rXcn X.K g)) (hg : Gl X x) (hm : X.mg x = none) (hv : bootBuiltins x = some (.type T)) (ha : PAD X B W (e :: es) fa) (hn : x ≠ "__name__" := by decide) (hdb : (x == ("__debug__" : Str)) = false := by decide)
    (he : starEach (e :: es) X.env = (false, eval e X.env) :: starEach es X.env := by rfl) (hpl : (backTo pos (starEach es X.env)).any (·.1) = false := by rfl) : PC' X B W (.Call (.Name x p) (e :: es) [] pos) (bltC g fa) :=
  PE.imp (pe_callTy hc hg hm hv ha hn hdb he hpl) fun _ _ _ h => bltC_read h
theorem pc_blt (hc : CallR X (.builtin id) (rXcn X.K g)) (hg : Gl X x) (hm : X.mg x = none) (hv : bootBuiltins x = some (.builtin id)) (ha : PAD X B W (e :: es) fa) (hn : x ≠ "__name__" := by decide) (hdb : (x == ("__debug__" : Str)) = false := by decide)
    (he : starEach (e :: es) X.env = (false, eval e X.env) :: starEach es X.env := by rfl) (hpl : (backTo pos (starEach es X.env)).any (·.1) = false := by rfl) : PC' X B W (.Call (.Name x p) (e :: es) [] pos) (bltC g fa) :=
  PE.imp (pe_callB hc hg hm hv ha hn hdb he hpl) fun _ _ _ h => bltC_read h
end
def one (g : D → Option D) : List D → Option D
  | [d] => g d
  | _ => none
theorem rXc.one {K : Fg} {g : D → Option D} {vs : List V} {H : Hp} {Q : VK} (h : rXc K (one g) vs H Q) : ∃ v Hs d z, vs = [v] ∧ Same Hs H ∧ Shal K Hs H v d ∧ g d = some z ∧ ∀ w Hs' H', Grow Hs H Hs' H' → Rep K Hs' w z → Q w H' := by
  obtain ⟨Hs, ds, z, sm, r, l, eg, q⟩ := h
  cases ds with
  | nil => cases eg
  | cons d ds =>
    cases ds with
    | cons d2 ds => cases eg
    | nil =>
      cases vs with
      | nil => cases l
      | cons v vs =>
        cases vs with
        | cons _ _ => cases l
        | nil => exact ⟨v, Hs, d, z, rfl, sm, r 0 v d rfl rfl, eg, q⟩
theorem rXcn.one {K : Fg} {g : D → Option D} {vs : List V} {H : Hp} {Q : VK} (h : rXcn K (one g) vs H Q) : ∃ v Hs d z, vs = [v] ∧ Same Hs H ∧ Shal K Hs H v d ∧ g d = some z ∧ ∀ p H', H p = none → Grow Hs H Hs H' → Cont K Hs H' p z → Q (.ref p) H' := by
  obtain ⟨Hs, ds, z, sm, r, l, eg, q⟩ := h
  cases ds with
  | nil => cases eg
  | cons d ds =>
    cases ds with
    | cons d2 ds => cases eg
    | nil =>
      cases vs with
      | nil => cases l
      | cons v vs =>
        cases vs with
        | cons _ _ => cases l
        | nil => exact ⟨v, Hs, d, z, rfl, sm, r 0 v d rfl rfl, eg, q⟩
/-- len, int, abs, list, tuple -/
def lenD : D → Option D
  | .list ds => some (.int ds.length)
  | .tuple ds => some (.int ds.length)
  | .str z => if z.length ≤ sizeLine then some (.int z.length) else none
  | _ => none
def listD : D → Option D
  | .list ds => some (.list ds)
  | .tuple ds => some (.list ds)
  | _ => none
def tupleD : D → Option D
  | .list ds => some (.tuple ds)
  | .tuple ds => some (.tuple ds)
  | _ => none
section
variable {X : Cx}
theorem cx_len : CallR X (.builtin "len") (rXc X.K (one lenD)) := fun pins s σ H vs us Q I r h => by
  obtain ⟨v, Hs, d, z, rfl, sm, sh, eg, q⟩ := h.one
  cases d <;> first | (cases eg; done) | skip
  · rename_i w
    unfold lenD at eg
    dsimp only at eg
    by_cases c : w.length ≤ sizeLine
    · rw [if_pos c] at eg; cases eg
      exact call_len_str pins s σ H [v] us Q I r ⟨w, by rw [sh.str], c, q _ Hs H (.refl sm) (.int _)⟩
    · rw [if_neg c] at eg; cases eg
  · obtain ⟨p, ws, rfl, e, ra⟩ := sh.lst sm
    cases eg
    rw [← ra.length] at q
    exact call_len_seq pins s σ H _ us Q I r ⟨p, ws, rfl, .inl (.inl (.inl e)), q _ Hs H (.refl sm) (.int _)⟩
  · obtain ⟨p, ws, rfl, e, ra⟩ := sh.tup sm
    cases eg
    rw [← ra.length] at q
    exact call_len_seq pins s σ H _ us Q I r ⟨p, ws, rfl, .inr e, q _ Hs H (.refl sm) (.int _)⟩
theorem cx_list : CallR X (.type "list") (rXcn X.K (one listD)) := fun pins s σ H vs us Q I r h => by
  obtain ⟨v, Hs, d, z, rfl, sm, sh, eg, q⟩ := h.one
  cases d <;> cases eg
  · obtain ⟨p, ws, rfl, e, ra⟩ := sh.lst sm
    exact call_list_of pins s σ H _ us Q I r ⟨p, ws, rfl, .inl (.inl (.inl e)), fun l nl => q l _ nl (.loose sm nl) ⟨ws, upd_same, ra⟩⟩
  · obtain ⟨p, ws, rfl, e, ra⟩ := sh.tup sm
    exact call_list_of pins s σ H _ us Q I r ⟨p, ws, rfl, .inr e, fun l nl => q l _ nl (.loose sm nl) ⟨ws, upd_same, ra⟩⟩
theorem cx_tuple : CallR X (.type "tuple") (rXc X.K (one tupleD)) := fun pins s σ H vs us Q I r h => by
  obtain ⟨v, Hs, d, z, rfl, sm, sh, eg, q⟩ := h.one
  cases d <;> cases eg
  · obtain ⟨p, ws, rfl, e, ra⟩ := sh.lst sm
    refine call_tuple_of pins s σ H _ us Q I r ⟨p, ws, rfl, .inl ⟨.inl (.inl e), fun l nl => ?_⟩⟩
    have g := Grow.laid (o := .tup ws) sm nl
    exact q _ _ _ g (.tup upd_same (ra.mono g.s))
  · rcases sh with rp | ⟨_, _, c⟩
    · obtain ⟨p, ws, rfl, e, ra⟩ := Shal.tup (.inl rp) sm
      exact call_tuple_of pins s σ H _ us Q I r ⟨p, ws, rfl, .inr ⟨e, q _ Hs H (.refl sm) rp⟩⟩
    · exact c.elim
def intsOf : List D → Option (List Int)
  | [] => some []
  | .int i :: ds => (intsOf ds).map (i :: ·)
  | _ => none
theorem intsOf_map : ∀ {ds : List D} {ns : List Int}, intsOf ds = some ns → ds = ns.map PyData.int
  | [], _, h => by cases h; rfl
  | d :: ds, ns, h => by
    cases d <;> first | (cases h; done) | skip
    rename_i i
    cases e : intsOf ds with
    | none => simp only [intsOf, e, Option.map_none] at h; cases h
    | some ms =>
      simp only [intsOf, e, Option.map_some, Option.some.injEq] at h
      subst h
      rw [List.map_cons, ← intsOf_map e]
end
end DL
namespace DL
open PySem PySem.Spec PyProof.Rows L2
inductive Ty5 where
  | int | bool | str | list | tuple
def Ty5.nm : Ty5 → String
  | .int => "int"
  | .bool => "bool"
  | .str => "str"
  | .list => "list"
  | .tuple => "tuple"
def tyNm : D → String
  | .none => "NoneType"
  | .bool _ => "bool"
  | .int _ => "int"
  | .str _ => "str"
  | .list _ => "list"
  | .tuple _ => "tuple"
  | .dict _ => "dict"
theorem Shal.ty {K : Fg} {Hs H : Hp} {v : V} {d : D} (s : Shal K Hs H v d) (e : Same Hs H) : (∃ kvs, d = .dict kvs) ∨ TyX K H v (.type (tyNm d)) := by
  have r := s.rep e
  cases r with
  | non => exact .inr (.base .non)
  | bl b => exact .inr (.base (.bl b))
  | int i => exact .inr (.base (.int i))
  | str x => exact .inr (.base (.str x))
  | lst h _ => exact .inr (.base (.lst h))
  | tup h _ => exact .inr (.base (.tup h))
  | dK _ _ => exact .inl ⟨_, rfl⟩
  | dT _ _ => exact .inl ⟨_, rfl⟩
  | ins _ _ _ => exact .inl ⟨_, rfl⟩
  | dN _ _ => exact .inl ⟨_, rfl⟩
section
variable {X : Cx} {B : Bs} {W : WX} {e c : Expr} {fa : EF} {T : Ty5} {Ts : List Ty5}
end
section
variable {X : Cx}
end
def raiseS (e : Er) : SF := fun ρ => .er e ρ
section
variable {X : Cx} {B : Bs} {W : WX}
/-- X() of an own error class -/
theorem pmk_own0 {C : Addr} {bmB : List Value} {Bn newId initId : String} {x : Str} {p pos : Pos} (F : ExcBaseFacts Bn newId initId bmB) (q : PySem.W.excIn X.K C bmB newId = true) (gC : X.mg x = some (.ref C)) (kC : PySem.W.keepIn X.K (.ref C) = true) (r : Raises X (.ref C)) (hg : Gl X x)
    (hdb : (x == ("__debug__" : Str)) = false := by decide) : L2N.PMk X (.Call (.Name x p) [] [] pos) (fun _ H Q => Q (.ref C) none H) := by
  intro pins s σ H Q I h
  refine wpAny_Call_Name_kw (ld_glob I hg gC ?_ hdb)
  refine PySem.W.callWith_K0 I.kIn kC ?_
  obtain ⟨bm, N, nm, qn, bs, hdct, sn, sub, ab, col, dd, k0, k1, k2, k3, k5, mN, hC, hN, hni, T⟩ := exc_obj I.kIn q
  refine wpAny_call_exc_subT F T hC hN hni (fun h' e hm => ?_) (by show 0 ≤ sizeLine; omega)
  exact L2N.mk_of I hm r h (I.hok.gone hm.new)
theorem psd_raise0 {e : Expr} {x : Str} {C : Addr} {pos : Pos} (hc : X.calm = true) (tk : L2N.Takes X W) (gC : X.mg x = some (.ref C)) (h : L2N.PMk X e (fun _ H Q => Q (.ref C) none H)) : PSD X B W (.Raise (some e) none pos) (raiseS ⟨x, []⟩) :=
  PS.imp (L2N.ps_raise hc tk h) fun D' σ H ⟨Hs, ρ, sl, q⟩ => q _ _ σ Hs H sl (.refl _) ⟨⟨C, gC, rfl⟩, .inl ⟨rfl, rfl⟩⟩
end
section
variable {K : Fg} {Hs : Hp}
end
def zipD (ds es : List D) : List D := (ds.zip es).map fun p => .tuple [p.1, p.2]
def srcZ (f g : EF) : En → O (List D) := fun ρ => (f ρ).bind fun x ρ1 => (g ρ1).bind fun y ρ2 => match x, y with
  | .st (.list ds), .st (.list es) => .ok (zipD ds es) ρ2
  | .st (.tuple ds), .st (.tuple es) => .ok (zipD ds es) ρ2
  | _, _ => .bad
section
variable {X : Cx} {B : Bs} {W : WX} {e e2 : Expr} {fa fb : EF} {p pos tpos : Pos} {elts : List Expr} {kk : Nat}
end
end DL
namespace DL
open PySem PySem.Spec PyProof.Rows L2
theorem hu65 {A : Around} {k : Nat} (hr : Room k A) : A.units + 65 < cLine := by
  have := hr.un
  omega

def cutA (d : D) (lo hi : Option Int) : Option D := match d with
  | .tuple ds => some (.tuple (cutD ds lo hi))
  | .list ds => some (.list (cutD ds lo hi))
  | .str z => if z.length ≤ sizeLine then some (.str (cutS z lo hi)) else none
  | _ => none
section
variable {X : Cx} {B : Bs} {W : WX} {a b c e : Expr} {es : List Expr} {fa fb fc : EF} {fr : AF} {pos : Pos} {cf : CF}
theorem pd_sl {lo hi : Option Expr} {l h : Option EF} {p2 : Pos} (ha : PD X B W a fa) (hl : POD X B W lo l) (hh : POD X B W hi h) : PD X B W (.Subscript a (.Slice lo hi none p2) pos) (slF cutA fa l h) :=
  PE.imp (pe_slice (SlR.or (SlR.or sl_tupA sl_str) sl_list) ha hl hh) fun σ H Q ⟨Hs, ρ, sl, q⟩ => by
  refine ⟨Hs, ρ, sl, OP.imp (OP.bind q) fun x ρ1 Hs1 H1 _ sl1 e1 q1 v hv => ?_⟩
  refine ⟨Hs1, ρ1, sl1, OP.imp (OP.bind q1) fun lo' ρ2 Hs2 H2 _ sl2 e2 q2 => ?_⟩
  refine ⟨Hs2, ρ2, sl2, OP.imp (OP.bind q2) fun hi' ρ3 Hs3 H3 _ sl3 e3 q3 => ?_⟩
  cases ex : x.get ρ3 with
  | none => rw [ex] at q3; exact q3.elim
  | some d =>
    rw [ex, Option.bind_some] at q3
    have s := sl3.look (hv.mono (e2.trans e3)) ex
    cases d <;> first | exact q3.elim | skip
    · rename_i z
      unfold cutA at q3
      dsimp only at q3
      by_cases c : z.length ≤ sizeLine
      · rw [if_pos c] at q3
        exact .inl (.inr ⟨z, s.str, c, q3 Hs3 H3 sl3 (.refl _) _ (.str _)⟩)
      · rw [if_neg c] at q3; exact q3.elim
    · rename_i ds
      obtain ⟨p, vs, e4, h4, r⟩ := s.lst sl3.sub
      refine .inr ⟨p, vs, e4, .inl (.inl h4), fun p' np => ?_⟩
      have g : Grow Hs3 H3 _ _ := Grow.laid (o := .lst (cutV vs lo' hi')) sl3.sub np
      exact q3 _ _ (sl3.grow g) g.s _ (.lst upd_same ((r.cut lo' hi').mono g.s))
    · rename_i ds
      obtain ⟨p, vs, e4, h4, r⟩ := s.tup sl3.sub
      refine .inl (.inl ⟨p, vs, e4, h4, fun hw => ?_, fun hw p' np => ?_⟩)
      · rw [r.length] at hw
        have q4 := q3 Hs3 H3 sl3 (.refl _)
        unfold cutA at q4
        dsimp only at q4
        rw [cut_whole hw] at q4
        rcases s with s | ⟨_, _, c⟩
        · rw [e4] at s
          exact q4 _ s
        · exact c.elim
      · have g : Grow Hs3 H3 _ _ := Grow.laid (o := .tup (cutV vs lo' hi')) sl3.sub np
        exact q3 _ _ (sl3.grow g) g.s _ (.tup upd_same ((r.cut lo' hi').mono g.s))
end
section
variable {X : Cx}
end
def mulD : D → D → Option D
  | .int i, .int j => if mulOk i j = true then some (.int (i * j)) else none
  | .list ds, .int k => if 0 ≤ k ∧ k ≤ 1000 ∧ ds.length ≤ 1000 then some (.list (List.replicate k.toNat ds).flatten) else none
  | .tuple ds, .int k => if 0 < ds.length ∧ 2 ≤ k ∧ k ≤ 1000 ∧ ds.length ≤ 1000 then some (.tuple (List.replicate k.toNat ds).flatten) else none
  | _, _ => none
theorem RepA.rep {K : Fg} {H : Hp} {vs : List V} {ds : List D} (r : RepA K H vs ds) : ∀ n : Nat, RepA K H (List.replicate n vs).flatten (List.replicate n ds).flatten
  | 0 => .nil
  | n + 1 => by
    rw [List.replicate_succ, List.replicate_succ, List.flatten_cons, List.flatten_cons]
    exact r.append (r.rep n)
theorem ox_mul {X : Cx} : OpX X (binaryOp .Mult) mulD := fun pins s σ H x y v u Q I rx ry q => by
  obtain ⟨Hs, d, e, z, sb, sx, sy, ez, q⟩ := q
  cases d <;> cases e <;> first | (cases ez; done) | skip
  · exact ox_mulI pins s σ H x y v u Q I rx ry ⟨Hs, _, _, z, sb, sx, sy, ez, q⟩
  · rename_i ds k
    unfold mulD at ez
    dsimp only at ez
    by_cases c : 0 ≤ k ∧ k ≤ 1000 ∧ ds.length ≤ 1000
    · rw [if_pos c] at ez; cases ez
      obtain ⟨p, vs, e1, h1, r1⟩ := sx.lst sb
      refine op_rep pins s σ H x y v u Q I rx ry ⟨p, k, vs, e1, sy.int, h1, by omega, by omega, ?_, fun p3 np => ?_⟩
      · have h2 : (1000000 : Nat) ≤ sizeLine := by decide
        have h3 : vs.length * k.toNat ≤ 1000 * 1000 := Nat.mul_le_mul (by rw [r1.length]; omega) (by omega)
        omega
      · have g := Grow.laid (o := .lst (List.replicate k.toNat vs).flatten) sb np
        exact q _ _ _ g (.lst upd_same ((r1.rep _).mono g.s))
    · rw [if_neg c] at ez; cases ez
  · rename_i ds k
    unfold mulD at ez
    dsimp only at ez
    by_cases c : 0 < ds.length ∧ 2 ≤ k ∧ k ≤ 1000 ∧ ds.length ≤ 1000
    · rw [if_pos c] at ez; cases ez
      obtain ⟨p, vs, e1, h1, r1⟩ := sx.tup sb
      have l1 := r1.length
      refine op_repT pins s σ H x y v u Q I rx ry ⟨p, k, vs, e1, sy.int, h1, fun z => ?_, c.2.1, c.2.2.1, by omega, fun p3 np => ?_⟩
      · rw [z] at l1
        have := c.1
        rw [← l1] at this
        exact absurd this (by decide)
      · have g := Grow.laid (o := .tup (List.replicate k.toNat vs).flatten) sb np
        exact q _ _ _ g (.tup upd_same ((r1.rep _).mono g.s))
    · rw [if_neg c] at ez; cases ez

structure DefOk (P : Program) (w : World) (K : Fg) (mg : MG) (base : Heap) (k : Nat) (x : Str) (f : Addr) (ps : List Str) (tails : List (List D)) (sp : Sp) : Prop where
  ex : ∃ fd, mg x = some (.ref f) ∧ PySem.W.keepIn K (.ref f) = true ∧ FnOk P w K mg base (L2N.CX P w) k f fd ps sp ∧
    ∀ dd ∈ tails, ∃ (dvs : List V) (ds : List Value), Vals dvs ds ∧ (∀ H, RepA K H dvs dd) ∧ Binds K fd ps ds
theorem DefOk.mono {P : Program} {w : World} {K : Fg} {mg : MG} {base : Heap} {j k : Nat} {x : Str} {f : Addr} {ps : List Str} {tails : List (List D)} {sp : Sp} (G : DefOk P w K mg base j x f ps tails sp) (h : j ≤ k) : DefOk P w K mg base k x f ps tails sp := by
  obtain ⟨fd, a, b, c, d⟩ := G.ex
  exact ⟨fd, a, b, c.mono h, d⟩
theorem DefOk.imp {P : Program} {w : World} {K : Fg} {mg : MG} {base : Heap} {k : Nat} {x : Str} {f : Addr} {ps : List Str} {tails : List (List D)} {m : List Md} {F F' : List D → R} (G : DefOk P w K mg base k x f ps tails (spD K mg m F)) (h : ∀ ds, F' ds ≠ .bad → F ds = F' ds) : DefOk P w K mg base k x f ps tails (spD K mg m F') := by
  obtain ⟨fd, a, b, c, d⟩ := G.ex
  exact ⟨fd, a, b, c.imp (spD.imp h), d⟩
section
variable {X : Cx} {B : Bs} {W : WX} {k : Nat} {f : Addr} {ps : List Str} {tails : List (List D)} {m : List Md} {F : List D → R} {FO : D → List D → R} {x : Str} {p pos : Pos} {e : Expr} {es : List Expr} {fa : AF}
theorem pd_cl (dd : List D) (G : DefOk X.prog X.w X.K X.mg X.base k x f ps tails (spD X.K X.mg m F)) (hdd : dd ∈ tails) (tk : L2N.Takes X W) (hr : Room k X.A) (hg : Gl X x)
    (ha : PAD X B W (e :: es) fa) (hdb : (x == ("__debug__" : Str)) = false := by decide) (he : starEach (e :: es) X.env = (false, eval e X.env) :: starEach es X.env := by rfl) (hpl : (backTo pos (starEach es X.env)).any (·.1) = false := by rfl) :
    PD X B W (.Call (.Name x p) (e :: es) [] pos) (callF m F dd fa) := by
  obtain ⟨fd, a, b, c, d⟩ := G.ex
  obtain ⟨dvs, ds, h1, h2, h3⟩ := d dd hdd
  exact pd_call c tk hr hg a b h3 h1 h2 ha hdb he hpl
theorem pd_clO (dd : List D) (G : DefOk X.prog X.w X.K X.mg X.base k x f ps tails (spO X.K X.mg m FO)) (hdd : dd ∈ tails) (tk : L2N.Takes X W) (hr : Room k X.A) (hg : Gl X x)
    (ha : PAD X B W (e :: es) fa) (hdb : (x == ("__debug__" : Str)) = false := by decide) (he : starEach (e :: es) X.env = (false, eval e X.env) :: starEach es X.env := by rfl) (hpl : (backTo pos (starEach es X.env)).any (·.1) = false := by rfl) :
    PD X B W (.Call (.Name x p) (e :: es) [] pos) (callO m FO dd fa) := by
  obtain ⟨fd, a, b, c, d⟩ := G.ex
  obtain ⟨dvs, ds, h1, h2, h3⟩ := d dd hdd
  exact pd_callO c tk hr hg a b h3 h1 h2 ha hdb he hpl
end
theorem PK.imp {X : Cx} {e : List Keyword} {t t' : TA} (h : PK X e t) (i : ∀ σ H Q, t' σ H Q → t σ H Q) : PK X e t' := ⟨fun pos pins s σ H Q I q => h.run pos pins s σ H Q I (i σ H Q q)⟩
end DL
namespace DL
open PySem PySem.Spec PyProof.Rows L2
section
variable {X : Cx} {B : Bs} {W : WX} {pos : Pos}
theorem pd_giE {x : Str} {i : Int} (hg : Gl X x) (hm : ∃ t, X.mg x = some (.int i t)) (hd : (x == ("__debug__" : Str)) = false := by decide) : PD X B W (.Name x pos) (cst (.int i)) := by
  obtain ⟨t, h⟩ := hm
  exact pd_gi hg h hd
end
structure ExcK (K : Fg) (mg : MG) (x : Str) (C : Addr) : Prop where
  g : mg x = some (.ref C)
  x : PySem.W.excIn K C [.type "ValueError", .type "Exception", .type "BaseException", .type "object"] "ValueError.__new__" = true
  k : PySem.W.keepIn K (.ref C) = true
  b : PySem.W.subIn K (.ref C) (.type "BaseException") = some true
  t : PySem.W.typeIn K (.ref C) = some (.type "type")
structure DefK (K : Fg) (mg : MG) (x : Str) (f : Addr) (st : Stmt) (ps : List Str) (tails : List (List D)) : Prop where
  ex : ∃ fd dvs kws, FunD K x x (defArgs st) (defBody st) (defScope st) dvs kws f fd ∧ mg x = some (.ref f) ∧
    ∀ dd ∈ tails, ∃ (dvs : List V) (ds : List Value), Vals dvs ds ∧ (∀ H, RepA K H dvs dd) ∧ Binds K fd ps ds
section
variable {P : Program} {w : World} {K : Fg} {mg : MG} {base : Heap} {x : Str} {f : Addr} {st : Stmt} {ps N : List Str} {tails : List (List D)} {k : Nat} {body : SF} {m : List Md}
theorem DefK.of (G : DefK K mg x f st ps tails) (S : FnScope N ps (defScope st)) (hm : m.length = ps.length)
    (der : ∀ (cdv : Value) (A : Around) (outer : List Env) (s : Shared) (H : Hp) (E : XK) (B : Bs) (W : WX), Room k (A.deeper (envOfC x (defScope st) s.heap.objs.size f cdv)) → L2N.Takes (cxOf (L2N.CX P w) P w K mg base N x (defScope st) f cdv A outer s H E) W →
      PSsD (cxOf (L2N.CX P w) P w K mg base N x (defScope st) f cdv A outer s H E) B W (defBody st) body) : DefOk P w K mg base (k + 1) x f ps tails (spD K mg m (runD m N.length body)) := by
  obtain ⟨fd, dvs, kws, F, g, b⟩ := G.ex
  exact ⟨fd, g, F.kp, defD F S m hm der, b⟩
theorem DefK.ofO (G : DefK K mg x f st ps tails) (S : FnScope N ps (defScope st)) (hm : m.length + 1 = ps.length)
    (der : ∀ (cdv : Value) (A : Around) (outer : List Env) (s : Shared) (H : Hp) (E : XK) (B : Bs) (W : WX), Room k (A.deeper (envOfC x (defScope st) s.heap.objs.size f cdv)) → L2N.Takes (cxOf (L2N.CX P w) P w K mg base N x (defScope st) f cdv A outer s H E) W →
      PSsD (cxOf (L2N.CX P w) P w K mg base N x (defScope st) f cdv A outer s H E) B W (defBody st) body) : DefOk P w K mg base (k + 1) x f ps tails (spO K mg m (runO m N.length body)) := by
  obtain ⟨fd, dvs, kws, F, g, b⟩ := G.ex
  exact ⟨fd, g, F.kp, defO F S m hm der, b⟩
theorem DefK.zero (G : DefK K mg x f st ps tails) : DefOk P w K mg base k x f ps tails (spD K mg m fun _ => .bad) := by
  obtain ⟨fd, dvs, kws, F, g, b⟩ := G.ex
  refine ⟨fd, g, F.kp, ⟨fun vs H Q E h => ?_, fun A outer s H args us vs Q E _ _ _ _ h => ?_⟩, b⟩
  · obtain ⟨_, _, _, _, z⟩ := h
    exact z.elim
  · obtain ⟨_, _, _, _, z⟩ := h
    exact z.elim
end
/-- the slice of the whole script, a new list -/
def scrF (a : Addr) (ns : List Int) : EF := fun ρ => match ρ[(0 : Nat)]? with
  | some (.fn b) => if b = a then .ok (.st (.list (ns.map PyData.int))) ρ else .bad
  | _ => .bad
theorem cut63 {ns : List Int} (h : ns.length ≤ 63) : cutV (ns.map V.int) none (some 63) = ns.map V.int := by
  unfold cutV
  rw [HT.sIx_none, show HT.sIx (ns.map V.int).length (ns.map V.int).length (some 63) = min 63 (ns.map V.int).length from HT.sIx_nat _ _ 63, List.length_map]
  rw [Nat.min_eq_right h, List.drop_zero, Nat.sub_zero]
  exact List.take_of_length_le (by rw [List.length_map]; exact Nat.le_refl _)
/-- the script stands at a in all states of a body -/
def ScrAt (K : Fg) (B : Bs) (a : Addr) (ns : List Int) : Prop := ns.length ≤ 63 ∧ ∀ Hs H σ ρ, Sl K B Hs H σ ρ → SqL K H a (ns.map V.int)
section
variable {X : Cx} {B : Bs} {W : WX} {a : Addr} {ns : List Int} {x : Str} {p p2 p3 pos : Pos} {j : Nat}
theorem pd_scr (hS : ScrAt X.K B a ns) (hv : PE X (.Name x p) (tVar 0)) : PD X B W (.Subscript (.Name x p) (.Slice none (some (.Constant (.int 63) j p3)) none p2) pos) (scrF a ns) :=
  PE.imp (pe_slice sl_list hv po_none (po_some pe_int)) fun σ H Q ⟨Hs, ρ, sl, q⟩ => by
  unfold scrF at q
  cases e0 : ρ[(0 : Nat)]? with
  | none => rw [e0] at q; exact q.elim
  | some s =>
    rw [e0] at q
    cases s <;> first | exact q.elim | skip
    rename_i b
    dsimp only at q
    by_cases c : b = a
    · rw [if_pos c] at q
      subst c
      obtain ⟨y, ey⟩ := sl_var sl e0
      have o : y = some (.ref b) := sl.ok 0 _ _ ey e0
      subst o
      refine ⟨_, ey, 63, rfl, b, ns.map V.int, rfl, hS.2 Hs H σ ρ sl, fun p' np => ?_⟩
      rw [cut63 hS.1]
      have g := Grow.laid (o := .lst (ns.map V.int)) sl.sub np
      exact q _ _ (sl.grow g) g.s _ (.lst upd_same (RepA.of_ints ns))
    · rw [if_neg c] at q; exact q.elim
end
def spBox (K : Fg) (f : Addr → List Int → SF) (n : Nat) : Sp := fun vs H Q E => ∃ Hs a ns d, vs = [.ref a] ∧ Same Hs H ∧ SqL K H a (ns.map V.int) ∧ ns.length ≤ 63 ∧ (∃ ρ', f a ns (.fn a :: List.replicate (n - 1) .un) = .rt d true ρ') ∧
  ∀ r Hs' H', Grow Hs H Hs' H' → RetOk K Hs' H' (fun p => H p = none) true r d → Q r H'
def spLaw (K : Fg) (f : Addr → List Int → SF) (n : Nat) : Sp := fun vs H Q E => ∃ a ns, vs = [.ref a] ∧ SqL K H a (ns.map V.int) ∧ ns.length ≤ 63 ∧ (∃ ρ', f a ns (.fn a :: List.replicate (n - 1) .un) = .rt (.bool true) false ρ') ∧ ∀ H', Q (.bl true) H'
section
variable {P : Program} {w : World} {K : Fg} {mg : MG} {base : Heap}
theorem scr_at {Hs H : Hp} {a : Addr} {ns : List Int} (hl : ns.length ≤ 63) (h : SqL K H a (ns.map V.int)) : ScrAt K ⟨Hs, H, fun _ => False, fun _ => False, fun _ => False, fun _ => none⟩ a ns := ⟨hl, fun Hs' H' σ ρ sl => by
  rcases h with (h | ⟨o, h⟩) | h
  · exact .inl (.inl (sl.keep _ _ h (fun z => z) fun z => z))
  · exact .inl (.inr ⟨o, sl.keep _ _ h (fun z => z) fun z => z⟩)
  · exact .inr h⟩
theorem sl_scr {Hs H : Hp} {a : Addr} {N : List Str} (sm : Same Hs H) (hn : 1 ≤ N.length) : Sl K ⟨Hs, H, fun _ => False, fun _ => False, fun _ => False, fun _ => none⟩ Hs H (start N [.ref a]) (.fn a :: List.replicate (N.length - 1) .un) := by
  have h := sl_start (K := K) (m := [.f a]) (vs := [.ref a]) (ds := [.none]) (N := N) sm (.f .nil) hn
  exact h
theorem defBox {x qual : Str} {st : Stmt} {dvs : List V} {kws : List (Str × V)} {f : Addr} {fd : FuncData} {N : List Str} {s0 : Str} {k : Nat} {body : Addr → List Int → SF} (F : FunD K x qual (defArgs st) (defBody st) (defScope st) dvs kws f fd) (S : FnScope N [s0] (defScope st))
    (der : ∀ (ns : List Int) (a : Addr) (cdv : Value) (A : Around) (outer : List Env) (s : Shared) (H : Hp) (E : XK) (B : Bs) (W : WX), Room k (A.deeper (envOfC qual (defScope st) s.heap.objs.size f cdv)) → L2N.Takes (cxOf (L2N.CX P w) P w K mg base N qual (defScope st) f cdv A outer s H E) W → ScrAt K B a ns →
      PSsD (cxOf (L2N.CX P w) P w K mg base N qual (defScope st) f cdv A outer s H E) B W (defBody st) (body a ns)) : FnOk P w K mg base (L2N.CX P w) (k + 1) f fd [s0] (spBox K body N.length) := by
  have hn : 1 ≤ N.length := by
    have h := congrArg List.length S.pre
    rw [List.length_take] at h
    have h : min 1 N.length = 1 := h
    omega
  refine F.ok S (fun vs H Q E h => ?_) (fun cdv A outer s H vs Q E hr h => ?_)
  · obtain ⟨Hs, a, ns, d, rfl, _⟩ := h
    rfl
  · obtain ⟨Hs, a, ns, d, rfl, sm, hS, hl, ⟨ρ', e⟩, q⟩ := h
    refine ⟨_, der ns a cdv A outer s H E ⟨Hs, H, fun _ => False, fun _ => False, fun _ => False, fun _ => none⟩ (fun cls d _ H' => E cls d H') hr (L2N.takes_of rfl rfl rfl rfl) (scr_at hl hS), Hs, _, sl_scr sm hn, ?_⟩
    rw [e]
    exact fun σ' Hs' H' v sl _ ro => q _ _ _ sl.growth ro.fin
theorem defLaw {x qual : Str} {st : Stmt} {dvs : List V} {kws : List (Str × V)} {f : Addr} {fd : FuncData} {N : List Str} {s0 : Str} {k : Nat} {body : Addr → List Int → SF} (F : FunD K x qual (defArgs st) (defBody st) (defScope st) dvs kws f fd) (S : FnScope N [s0] (defScope st))
    (der : ∀ (ns : List Int) (a : Addr) (cdv : Value) (A : Around) (outer : List Env) (s : Shared) (H : Hp) (E : XK) (B : Bs) (W : WX), Room k (A.deeper (envOfC qual (defScope st) s.heap.objs.size f cdv)) → L2N.Takes (cxOf (L2N.CX P w) P w K mg base N qual (defScope st) f cdv A outer s H E) W → ScrAt K B a ns →
      PSsD (cxOf (L2N.CX P w) P w K mg base N qual (defScope st) f cdv A outer s H E) B W (defBody st) (body a ns)) : FnOk P w K mg base (L2N.CX P w) (k + 1) f fd [s0] (spLaw K body N.length) := by
  have hn : 1 ≤ N.length := by
    have h := congrArg List.length S.pre
    rw [List.length_take] at h
    have h : min 1 N.length = 1 := h
    omega
  refine F.ok S (fun vs H Q E h => ?_) (fun cdv A outer s H vs Q E hr h => ?_)
  · obtain ⟨a, ns, rfl, _⟩ := h
    rfl
  · obtain ⟨a, ns, rfl, hS, hl, ⟨ρ', e⟩, q⟩ := h
    refine ⟨_, der ns a cdv A outer s H E ⟨fun _ => none, H, fun _ => False, fun _ => False, fun _ => False, fun _ => none⟩ (fun cls d _ H' => E cls d H') hr (L2N.takes_of rfl rfl rfl rfl) (scr_at hl hS), fun _ => none, _, sl_scr (fun _ _ z => by cases z) hn, ?_⟩
    rw [e]
    exact fun σ' Hs' H' v sl _ ro => by
      have ev : v = .bl true := Shal.bl (K := K) (Hs := Hs') (H := H') (.inl ro)
      rw [ev]
      exact q H'
end
/-- _law_box as it stands -/
structure DefBox (P : Program) (w : World) (K : Fg) (mg : MG) (base : Heap) (k : Nat) (x : Str) (f : Addr) (s0 : Str) (body : Addr → List Int → SF) (n : Nat) : Prop where
  ex : ∃ fd, mg x = some (.ref f) ∧ PySem.W.keepIn K (.ref f) = true ∧ FnOk P w K mg base (L2N.CX P w) k f fd [s0] (spBox K body n) ∧ Binds K fd [s0] []
def boxC (a : Addr) (d : D) (fa : AF) : CF := fun ρ => (fa ρ).bind fun xs ρ1 => match xs with
  | [.fn b] => if b = a then .ok d ρ1 else .bad
  | _ => .bad
theorem pc_box {X : Cx} {B : Bs} {W : WX} {k n : Nat} {a f : Addr} {ns : List Int} {d : D} {x s0 : Str} {body : Addr → List Int → SF} {p pos : Pos} {e : Expr} {fa : AF} (hS : ScrAt X.K B a ns) (G : DefBox X.prog X.w X.K X.mg X.base k x f s0 body n) (hB : ∃ ρ', body a ns (.fn a :: List.replicate (n - 1) .un) = .rt d true ρ') (tk : L2N.Takes X W) (hr : Room k X.A) (hg : Gl X x)
    (ha : PAD X B W [e] fa) (hdb : (x == ("__debug__" : Str)) = false := by decide) (he : starEach [e] X.env = (false, eval e X.env) :: starEach [] X.env := by rfl) (hpl : (backTo pos (starEach [] X.env)).any (·.1) = false := by rfl) : PC' X B W (.Call (.Name x p) [e] [] pos) (boxC a d fa) := by
  obtain ⟨fd, hm, hk, F, hb⟩ := G.ex
  refine PE.imp (pe_callSD (E := WE W) F hr hg hm hk hb .nil (fun σ => L2N.passAt tk σ) ha hdb he hpl) fun σ H Q ⟨Hs, ρ, sl, q⟩ => ?_
  refine ⟨Hs, ρ, sl, OP.imp (OP.bind q) fun xs ρ1 Hs1 H1 _ sl1 e1 q1 vs hvs => ?_⟩
  cases hvs with
  | nil => exact q1.elim
  | @cons v vs' xx xs' h1 h2 =>
    cases xx with
    | st d => exact q1.elim
    | «at» i => exact q1.elim
    | fn b =>
      cases h2 with
      | cons _ _ => exact q1.elim
      | nil =>
        dsimp only at q1
        by_cases c : b = a
        · rw [if_pos c] at q1
          subst c
          have h1 : v = .ref b := h1
          subst h1
          refine ⟨Hs1, b, ns, d, rfl, sl1.sub, hS.2 _ _ _ _ sl1, hS.1, hB, fun r Hs' H' g ro => ?_⟩
          obtain ⟨pp, rfl, n, n0, cn⟩ := ro
          obtain ⟨f1, f2, f3⟩ := sl1.fresh n0
          exact q1 Hs' H' (sl1.grow g) g.s pp n f2 (f3.grow sl1 g) cn
        · rw [if_neg c] at q1; exact q1.elim

def seedOf (ns : List Int) : Int := ns.foldl (fun s c => (s * 48271 + c % 1000003 + 11) % 2147483647) 7
def boxD (ns : List Int) : D := .list [.list (ns.map PyData.int), .int 0, .int 0, .int 0, .int (seedOf ns)]

/-- as walk_ofE, with the script's bits told -/
theorem walk_ofEB {l : PySem.W.OpenLaw} {n k : Nat} {q : Program} {loose : List Str} {XP : (Str → Option Value) → Heap → Prop} {YP : World → Heap → Prop} {d : DefRec} {CX : World → CXT} {x : Str}
    (hn : l.most = some n) (hn2 : n ≤ sizeLine) (hdf : d.params.defaults = []) (hr : Room k callerA)
    (F : ∀ (w : World) (mg : Str → Option Value) (fa : Addr) (h : Heap), YP w h → h.Ns mainGlobals mg → mg d.name = some (.ref fa) →
      ∃ (K : PySem.W.Frag) (fd : FuncData) (sp : Sp), K.In h ∧ (∀ (s : Shared) (u : Value), BindsTo s fd ⟨[u], []⟩ [(x, u)]) ∧
        (∀ (H : Hp) (a : Addr) (ns : List Int), ns.length ≤ n → (∀ z ∈ ns, Builtin.Int.intBits z ≤ 1048576) → Only H → SqL K H a (ns.map V.int) → sp [.ref a] H (fun v _ => v = .bl true) fun _ _ _ => False) ∧
        ∀ base : Heap, K.In base → base.Ns mainGlobals mg → FnOk l.prog w K mg base (CX w) k fa fd [x] sp)
    (hCX : ∀ (w : World) (H : Hp) (s : Shared) (e : Value) (s' : Shared), CX w [] H s (fun _ _ _ => False) e s' → False) :
    PySem.W.WalkO q loose XP YP l.row.toRowW d [] (fun f vs => PySem.call f vs) := by
  refine Att.attach_callB hn hdf fun w s₀ s₁ mg mb fa o pm cd doc a vs ns G Y ho hd hcd hmg hobj hints hlen hbits hg => ?_
  obtain ⟨K, fd, sp, KX, hb, hsp, hF⟩ := F w mg fa _ Y G.T.g hmg
  exact law_call KX G.T.g G.T.b G.T.builtins G.T.nolimit hg hobj hints (Nat.le_trans hlen hn2) hr hF hb (fun H hO hS => hsp H a ns hlen hbits hO hS) fun H e s' => hCX w H s₁ e s'
end DL
namespace DL
open PySem PySem.Spec PyProof.Rows L2
/-- where a parameter's value comes from: written, left out, by its name -/
inductive Pk where
  | p (i : Nat) | d (i : Nat) | k (i : Nat)
def Pk.of {α : Type} (a b e : List α) : Pk → Option α
  | .p i => a[i]?
  | .d i => b[i]?
  | .k i => e[i]?
def pick {α : Type} : List Pk → List α → List α → List α → List α
  | [], _, _, _ => []
  | c :: cs, a, b, e => match c.of a b e with
    | some x => x :: pick cs a b e
    | none => pick cs a b e
structure KwSh where
  n : Nat
  ks : List Str
  cs : List Pk
  dd : List D
theorem Vals.at {vs : List V} {us : List Value} (r : Vals vs us) (i : Nat) : (vs[i]? = none ∧ us[i]? = none) ∨ ∃ v u, vs[i]? = some v ∧ us[i]? = some u ∧ RelV v u := by
  induction r generalizing i with
  | nil => exact .inl ⟨rfl, rfl⟩
  | cons h t ih =>
    cases i with
    | zero => exact .inr ⟨_, _, rfl, rfl, h⟩
    | succ i => simpa using ih i
theorem VlsOk.at {K : Fg} {Hs : Hp} {σ : L2.St} : ∀ {vs : List V} {us : List Vl}, VlsOk K Hs σ vs us → ∀ i : Nat, (vs[i]? = none ∧ us[i]? = none) ∨ ∃ v u, vs[i]? = some v ∧ us[i]? = some u ∧ VlOk K Hs σ v u
  | _, _, .nil, i => .inl ⟨rfl, rfl⟩
  | _, _, .cons h t, 0 => .inr ⟨_, _, rfl, rfl, h⟩
  | _, _, .cons h t, i + 1 => by simpa using VlsOk.at t i
structure KwOk (K : Fg) (fd : FuncData) (ps : List Str) (q : KwSh) : Prop where
  ex : ∃ (g : List Value → List Value → List Value) (dvs : List V), KBn K fd ps q.n q.ks g (fun vs zs => pick q.cs vs dvs zs) ∧ ∀ H, RepA K H dvs q.dd
structure DefOkW (P : Program) (w : World) (K : Fg) (mg : MG) (base : Heap) (k : Nat) (x : Str) (f : Addr) (ps : List Str) (tails : List (List D)) (sh : List KwSh) (sp : Sp) : Prop where
  ex : ∃ fd, mg x = some (.ref f) ∧ PySem.W.keepIn K (.ref f) = true ∧ FnOk P w K mg base (L2N.CX P w) k f fd ps sp ∧
    (∀ dd ∈ tails, ∃ (dvs : List V) (ds : List Value), Vals dvs ds ∧ (∀ H, RepA K H dvs dd) ∧ Binds K fd ps ds) ∧ ∀ q ∈ sh, KwOk K fd ps q
theorem DefOkW.ok {P : Program} {w : World} {K : Fg} {mg : MG} {base : Heap} {k : Nat} {x : Str} {f : Addr} {ps : List Str} {tails : List (List D)} {sh : List KwSh} {sp : Sp} (G : DefOkW P w K mg base k x f ps tails sh sp) : DefOk P w K mg base k x f ps tails sp := by
  obtain ⟨fd, a, b, c, d, _⟩ := G.ex
  exact ⟨fd, a, b, c, d⟩
structure DefKW (K : Fg) (mg : MG) (x : Str) (f : Addr) (st : Stmt) (ps : List Str) (tails : List (List D)) (sh : List KwSh) : Prop where
  ex : ∃ fd dvs kws, FunD K x x (defArgs st) (defBody st) (defScope st) dvs kws f fd ∧ mg x = some (.ref f) ∧
    (∀ dd ∈ tails, ∃ (dvs : List V) (ds : List Value), Vals dvs ds ∧ (∀ H, RepA K H dvs dd) ∧ Binds K fd ps ds) ∧ ∀ q ∈ sh, KwOk K fd ps q
section
variable {P : Program} {w : World} {K : Fg} {mg : MG} {base : Heap} {x : Str} {f : Addr} {st : Stmt} {ps N : List Str} {tails : List (List D)} {sh : List KwSh} {k : Nat} {body : SF} {m : List Md}
theorem DefKW.of (G : DefKW K mg x f st ps tails sh) (S : FnScope N ps (defScope st)) (hm : m.length = ps.length)
    (der : ∀ (cdv : Value) (A : Around) (outer : List Env) (s : Shared) (H : Hp) (E : XK) (B : Bs) (W : WX), Room k (A.deeper (envOfC x (defScope st) s.heap.objs.size f cdv)) → L2N.Takes (cxOf (L2N.CX P w) P w K mg base N x (defScope st) f cdv A outer s H E) W →
      PSsD (cxOf (L2N.CX P w) P w K mg base N x (defScope st) f cdv A outer s H E) B W (defBody st) body) : DefOkW P w K mg base (k + 1) x f ps tails sh (spD K mg m (runD m N.length body)) := by
  obtain ⟨fd, dvs, kws, F, g, b, c⟩ := G.ex
  exact ⟨fd, g, F.kp, defD F S m hm der, b, c⟩
end
theorem VlsOk.len {K : Fg} {Hs : Hp} {σ : L2.St} : ∀ {vs : List V} {xs : List Vl}, VlsOk K Hs σ vs xs → vs.length = xs.length
  | _, _, .nil => rfl
  | _, _, .cons _ r => congrArg Nat.succ r.len
section
variable {X : Cx} {B : Bs} {W : WX} {k : Nat} {f : Addr} {ps : List Str} {tails : List (List D)} {sh : List KwSh} {m : List Md} {F : List D → R} {x : Str} {p pos : Pos} {e : Expr} {es : List Expr} {kws : List Keyword} {fa fk : AF}
/-- a call with keywords: n, how many values are written ahead; ks, the keywords' names -/
def callW (m : List Md) (F : List D → R) (q : KwSh) (fa fk : AF) : EF := fun ρ => (fa ρ).bind fun xs ρ1 => (fk ρ1).bind fun ys ρ2 => if xs.length = q.n ∧ ys.length = q.ks.length then match argD m (pick q.cs xs (q.dd.map Vl.st) ys) with
  | some ds => (match F ds with
    | .ok d _ _ => .ok (.st d) ρ2
    | .er e _ => .er e ρ2
    | .bad => .bad)
  | none => .bad else .bad
end
end DL
set_option maxHeartbeats 1000000
namespace DZ
open PySem
/-- an iterator of a list (true) or of a tuple -/
def ItK (b : Bool) (h : Heap) (it l : Addr) (k : Nat) : Prop := if b = true then h.IsListIter it l k else h.IsTupleIter it l k
def SqK (b : Bool) (h : Heap) (l : Addr) (xs : Array Value) : Prop := if b = true then h.IsList l xs else h.IsTuple l xs
theorem ItK.ext {b : Bool} {h h' : Heap} {p it l : Addr} {k : Nat} (i : ItK b h it l k) (e : Heap.ExtBut p h h') (n : it ≠ p) : ItK b h' it l k := by
  cases b
  · exact Heap.IsTupleIter.extBut i e n
  · exact Heap.IsListIter.extBut i e n
theorem SqK.ext {b : Bool} {h h' : Heap} {p l : Addr} {xs : Array Value} (i : SqK b h l xs) (e : Heap.ExtBut p h h') (n : l ≠ p) : SqK b h' l xs := by
  cases b
  · exact Heap.IsTuple.extBut i e n
  · exact Heap.IsList.extBut i e n
theorem ItK.at {b : Bool} {h h' : Heap} {it l : Addr} {k : Nat} (i : ItK b h it l k) (f : ∀ o, h.get? it = some o → h'.get? it = some o) : ItK b h' it l k := by
  cases b
  · exact Heap.IsTupleIter.at i f
  · exact Heap.IsListIter.at i f
theorem ItK.there {b : Bool} {h : Heap} {it l : Addr} {k : Nat} (i : ItK b h it l k) : ∃ o, h.get? it = some o := by
  cases b
  · obtain ⟨o, e, _⟩ := (show h.IsTupleIter it l k from i); exact ⟨o, e⟩
  · obtain ⟨o, e, _⟩ := (show h.IsListIter it l k from i); exact ⟨o, e⟩
section
variable {prog : Program} {w : World} {A : Around} {E : Value → Shared → Prop} {s : Shared} {b : Bool}
theorem one_end {it l : Addr} {i : Nat} {xs : Array Value} {Q : Option Value → Shared → Prop} (hh : A.handled = none) (hi : ItK b s.heap it l i) (hl : SqK b s.heap l xs) (hx : xs[i]? = none)
    (hQ : ∀ h', Heap.ExtBut it s.heap h' → Q none { s with heap := h' }) : wpAny (model prog w) A (Builtin.SmallTypes.nextOrEnd (.ref it)) Q E s := by
  unfold Builtin.SmallTypes.nextOrEnd
  refine wpAny_bind (wpAny_attempt ?_)
  cases b
  · refine RZ.nextOf_tuple_end hh hi hl hx fun h' e a c => ?_
    obtain ⟨o, ho, hc⟩ := c
    refine wpAny_bind (wpAny_isInstance (T := "StopIteration") (b := true) ⟨o, ho, hc⟩ isSubtype_stop ?_)
    exact wpAny_pure (hQ h' a)
  · refine wpAny_nextOf_list_end hh hi hl hx fun h' e a c => ?_
    obtain ⟨o, ho, hc⟩ := c
    refine wpAny_bind (wpAny_isInstance (T := "StopIteration") (b := true) ⟨o, ho, hc⟩ isSubtype_stop ?_)
    exact wpAny_pure (hQ h' a)
end
abbrev ZipS (h : Heap) (z TI TO : Addr) (f0 : Value) : Prop :=
  h.get? z = some { cls := .type "zip", dict := none, data := .fields #[f0, .bool false, .bool true, .ref TI, .ref TO], slots := #[] }
section
variable {prog : Program} {w : World} {A : Around} {E : Value → Shared → Prop} {s : Shared} {b1 b2 : Bool}
theorem stop_now {Q : Fin → Shared → Prop} (hh : A.handled = none) (hE : ∀ h' e, (∀ c o, s.heap.get? c = some o → h'.get? c = some o) → (∃ o, h'.get? e = some o ∧ o.cls = .type "StopIteration") → E (.ref e) { s with heap := h' }) :
    wpAny (model prog w) A (Builtin.SmallTypes.stopIteration) Q E s := by
  show wpAny _ _ (newExc (.type "StopIteration") [] >>= _) _ _ _
  refine wpAny_bind ?_
  simp only [newExc, newTuple]
  refine wpAny_bind (wpAny_newObj_type ?_ (by size_fits))
  refine wpAny_bind (m := firstArgMember _ _) (wpAny_of_eq (a := Value.none) (by first | rfl | (simp only [firstArgMember]; rfl)) (wpAny_newObj_type ?_ (by size_fits)))
  simp only [raiseNew]
  refine wpAny_bind (wpAny_handled ?_)
  first | rw [show A.in1.handled = none from hh] | rw [hh]
  refine wpAny_bind (wpAny_pure (wpAny_throw ?_))
  exact hE _ _ (fun c o q => Heap.get?_push_of_some _ (Heap.get?_push_of_some _ q)) ⟨_, Heap.get?_push_size _ rfl, rfl⟩
theorem end_in {z TI TO i1 i2 l1 l2 : Addr} {k1 k2 : Nat} {xs ys : Array Value} {a b : Value} {Q : Fin → Shared → Prop} (hh : A.handled = none) (D : ZipApart z TI TO i1 i2 l1 l2)
    (hz : ZipS s.heap z TI TO .none) (hTI : IsPair s.heap TI (.ref i1) (.ref i2)) (hTO : IsPair s.heap TO a b)
    (h1 : ItK b1 s.heap i1 l1 k1) (h2 : ItK b2 s.heap i2 l2 k2) (hl1 : SqK b1 s.heap l1 xs) (hl2 : SqK b2 s.heap l2 ys) (hx : xs[k1]? = none) (hy : ys[k2]? = none)
    (hE : ∀ h' e, (∀ c o, c ≠ z → c ≠ TO → c ≠ i1 → c ≠ i2 → s.heap.get? c = some o → h'.get? c = some o) → (∃ o, h'.get? e = some o ∧ o.cls = .type "StopIteration") → E (.ref e) { s with heap := h' }) :
    wpAny (model prog w) A (Builtin.«zip.__next__» ⟨[.ref z], []⟩) Q E s := by
  show wpAny _ _ (field (.ref z) 2 >>= _) _ _ _
  refine wpAny_bind (wpAny_field hz rfl (x := .bool true) rfl ?_)
  show wpAny _ _ (field (.ref z) 3 >>= _) _ _ _
  refine wpAny_bind (wpAny_field hz rfl (x := .ref TI) rfl (wpAny_bind (wpAny_seqItems hTI rfl ?_)))
  show wpAny _ _ (Builtin.SmallTypes.ownedTupleIsFree (.ref z) >>= _) _ _ _
  refine wpAny_bind ?_
  unfold Builtin.SmallTypes.ownedTupleIsFree
  refine wpAny_bind (wpAny_field hz rfl (x := .none) rfl (wpAny_pure ?_))
  simp only [if_true]
  refine wpAny_bind (wpAny_rule (wpAny_bind (wpAny_field hz rfl (x := .ref TO) rfl ?_)))
  refine wpAny_bind (wpAny_setField_rec hz (by simp) fun h₁ hz₁ hs₁ => ?_)
  replace hz₁ : ZipS h₁ z TI TO .ellipsis := hz₁
  refine wpAny_bind ?_
  simp only [List.zipIdx_cons, List.zipIdx_nil, List.forIn_cons, List.forIn_nil]
  refine wpAny_bind (wpAny_bind (wpAny_onRaise ?_))
  show wpAny _ _ (Builtin.SmallTypes.nextOrEnd (.ref i1)) _ _ _
  refine one_end hh (h1.ext hs₁.extBut D.i1z) (hl1.ext hs₁.extBut D.l1z) hx fun h₂ hs₂ => ?_
  have hz₂ : ZipS h₂ z TI TO .ellipsis := hs₂ _ _ D.i1z.symm hz₁
  refine wpAny_bind (wpAny_setField_rec hz₂ (by simp) fun h₃ hz₃ hs₃ => wpAny_bind ?_)
  show wpAny _ _ (forIn (([Value.ref i1, Value.ref i2].drop 1).zipIdx 1) PUnit.unit _ >>= _) _ _ _
  simp only [List.drop_succ_cons, List.drop_zero, List.zipIdx_cons, List.zipIdx_nil, List.forIn_cons, List.forIn_nil]
  refine wpAny_bind (wpAny_bind (wpAny_bind ?_))
  have e2 : ItK b2 h₃ i2 l2 k2 := ((h2.ext hs₁.extBut D.i2z).ext hs₂ D.i12.symm).ext hs₃.extBut D.i2z
  have l2' : SqK b2 h₃ l2 ys := ((hl2.ext hs₁.extBut D.l2z).ext hs₂ D.l2i1).ext hs₃.extBut D.l2z
  refine one_end hh e2 l2' hy fun h₄ hs₄ => ?_
  refine wpAny_pure (wpAny_pure (wpAny_bind (wpAny_rule ?_)))
  exact stop_now hh fun h' e k he => hE h' e (fun c o n1 _ n3 n4 q => k c o (hs₄ _ _ n4 (hs₃.extBut _ _ n1 (hs₂ _ _ n3 (hs₁.extBut _ _ n1 q))))) he
theorem pyNext_end {z TI TO i1 i2 l1 l2 : Addr} {k1 k2 : Nat} {xs ys : Array Value} {a b : Value} {Q : Option Value → Shared → Prop} (hh : A.handled = none) (D : ZipApart z TI TO i1 i2 l1 l2)
    (hz : ZipS s.heap z TI TO .none) (hTI : IsPair s.heap TI (.ref i1) (.ref i2)) (hTO : IsPair s.heap TO a b)
    (h1 : ItK b1 s.heap i1 l1 k1) (h2 : ItK b2 s.heap i2 l2 k2) (hl1 : SqK b1 s.heap l1 xs) (hl2 : SqK b2 s.heap l2 ys) (hx : xs[k1]? = none) (hy : ys[k2]? = none)
    (hQ : ∀ h', (∀ c o, c ≠ z → c ≠ TO → c ≠ i1 → c ≠ i2 → s.heap.get? c = some o → h'.get? c = some o) → Q none { s with heap := h' }) : wpAny (model prog w) A (pyNext (.ref z)) Q E s := by
  have hT : s.TypeIs (.ref z) "zip" := ⟨_, hz, rfl⟩
  unfold pyNext
  refine wpAny_bind (wpAny_attempt (wpAny_callSpecial?_slot (name := Str.ofString "__next__") hT F.slot_zip_next
    (wpAny_call_entry F.slot_zip_next hT F.entry_zip_next (end_in hh D hz hTI hTO h1 h2 hl1 hl2 hx hy fun h' e hk he => ?_) (F.args_zip_next_1 _))))
  obtain ⟨o, ho, hc⟩ := he
  exact wpAny_bind (wpAny_isInstance (T := "StopIteration") (b := true) ⟨o, ho, hc⟩ isSubtype_stop (wpAny_pure (hQ _ hk)))
end
def itO (b : Bool) (l : Addr) : Obj := { cls := .type (if b = true then "list_iterator" else "tuple_iterator"), data := .fields #[.ref l, .int 0 0] }
theorem SqK.iter {prog : Program} {w : World} {A : Around} {E : Value → Shared → Prop} {s : Shared} {b : Bool} {l : Addr} {xs : Array Value} {Q : Value → Shared → Prop} (hl : SqK b s.heap l xs)
    (h : Q (.ref s.heap.objs.size) { s with heap := s.heap.push (itO b l) }) : wpAny (model prog w) A (pyIter (.ref l)) Q E s := by
  cases b
  · exact wpAny_pyIter_tuple hl h
  · exact wpAny_pyIter_list hl h
theorem SqK.push {b : Bool} {h : Heap} {l : Addr} {xs : Array Value} (i : SqK b h l xs) (o : Obj) : SqK b (h.push o) l xs := by
  cases b
  · exact Heap.IsTuple.push i _
  · exact Heap.IsList.push i _
end DZ
set_option maxHeartbeats 1000000
namespace DZ
open PySem PySem.Spec PyProof.Rows L2
def SqX (b : Bool) (K : PySem.W.Frag) (H : Hp) (a : Addr) (xs : List V) : Prop := if b = true then SqL K H a xs else SqT K H a xs
theorem SqX.inj {X : Cx} {pins : List (Addr × Obj)} {σ : L2.St} {H : Hp} {s : Shared} {b : Bool} {a : Addr} {xs ys : List V} (I : Inv X pins σ H s) (h : SqX b X.K H a xs) (h' : SqX b X.K H a ys) : xs = ys := by
  cases b
  · exact I.tuple_inj h h'
  · exact I.list_inj h h'
end DZ
set_option maxHeartbeats 1000000
namespace DZ
open PySem PySem.Spec PyProof.Rows L2
section
variable {prog : Program} {w : World} {A : Around} {E : Value → Shared → Prop} {s : Shared}
end
end DZ
namespace DL
open PySem PySem.Spec PyProof.Rows L2 DZ
section
variable {X : Cx} {B : Bs} {W : WX} {e e2 : Expr} {fa fb : EF} {fr : AF} {p pos tpos : Pos} {elts : List Expr} {kk : Nat}
end
end DL
namespace DL
open PySem PySem.Spec PyProof.Rows L2 DZ
section
variable {X : Cx} {B : Bs} {W : WX} {e e1 e2 : Expr} {fa fl fh : EF} {p pos pos2 : Pos}
end
end DL
set_option maxHeartbeats 1000000
namespace DZ
open PySem PySem.Spec PyProof.Rows L2
end DZ
namespace DL
open PySem PySem.Spec PyProof.Rows L2 DZ
section
variable {X : Cx} {B : Bs} {W : WX} {e : Expr} {fa fb : EF} {p pos tpos : Pos} {elts : List Expr} {kk : Nat}
end
end DL
set_option maxHeartbeats 1000000
namespace DZ
open PySem PySem.Spec PyProof.Rows L2
section
variable {prog : Program} {w : World} {A : Around} {E : Value → Shared → Prop} {s : Shared}
end
end DZ
namespace DL
open PySem PySem.Spec PyProof.Rows L2 DZ
end DL
namespace DL
open PySem PySem.Spec PyProof.Rows L2
def unbox : D → Option D
  | .dict [(.bool true, d)] => some d
  | _ => none
theorem unbox_bx (d : D) : unbox (bx d) = some d := rfl
theorem unbox_eq : ∀ {d c : D}, unbox d = some c → d = bx c := fun {d c} h => by
  unfold unbox at h
  split at h
  · cases h; rfl
  · cases h
def kids : D → List D
  | .list ds => ds
  | .dict ((.none, _) :: kvs) => kvs.map (·.2)
  | .dict ((.bool false, _) :: kvs) => kvs.map (·.2)
  | .dict kvs => kvs.map (·.2)
  | _ => []
def zipK (kvs : List (D × D)) (es : List D) : List (D × D) := List.zipWith (fun kv e => (kv.1, e)) kvs es
def withKids : D → List D → D
  | .list _, es => .list es
  | .dict ((.none, c) :: kvs), es => .dict ((.none, c) :: zipK kvs es)
  | .dict ((.bool false, c) :: kvs), es => .dict ((.bool false, c) :: zipK kvs es)
  | .dict kvs, es => .dict (zipK kvs es)
  | d, _ => d
def vals : HO → List V
  | .lst vs => vs
  | .dK ks => ks.map (·.2)
  | .dT ks => ks.map (·.2)
  | .ins _ _ fs => fs.map (·.2)
  | _ => []
section
variable {K : Fg} {P : Pin} {Hs H Hs' H' : Hp}
theorem TreK.kids : ∀ {ks : List (Key × V)} {kvs : List (D × D)} {f : List Addr}, TreK K P Hs H ks kvs f → TreA K P Hs H (ks.map (·.2)) (kvs.map (·.2)) f ∧ ∀ {es : List D} {f' : List Addr}, TreA K P Hs' H' (ks.map (·.2)) es f' → TreK K P Hs' H' ks (zipK kvs es) f'
  | _, _, _, .nil => ⟨.nil, fun h => by cases h; exact .nil⟩
  | _, _, _, .cons a b => ⟨.cons a b.kids.1, fun h => by cases h with | cons x y => exact .cons x (b.kids.2 y)⟩
theorem TreT.kids : ∀ {ks : List (List Key × V)} {kvs : List (D × D)} {f : List Addr}, TreT K P Hs H ks kvs f → TreA K P Hs H (ks.map (·.2)) (kvs.map (·.2)) f ∧ ∀ {es : List D} {f' : List Addr}, TreA K P Hs' H' (ks.map (·.2)) es f' → TreT K P Hs' H' ks (zipK kvs es) f'
  | _, _, _, .nil => ⟨.nil, fun h => by cases h; exact .nil⟩
  | _, _, _, .cons a b => ⟨.cons a b.kids.1, fun h => by cases h with | cons x y => exact .cons x (b.kids.2 y)⟩
theorem TreI.kids : ∀ {ks : List (Str × V)} {kvs : List (D × D)} {f : List Addr}, TreI K P Hs H ks kvs f → TreA K P Hs H (ks.map (·.2)) (kvs.map (·.2)) f ∧ ∀ {es : List D} {f' : List Addr}, TreA K P Hs' H' (ks.map (·.2)) es f' → TreI K P Hs' H' ks (zipK kvs es) f'
  | _, _, _, .nil => ⟨.nil, fun h => by cases h; exact .nil⟩
  | _, _, _, .cons a b => ⟨.cons a b.kids.1, fun h => by cases h with | cons x y => exact .cons x (b.kids.2 y)⟩
theorem TreK.nokey : ∀ {ks : List (Key × V)} {kvs : List (D × D)} {f : List Addr}, TreK K P Hs H ks kvs f → DL.kids (.dict kvs) = kvs.map (·.2) ∧ ∀ es, withKids (.dict kvs) es = .dict (zipK kvs es)
  | _, _, _, .nil => ⟨rfl, fun _ => rfl⟩
  | _, _, _, .cons (k := k) _ _ => by cases k <;> exact ⟨rfl, fun _ => rfl⟩
/-- no data that stay look like an own object -/
theorem Rep.nobx {v : V} {c : D} (r : Rep K H v (bx c)) : False := by
  unfold bx at r
  generalize e : PyData.dict [(PyData.bool true, c)] = x at r
  cases r with
  | dK _ r =>
    cases r with
    | nil => cases e
    | @cons k _ _ _ _ _ _ => cases k <;> cases e
  | _ => cases e
/-- an own object: its kind, its parts -/
theorem Tre.node {v : V} {d : D} {f : List Addr} (t : Tre K P Hs H v (bx d) f) : ∃ a o h g, v = .ref a ∧ H a = some o ∧ f = a :: (h ++ g) ∧ TreA K P Hs H (vals o) (DL.kids d) g ∧
    ∀ Hs' H', (∀ b ∈ a :: h, (∀ u, H b = some u → H' b = some u) ∧ Hs' b = none) → ∀ es g', TreA K P Hs' H' (vals o) es g' → Tre K P Hs' H' v (bx (withKids d es)) (a :: (h ++ g')) := by
  generalize e : bx d = x at t
  cases t with
  | st r => subst e; exact (r.nobx).elim
  | @lst a vs ds g h n r =>
    have e2 : d = .list ds := by unfold bx at e; cases e; rfl
    subst e2
    exact ⟨a, _, [], g, rfl, h, rfl, r, fun Hs' H' st es g' t' => .lst ((st a List.mem_cons_self).1 _ h) (st a List.mem_cons_self).2 t'⟩
  | @dK a ks kvs g h n r =>
    have e2 : d = .dict kvs := by unfold bx at e; cases e; rfl
    subst e2
    refine ⟨a, _, [], g, rfl, h, rfl, ?_, fun Hs' H' st es g' t' => ?_⟩
    · rw [r.nokey.1]; exact (r.kids (Hs' := Hs) (H' := H)).1
    · rw [r.nokey.2]; exact .dK ((st a List.mem_cons_self).1 _ h) (st a List.mem_cons_self).2 (r.kids.2 t')
  | @dT a ks kvs g h n r =>
    have e2 : d = .dict (tagT :: kvs) := by unfold bx at e; cases e; rfl
    subst e2
    refine ⟨a, _, [], g, rfl, h, rfl, ?_, fun Hs' H' st es g' t' => ?_⟩
    · exact (r.kids (Hs' := Hs) (H' := H)).1
    · exact .dT ((st a List.mem_cons_self).1 _ h) (st a List.mem_cons_self).2 (r.kids.2 t')
  | @ins a dx c fs kvs g h h2 n n2 r =>
    have e2 : d = .dict ((.none, .str c) :: kvs) := by unfold bx at e; cases e; rfl
    subst e2
    refine ⟨a, _, [dx], g, rfl, h, rfl, (r.kids (Hs' := Hs) (H' := H)).1, fun Hs' H' st es g' t' => ?_⟩
    exact .ins ((st a List.mem_cons_self).1 _ h) ((st dx (List.mem_cons_of_mem _ List.mem_cons_self)).1 _ h2) (st a List.mem_cons_self).2 (st dx (List.mem_cons_of_mem _ List.mem_cons_self)).2 (r.kids.2 t')
theorem TreA.len : ∀ {vs : List V} {ds : List D} {f : List Addr}, TreA K P Hs H vs ds f → vs.length = ds.length
  | _, _, _, .nil => rfl
  | _, _, _, .cons _ b => congrArg Nat.succ b.len
/-- a part of it -/
theorem TreA.at_ : ∀ {vs : List V} {ds : List D} {f : List Addr} {k : Nat} {d : D}, TreA K P Hs H vs ds f → ds[k]? = some d → ∃ v f1 fk f2, vs[k]? = some v ∧ f = f1 ++ (fk ++ f2) ∧ Tre K P Hs H v d fk ∧
    ∀ Hs' H', Same Hs Hs' → (∀ b ∈ f1 ++ f2, (∀ u, H b = some u → H' b = some u) ∧ Hs' b = none) → ∀ v' d' fk', Tre K P Hs' H' v' d' fk' → TreA K P Hs' H' (vs.set k v') (ds.set k d') (f1 ++ (fk' ++ f2))
  | _, _, _, _, _, .nil, h => by simp at h
  | _, _, _, 0, _, .cons (f := fa) (g := ga) a b, h => by
    simp at h
    subst h
    exact ⟨_, [], fa, ga, rfl, rfl, a, fun Hs' H' e st v' d' fk' t => TreA.cons (f := fk') (g := ga) t (b.mono e (fun _ _ z => z) (fun c m => (st c m).1) fun c m _ => (st c m).2)⟩
  | _, _, _, k + 1, _, .cons (f := fa) (g := ga) a b, h => by
    obtain ⟨v, f1, fk, f2, h1, h2, h3, h4⟩ := b.at_ (by simpa using h)
    refine ⟨v, fa ++ f1, fk, f2, by simpa using h1, by rw [h2, List.append_assoc], h3, fun Hs' H' e st v' d' fk' t => ?_⟩
    rw [List.append_assoc]
    rw [List.append_assoc] at st
    exact .cons (a.mono e (fun _ _ z => z) (fun c m => (st c (List.mem_append_left _ m)).1) fun c m _ => (st c (List.mem_append_left _ m)).2) (h4 Hs' H' e (fun c m => st c (List.mem_append_right _ m)) v' d' fk' t)
end
def getIn : D → List Nat → Option D
  | d, [] => some d
  | d, k :: ks => (((kids d)[k]?).bind unbox).bind fun c => getIn c ks
def setIn : D → List Nat → D → D
  | _, [], x => x
  | d, k :: ks, x => match ((kids d)[k]?).bind unbox with
    | some c => withKids d ((kids d).set k (bx (setIn c ks x)))
    | none => d
/-- the value that stands there -/
def valAt (H : Hp) : V → D → List Nat → Option V
  | v, _, [] => some v
  | .ref a, d, k :: ks => (H a).bind fun o => ((vals o)[k]?).bind fun w => (((kids d)[k]?).bind unbox).bind fun c => valAt H w c ks
  | _, _, _ :: _ => none
section
variable {K : Fg} {P : Pin} {Hs H : Hp}
theorem Tre.focus : ∀ (path : List Nat) {v : V} {d c : D} {f : List Addr}, Tre K P Hs H v (bx d) f → f.Nodup → getIn d path = some c → ∃ q fc, valAt H v d path = some (.ref q) ∧ Tre K P Hs H (.ref q) (bx c) fc ∧ (∀ a ∈ fc, a ∈ f) ∧ fc.Nodup ∧
    ∀ Hs' H' c' fc', Same Hs Hs' → (∀ a ∈ f, a ∉ fc → (∀ o, H a = some o → H' a = some o) ∧ Hs' a = none) → Tre K P Hs' H' (.ref q) (bx c') fc' → fc'.Nodup → (∀ a ∈ fc', a ∈ fc ∨ a ∉ f) →
      ∃ f', Tre K P Hs' H' v (bx (setIn d path c')) f' ∧ f'.Nodup ∧ ∀ a ∈ f', (a ∈ f ∧ a ∉ fc) ∨ a ∈ fc'
  | [], v, d, c, f, t, nd, e => by
    cases e
    obtain ⟨a, _, _, _, rfl, _⟩ := t.node
    exact ⟨a, f, rfl, t, fun _ m => m, nd, fun Hs' H' c' fc' e st t' nd' dj => ⟨fc', t', nd', fun a m => .inr m⟩⟩
  | k :: ks, v, d, c, f, t, nd, e => by
    obtain ⟨a, o, h, g, rfl, ho, ef, tA, close⟩ := t.node
    unfold getIn at e
    cases e1 : (kids d)[k]? with
    | none => rw [e1] at e; cases e
    | some x =>
      rw [e1, Option.bind_some] at e
      cases e2 : unbox x with
      | none => rw [e2] at e; cases e
      | some c1 =>
        rw [e2, Option.bind_some] at e
        have ex := unbox_eq e2
        subst ex
        obtain ⟨w, f1, fk, f2, hw, ef2, tk, cl⟩ := tA.at_ e1
        subst ef ef2
        have n1 : fk.Nodup := (List.nodup_append.mp (List.nodup_append.mp (List.nodup_append.mp (List.nodup_cons.mp nd).2).2.1).2.1).1
        obtain ⟨q, fc, v1, t1, s1, nc, back⟩ := Tre.focus ks tk n1 e
        have inK : ∀ {b}, b ∈ fk → b ∈ a :: (h ++ (f1 ++ (fk ++ f2))) := fun m => List.mem_cons_of_mem _ (List.mem_append_right _ (List.mem_append_right _ (List.mem_append_left _ m)))
        have hd : ∀ b, b ∈ a :: h → b ∈ a :: (h ++ (f1 ++ (fk ++ f2))) ∧ b ∉ fk := fun b m => by
          rcases List.mem_cons.mp m with rfl | m
          · exact ⟨List.mem_cons_self, fun z => (List.nodup_cons.mp nd).1 (List.mem_append_right _ (List.mem_append_right _ (List.mem_append_left _ z)))⟩
          · exact ⟨List.mem_cons_of_mem _ (List.mem_append_left _ m), fun z => (List.nodup_append.mp (List.nodup_cons.mp nd).2).2.2 b m b (List.mem_append_right _ (List.mem_append_left _ z)) rfl⟩
        have sd : ∀ b, b ∈ f1 ++ f2 → b ∈ a :: (h ++ (f1 ++ (fk ++ f2))) ∧ b ∉ fk := fun b m => by
          have nn := (List.nodup_append.mp (List.nodup_cons.mp nd).2).2.1
          rcases List.mem_append.mp m with m | m
          · exact ⟨List.mem_cons_of_mem _ (List.mem_append_right _ (List.mem_append_left _ m)), fun z => (List.nodup_append.mp nn).2.2 b m b (List.mem_append_left _ z) rfl⟩
          · exact ⟨List.mem_cons_of_mem _ (List.mem_append_right _ (List.mem_append_right _ (List.mem_append_right _ m))), fun z => (List.nodup_append.mp (List.nodup_append.mp nn).2.1).2.2 b z b m rfl⟩
        refine ⟨q, fc, ?_, t1, fun b m => inK (s1 b m), nc, fun Hs' H' c' fc' es st t' nd' dj => ?_⟩
        · unfold valAt
          rw [ho, Option.bind_some, hw, Option.bind_some, e1, Option.bind_some, unbox_bx, Option.bind_some]
          exact v1
        · obtain ⟨f', t2, n2, in2⟩ := back Hs' H' c' fc' es (fun b m m2 => st b (inK m) m2) t' nd' (fun b m => by
            rcases dj b m with z | z
            · exact .inl z
            · exact .inr fun y => z (inK y))
          have tA' := cl Hs' H' es (fun b m => st b (sd b m).1 fun z => (sd b m).2 (s1 b z)) w (bx (setIn c1 ks c')) f' t2
          rw [show (vals o).set k w = vals o from by
            refine List.ext_getElem? fun i => ?_
            by_cases hi : k = i
            · subst hi
              have hl := (List.getElem?_eq_some_iff.mp hw).1
              rw [List.getElem?_set_self hl, hw]
            · rw [List.getElem?_set_ne hi]] at tA'
          have t3 := close Hs' H' (fun b m => st b (hd b m).1 fun z => (hd b m).2 (s1 b z)) _ _ tA'
          refine ⟨a :: (h ++ (f1 ++ (f' ++ f2))), ?_, ?_, ?_⟩
          · unfold setIn
            rw [e1, Option.bind_some, unbox_bx]
            exact t3
          · -- no address twice
            have fresh : ∀ b ∈ f', b ∉ a :: h ∧ b ∉ f1 ++ f2 := fun b m => by
              rcases in2 b m with z | z
              · exact ⟨fun y => (hd b y).2 z.1, fun y => (sd b y).2 z.1⟩
              · rcases dj b z with y | y
                · exact ⟨fun u => (hd b u).2 (s1 b y), fun u => (sd b u).2 (s1 b y)⟩
                · exact ⟨fun u => y (hd b u).1, fun u => y (sd b u).1⟩
            obtain ⟨na, nr⟩ := List.nodup_cons.mp nd
            obtain ⟨nh, nr, dh⟩ := List.nodup_append.mp nr
            obtain ⟨nf1, nr, df1⟩ := List.nodup_append.mp nr
            obtain ⟨_, nf2, _⟩ := List.nodup_append.mp nr
            refine List.nodup_cons.mpr ⟨fun z => ?_, List.nodup_append.mpr ⟨nh, List.nodup_append.mpr ⟨nf1, List.nodup_append.mpr ⟨n2, nf2, fun x mx y my => ?_⟩, fun x mx y my => ?_⟩, fun x mx y my => ?_⟩⟩
            · rcases List.mem_append.mp z with z | z
              · exact na (List.mem_append_left _ z)
              · rcases List.mem_append.mp z with z | z
                · exact na (List.mem_append_right _ (List.mem_append_left _ z))
                · rcases List.mem_append.mp z with z | z
                  · exact (fresh _ z).1 List.mem_cons_self
                  · exact na (List.mem_append_right _ (List.mem_append_right _ (List.mem_append_right _ z)))
            · rintro rfl
              exact (fresh _ mx).2 (List.mem_append_right _ my)
            · rintro rfl
              rcases List.mem_append.mp my with z | z
              · exact (fresh _ z).2 (List.mem_append_left _ mx)
              · exact df1 _ mx _ (List.mem_append_right _ z) rfl
            · rintro rfl
              rcases List.mem_append.mp my with z | z
              · exact dh _ mx _ (List.mem_append_left _ z) rfl
              · rcases List.mem_append.mp z with z | z
                · exact (fresh _ z).1 (List.mem_cons_of_mem _ mx)
                · exact dh _ mx _ (List.mem_append_right _ (List.mem_append_right _ z)) rfl
          · intro b m
            rcases List.mem_cons.mp m with rfl | m
            · exact .inl ⟨(hd _ List.mem_cons_self).1, fun z => (hd _ List.mem_cons_self).2 (s1 _ z)⟩
            · rcases List.mem_append.mp m with m | m
              · exact .inl ⟨(hd _ (List.mem_cons_of_mem _ m)).1, fun z => (hd _ (List.mem_cons_of_mem _ m)).2 (s1 _ z)⟩
              · rcases List.mem_append.mp m with m | m
                · exact .inl ⟨(sd _ (List.mem_append_left _ m)).1, fun z => (sd _ (List.mem_append_left _ m)).2 (s1 _ z)⟩
                · rcases List.mem_append.mp m with m | m
                  · rcases in2 b m with z | z
                    · exact .inl ⟨inK z.1, z.2⟩
                    · exact .inr z
                  · exact .inl ⟨(sd _ (List.mem_append_right _ m)).1, fun z => (sd _ (List.mem_append_right _ m)).2 (s1 _ z)⟩
end
end DL
namespace DL
open PySem PySem.Spec PyProof.Rows L2
def Slot.tree : Slot → Option D
  | .tre d => some d
  | .atr d => some d
  | _ => none
def Slot.putT (x : D) : Slot → Slot
  | .tre _ => .tre x
  | .atr _ => .atr x
  | s => s
section
variable {K : Fg} {B : Bs} {Hs H Hs' H' : Hp} {σ : L2.St} {ρ ρ' : En} {F : Nat → List Addr}
theorem tree_at {i : Nat} {s : Slot} {d : D} (sl : Sl K B Hs H σ ρ) (fe : FeetOk K B Hs H σ ρ F) (h : ρ[i]? = some s) (ht : s.tree = some d) :
    ∃ p, σ[i]? = some (some (.ref p)) ∧ TreP K B.pin Hs H p d (F i) ∧ ((∀ a ∈ F i, B.nw a ∨ B.own0 a) ∧ ∀ d', s = .tre d' → ∀ a ∈ F i, B.nw a) ∧ ∀ Hs' H' d' f', TreP K B.pin Hs' H' p d' f' → (∀ a ∈ f', a ∈ F i ∨ B.nw a) → Feet K B Hs' H' (some (.ref p)) (s.putT d') f' ∧ SlotOk K B Hs' H' (some (.ref p)) (s.putT d') := by
  obtain ⟨x, ex⟩ := sl_var sl h
  have ft := fe.at_ i x s ex h
  cases s with
  | tre d0 =>
    cases ht
    obtain ⟨p, rfl, t, z⟩ := ft
    refine ⟨p, ex, t, ⟨fun a m => .inl (z a m), fun _ _ => z⟩, fun Hs' H' d' f' t' m => ?_⟩
    have q : ∀ a ∈ f', B.nw a := fun a i => (m a i).elim (z a) id
    exact ⟨⟨p, rfl, t', q⟩, p, f', rfl, t', q⟩
  | atr d0 =>
    cases ht
    obtain ⟨p, rfl, t, r, z⟩ := ft
    refine ⟨p, ex, t, ⟨z, fun _ e => by cases e⟩, fun Hs' H' d' f' t' m => ?_⟩
    have q : ∀ a ∈ f', B.nw a ∨ B.own0 a := fun a i => (m a i).elim (z a) .inl
    exact ⟨⟨p, rfl, t', r, q⟩, p, f', rfl, t', r, q⟩
  | _ => cases ht
/-- a slot told anew, with what it owns -/
theorem Sl.retell {i : Nat} {s : Slot} {x : Option V} {f : List Addr} (sl : Sl K B Hs H σ ρ) (fe : FeetOk K B Hs H σ ρ F) (hx : σ[i]? = some x) (ft : Feet K B Hs H x s f) (ok : SlotOk K B Hs H x s) (dj : ∀ j, i ≠ j → ∀ a ∈ f, a ∉ F j) :
    Sl K B Hs H σ (ρ.set i s) ∧ FeetOk K B Hs H σ (ρ.set i s) fun j => if i = j then f else F j := by
  have hi : i < ρ.length := by
    rw [← sl.len]
    exact (List.getElem?_eq_some_iff.mp hx).1
  have fe' : FeetOk K B Hs H σ (ρ.set i s) fun j => if i = j then f else F j := by
    refine ⟨fun j y t a b => ?_, fun j a => ?_, fun j k hjk a ha hb => ?_⟩
    · by_cases e : i = j
      · subst e
        rw [List.getElem?_set_self hi] at b
        rw [hx] at a
        cases a
        cases b
        rw [if_pos rfl]
        exact ft
      · rw [List.getElem?_set_ne e] at b
        rw [if_neg e]
        exact fe.at_ j y t a b
    · by_cases e : i = j
      · subst e
        rw [List.getElem?_set_self hi] at a
        cases a
      · rw [List.getElem?_set_ne e] at a
        rw [if_neg e]
        exact fe.out j a
    · by_cases e : i = j
      · rw [if_pos e] at ha
        have ne : i ≠ k := fun z => hjk (e.symm.trans z)
        rw [if_neg ne] at hb
        exact dj k ne a ha hb
      · rw [if_neg e] at ha
        by_cases e2 : i = k
        · rw [if_pos e2] at hb
          exact dj j e a hb ha
        · rw [if_neg e2] at hb
          exact fe.dis j k hjk a ha hb
  refine ⟨⟨by rw [List.length_set]; exact sl.len, fun j y t a b => ?_, sl.sub, sl.base, sl.new, sl.keep, sl.there, _, fe'⟩, fe'⟩
  by_cases e : i = j
  · subst e
    rw [List.getElem?_set_self hi] at b
    rw [hx] at a
    cases a
    cases b
    exact ok
  · rw [List.getElem?_set_ne e] at b
    exact sl.ok j y t a b
/-- a place within a slot's tree: its address, what is to be shown to come back -/
structure Foc (K : Fg) (B : Bs) (Hs H : Hp) (σ : L2.St) (ρ : En) (i : Nat) (s : Slot) (d : D) (path : List Nat) (c : D) (p q : Addr) (f fc : List Addr) : Prop where
  hp : σ[i]? = some (some (.ref p))
  hv : valAt H (.ref p) d path = some (.ref q)
  t : Tre K B.pin Hs H (.ref q) (bx c) fc
  nd : fc.Nodup
  inF : ∀ a ∈ fc, a ∈ f
  th : ∀ a ∈ f, OwnAt H a ∧ Hs a = none
  may : ∀ a ∈ f, B.nw a ∨ B.own0 a
  mayT : ∀ d', s = .tre d' → ∀ a ∈ f, B.nw a
  hid : Sl K B Hs H σ (ρ.set i .un)
  feet : ∃ F, FeetOk K B Hs H σ (ρ.set i .un) F ∧ ∀ j, ∀ a ∈ f, a ∉ F j
  back : ∀ Hs' H' ρ' c' fc', Sl K B Hs' H' σ ρ' → (∃ F', FeetOk K B Hs' H' σ ρ' F' ∧ (∀ j, ∀ a ∈ f, a ∉ F' j) ∧ ∀ j, ∀ a ∈ fc', a ∉ F' j) → Same Hs Hs' → (∀ a ∈ f, a ∉ fc → (∀ o, H a = some o → H' a = some o) ∧ Hs' a = none) → Tre K B.pin Hs' H' (.ref q) (bx c') fc' → fc'.Nodup → (∀ a ∈ fc', a ∈ fc ∨ (a ∉ f ∧ B.nw a)) →
    Sl K B Hs' H' σ (ρ'.set i (s.putT (setIn d path c')))
  back0 : ∀ Hs' H' ρ', Sl K B Hs' H' σ ρ' → (∃ F', FeetOk K B Hs' H' σ ρ' F' ∧ (∀ j, ∀ a ∈ f, a ∉ F' j)) → Same Hs Hs' → (∀ a ∈ f, (∀ o, H a = some o → H' a = some o) ∧ Hs' a = none) → Sl K B Hs' H' σ (ρ'.set i s)
theorem Slot.putT_self {s : Slot} {d : D} (h : s.tree = some d) : s.putT d = s := by
  cases s <;> first | (cases h; done) | (cases h; rfl)
theorem Sl.foc {i : Nat} {s : Slot} {d c : D} {path : List Nat} (sl : Sl K B Hs H σ ρ) (h : ρ[i]? = some s) (ht : s.tree = some d) (hc : getIn d path = some c) : ∃ p q f fc, Foc K B Hs H σ ρ i s d path c p q f fc := by
  obtain ⟨F, fe⟩ := sl.feet
  obtain ⟨p, ep, t, may, mk⟩ := tree_at sl fe h ht
  obtain ⟨q, fc, hv, tq, inF, nd, bk⟩ := Tre.focus path t.1 t.2.2 hc
  have un := fe.reslot (i := i) (s := .un) rfl
  refine ⟨p, q, F i, fc, ep, hv, tq, nd, inF, fun a m => t.1.there a m, may.1, may.2, sl.reslot (fun _ _ => trivial) rfl, ⟨_, un, fun j a m z => ?_⟩, fun Hs' H' ρ' c' fc' sl' ⟨F', fe', n1, n2⟩ es st t' nd' dj => ?_, fun Hs' H' ρ' sl' ⟨F', fe', n1⟩ es st => ?_⟩
  · by_cases e : i = j
    · rw [if_pos e] at z; cases z
    · rw [if_neg e] at z
      exact fe.dis i j e a m z
  · obtain ⟨f', t2, n2', in2⟩ := bk Hs' H' c' fc' es st t' nd' fun a m => (dj a m).imp id (·.1)
    have hpf : p ∈ f' := by
      obtain ⟨a, o, hh, g, e1, _, e2, _⟩ := t2.node
      cases e1
      rw [e2]
      exact List.mem_cons_self
    obtain ⟨ft, ok⟩ := mk Hs' H' (setIn d path c') f' ⟨t2, hpf, n2'⟩ fun a m => by
      rcases in2 a m with z | z
      · exact .inl z.1
      · rcases dj a z with y | y
        · exact .inl (inF a y)
        · exact .inr y.2
    refine (sl'.retell fe' ep ft ok fun j _ a m z => ?_).1
    rcases in2 a m with y | y
    · exact n1 j a y.1 z
    · exact n2 j a y z
  · have t' : TreP K B.pin Hs' H' p d (F i) := t.mono es (fun a m o e => (st a m).1 o e) fun a m _ => (st a m).2
    obtain ⟨ft, ok⟩ := mk Hs' H' d (F i) t' fun a m => .inl m
    rw [Slot.putT_self ht] at ft ok
    exact (sl'.retell fe' ep ft ok fun j _ a m z => n1 j a m z).1
end
section
variable {K : Fg} {mg : MG} {B : Bs} {W : WX} {Hs H : Hp} {σ : L2.St} {ρ : En} {α : Type}
/-- what is evaluated aside leaves what is hidden -/
theorem Foc.aside {i : Nat} {s : Slot} {d c : D} {path : List Nat} {p q : Addr} {f fc : List Addr} (fo : Foc K B Hs H σ ρ i s d path c p q f fc) : ∃ B', Sl K B' Hs H σ (ρ.set i .un) ∧ B'.pin = B.pin ∧
    ∀ Hs' H' ρ', Sl K B' Hs' H' σ ρ' → Same Hs Hs' → Sl K B Hs' H' σ ρ' ∧ (∃ F', FeetOk K B Hs' H' σ ρ' F' ∧ ∀ j, ∀ a ∈ f, a ∉ F' j) ∧ ∀ a ∈ f, (∀ o, H a = some o → H' a = some o) ∧ Hs' a = none := by
  obtain ⟨F, fe, nf⟩ := fo.feet
  refine ⟨_, (fo.hid.inner fe).1, rfl, fun Hs' H' ρ' sl' es => ?_⟩
  obtain ⟨slo, all⟩ := fo.hid.outer fe sl'
  obtain ⟨F2, f2⟩ := sl'.feet
  have fl : ∀ a ∈ f, (∀ o, H a = some o → H' a = some o) ∧ Hs' a = none ∧ ∀ j, a ∉ F2 j := fun a m => by
    obtain ⟨⟨o, e, nt⟩, n⟩ := fo.th a m
    obtain ⟨h1, h2, h3⟩ := sl'.floats e nt n fun j => nf j a m
    exact ⟨fun o' e' => by rw [e] at e'; cases e'; exact h1, h2, h3 F2 f2⟩
  exact ⟨slo, ⟨F2, all F2 f2, fun j a m => (fl a m).2.2 j⟩, fun a m => ⟨(fl a m).1, (fl a m).2.1⟩⟩
end
/-- an expression that changes nothing -/
def tQ (K : Fg) (B : Bs) (h : En → Option D) : TE := fun σ H Q => ∃ Hs ρ z, Sl K B Hs H σ ρ ∧ h ρ = some z ∧ ∀ v, Rep K Hs v z → Q v H
abbrev PQ (X : Cx) (B : Bs) (e : Expr) (h : En → Option D) : Prop := PE X e (tQ X.K B h)
def tRQ (K : Fg) (B : Bs) (i : Nat) (g : En → Option (List Nat)) : TE := fun σ H Q => ∃ Hs ρ s d path p, Sl K B Hs H σ ρ ∧ ρ[i]? = some s ∧ s.tree = some d ∧ σ[i]? = some (some (.ref p)) ∧ g ρ = some path ∧ ∀ v, valAt H (.ref p) d path = some v → Q v H
abbrev PRQ (X : Cx) (B : Bs) (e : Expr) (i : Nat) (g : En → Option (List Nat)) : Prop := PE X e (tRQ X.K B i g)
section
variable {X : Cx} {B : Bs} {W : WX} {a b c e : Expr} {pos : Pos} {h h2 : En → Option D} {i : Nat} {g : En → Option (List Nat)}
theorem pq_c {v : V} {d : D} (he : PE X e (tC v)) (r : ∀ H, Rep X.K H v d) : PQ X B e (fun _ => some d) := PE.imp he fun σ H Q ⟨Hs, ρ, z, sl, e, q⟩ => by
  cases e
  exact q v (r Hs)
theorem pq_int {i j pos} : PQ X B (.Constant (.int i) j pos) (fun _ => some (.int i)) := pq_c pe_int fun _ => .int i
def vrQ (i : Nat) : En → Option D := fun ρ => match ρ[i]? with
  | some (.val d) => some d
  | _ => none
theorem pq_v {i : Nat} (he : PE X e (tVar i)) : PQ X B e (vrQ i) := PE.imp he fun σ H Q ⟨Hs, ρ, z, sl, ez, q⟩ => by
  unfold vrQ at ez
  cases es : ρ[i]? with
  | none => rw [es] at ez; cases ez
  | some s =>
    rw [es] at ez
    cases s <;> first | (cases ez; done) | skip
    rename_i d
    cases ez
    obtain ⟨x, ex⟩ := sl_var sl es
    obtain ⟨v, rfl, r⟩ := sl.ok i x _ ex es
    exact ⟨v, ex, q v r⟩
end
end DL
namespace DL
open PySem PySem.Spec PyProof.Rows L2
section
variable {K : Fg} {P : Pin} {Hs H : Hp}
theorem valAt_snoc : ∀ (path : List Nat) {v : V} {d c c1 : D} {a : Addr} {o : HO} {w : V} {j : Nat}, getIn d path = some c → valAt H v d path = some (.ref a) → H a = some o → (vals o)[j]? = some w → ((kids c)[j]?).bind unbox = some c1 → valAt H v d (path ++ [j]) = some w ∧ getIn d (path ++ [j]) = some c1
  | [], v, d, c, c1, a, o, w, j, e, hv, ho, hw, hk => by
    cases e
    have hv : some v = some (.ref a) := by cases v <;> exact hv
    cases hv
    refine ⟨?_, ?_⟩
    · show (H a).bind _ = _
      rw [ho, Option.bind_some, hw, Option.bind_some, hk, Option.bind_some]
      cases w <;> rfl
    · show Option.bind (((kids d)[j]?).bind unbox) _ = _
      rw [hk, Option.bind_some]
      rfl
  | k :: ks, v, d, c, c1, a, o, w, j, e, hv, ho, hw, hk => by
    cases v <;> first | (cases hv; done) | skip
    rename_i b
    unfold valAt at hv
    unfold getIn at e
    cases e1 : H b with
    | none => rw [e1] at hv; cases hv
    | some ob =>
      rw [e1, Option.bind_some] at hv
      cases e2 : (vals ob)[k]? with
      | none => rw [e2] at hv; cases hv
      | some x =>
        rw [e2, Option.bind_some] at hv
        cases e3 : ((kids d)[k]?).bind unbox with
        | none => rw [e3] at hv; cases hv
        | some c2 =>
          rw [e3, Option.bind_some] at hv e
          obtain ⟨h1, h2⟩ := valAt_snoc ks e hv ho hw hk
          refine ⟨?_, ?_⟩
          · rw [List.cons_append]
            unfold valAt
            rw [e1, Option.bind_some, e2, Option.bind_some, e3, Option.bind_some]
            exact h1
          · rw [List.cons_append]
            unfold getIn
            rw [e3, Option.bind_some]
            exact h2
/-- an own list -/
theorem Tre.lstOf {q : Addr} {ds : List D} {f : List Addr} (t : Tre K P Hs H (.ref q) (bx (.list ds)) f) : ∃ vs g, H q = some (.lst vs) ∧ Hs q = none ∧ f = q :: g ∧ TreA K P Hs H vs ds g := by
  generalize e : bx (.list ds) = x at t
  cases t with
  | st r => subst e; exact (r.nobx).elim
  | lst h n r => unfold bx at e; cases e; exact ⟨_, _, h, n, rfl, r⟩
  | dK h n r => unfold bx at e; cases e
  | dT h n r => unfold bx at e; cases e
  | ins h h2 n n2 r => unfold bx at e; cases e
end
section
variable {X : Cx} {B : Bs} {W : WX} {a b c e : Expr} {es : List Expr} {pos : Pos} {h h2 : En → Option D} {i : Nat} {g : En → Option (List Nat)} {fa : EF}
theorem prq_v {i : Nat} (he : PE X e (tVar i)) : PRQ X B e i (fun _ => some []) := PE.imp he fun σ H Q ⟨Hs, ρ, s, d, path, p, sl, es, et, ep, eg, q⟩ => by
  cases eg
  exact ⟨.ref p, ep, q _ rfl⟩
/-- the place of an item -/
def ixR (i : Nat) (g : En → Option (List Nat)) (h : En → Option D) : En → Option (List Nat) := fun ρ => (g ρ).bind fun path => (h ρ).bind fun z => ((ρ[i]?).bind Slot.tree).bind fun d => match getIn d path, z with
  | some (.list ds), .int k => (ixN ds.length k).bind fun j => match (ds[j]?).bind unbox with
    | some _ => some (path ++ [j])
    | none => none
  | _, _ => none
theorem prq_ix (ha : PRQ X B a i g) (hb : PQ X B b h) (hs : PlainIx b) : PRQ X B (.Subscript a b pos) i (ixR i g h) :=
  PE.imp (pe_ix ix_list ha hb hs) fun σ H Q ⟨Hs, ρ, s, d, path', p, sl, es, et, ep, eg, q⟩ => by
  unfold ixR at eg
  cases e1 : g ρ with
  | none => rw [e1] at eg; cases eg
  | some path =>
    cases e2 : h ρ with
    | none => rw [e1, e2] at eg; cases eg
    | some z =>
      rw [e1, e2, es, Option.bind_some, Option.bind_some, Option.bind_some, et, Option.bind_some] at eg
      cases e3 : getIn d path with
      | none => rw [e3] at eg; cases eg
      | some c =>
        rw [e3] at eg
        cases c <;> first | (cases eg; done) | skip
        rename_i ds
        cases z <;> first | (cases eg; done) | skip
        rename_i k
        dsimp only at eg
        cases e4 : ixN ds.length k with
        | none => rw [e4] at eg; cases eg
        | some j =>
          rw [e4, Option.bind_some] at eg
          cases e5 : (ds[j]?).bind unbox with
          | none => rw [e5] at eg; cases eg
          | some c1 =>
            rw [e5] at eg
            cases eg
            obtain ⟨p', qa, f, fc, fo⟩ := sl.foc es et e3
            obtain rfl : p' = p := by have := fo.hp; rw [ep] at this; cases this; rfl
            obtain ⟨vs, gg, hq, _, _, tA⟩ := fo.t.lstOf
            have hj : j < vs.length := by
              rw [tA.len]
              cases e6 : ds[j]? with
              | none => rw [e6] at e5; cases e5
              | some _ => exact (List.getElem?_eq_some_iff.mp e6).1
            have ew : vs[j]? = some vs[j] := List.getElem?_eq_getElem hj
            obtain ⟨w1, w2⟩ := valAt_snoc path e3 fo.hv hq ew e5
            refine ⟨Hs, ρ, s, d, path, p', sl, es, et, ep, e1, fun v hv => ⟨Hs, ρ, _, sl, e2, fun u hu => ?_⟩⟩
            rw [fo.hv] at hv
            cases hv
            refine ⟨qa, vs, k, vs[j], rfl, Shal.int (H := Hs) (.inl hu), .inl (.inl hq), ?_, q _ w1⟩
            unfold L2.atI
            rw [tA.len, e4, Option.bind_some]
            exact ew
end
section
variable {K : Fg} {B : Bs} {Hs H Hs1 H1 : Hp} {σ : L2.St} {ρ ρ1 : En}
/-- the object at the place is written: back in the slot's tree -/
theorem Foc.write {i : Nat} {s : Slot} {d c c' : D} {path : List Nat} {p q : Addr} {f fc fc' : List Addr} {o : HO} (fo : Foc K B Hs H σ ρ i s d path c p q f fc) (slo : Sl K B Hs1 H1 σ ρ1) (hF : ∃ F, FeetOk K B Hs1 H1 σ ρ1 F ∧ (∀ j, ∀ a ∈ f, a ∉ F j) ∧ ∀ j, ∀ a ∈ fc', a ∉ F j) (es : Same Hs Hs1)
    (st : ∀ a ∈ f, (∀ o, H a = some o → H1 a = some o) ∧ Hs1 a = none) (hq : q ∈ fc) (t : Tre K B.pin Hs1 (L2.upd H1 q o) (.ref q) (bx c') fc') (nd : fc'.Nodup) (dj : ∀ a ∈ fc', a ∈ fc ∨ (a ∉ f ∧ B.nw a)) :
    Sl K B Hs1 (L2.upd H1 q o) σ (ρ1.set i (s.putT (setIn d path c'))) := by
  obtain ⟨F, fe, n1, n2⟩ := hF
  have qf := fo.inF q hq
  obtain ⟨sl2, fe2⟩ := slo.scratch (o := o) fe (fun j => n1 j q qf) (st q qf).2 (fo.may q qf) fun ⟨xs, t⟩ => by
    obtain ⟨⟨o', e', n'⟩, _⟩ := fo.th q qf
    exact n' xs (Option.some.inj (((st q qf).1 o' e').symm.trans t))
  exact fo.back Hs1 _ ρ1 c' fc' sl2 ⟨F, fe2, n1, n2⟩ es (fun a m m2 => ⟨fun u e => by rw [L2.upd_ne (fun z => m2 (by rw [z]; exact hq))]; exact (st a m).1 u e, (st a m).2⟩) t nd dj
/-- an own list's items as they stand when only its own object is written -/
theorem TreA.but {P : Pin} {vs : List V} {ds : List D} {g : List Addr} {q : Addr} {o : HO} (t : TreA K P Hs H vs ds g) (es : Same Hs Hs1) (st : ∀ a ∈ g, (∀ o, H a = some o → H1 a = some o) ∧ Hs1 a = none) (nq : q ∉ g) : TreA K P Hs1 (L2.upd H1 q o) vs ds g :=
  t.mono es (fun _ _ z => z) (fun a m u e => by rw [L2.upd_ne (fun z => nq (by rw [← z]; exact m))]; exact (st a m).1 u e) fun a m _ => (st a m).2
theorem TreA.snoc {P : Pin} {v : V} {d : D} : ∀ {vs : List V} {ds : List D} {g : List Addr}, TreA K P Hs H vs ds g → Rep K Hs v d → TreA K P Hs H (vs ++ [v]) (ds ++ [d]) g
  | _, _, _, .nil, r => TreA.cons (f := []) (g := []) (.st r) .nil
  | _, _, _, .cons a b, r => .cons a (b.snoc r)
end
section
variable {X : Cx} {B : Bs} {W : WX} {a b c e : Expr} {es : List Expr} {pos : Pos} {h h2 : En → Option D} {i : Nat} {g : En → Option (List Nat)} {fa : EF}
end
end DL
namespace DL
open PySem PySem.Spec PyProof.Rows L2
section
variable {K : Fg} {B : Bs} {Hs H Hs' H' : Hp} {σ : L2.St} {ρ ρ' : En} {F : Nat → List Addr}
structure Aside (K : Fg) (B B' : Bs) (Hs H : Hp) (σ : L2.St) (g : List Addr) : Prop where
  pin : B'.pin = B.pin
  out : ∀ Hs' H' ρ', Sl K B' Hs' H' σ ρ' → Sl K B Hs' H' σ ρ'
  feet : ∀ Hs' H' ρ' F', Sl K B' Hs' H' σ ρ' → FeetOk K B' Hs' H' σ ρ' F' → FeetOk K B Hs' H' σ ρ' F' ∧ ∀ j, ∀ a ∈ g, a ∉ F' j
  st : ∀ Hs' H' ρ', Sl K B' Hs' H' σ ρ' → ∀ a ∈ g, (∀ o, H a = some o → H' a = some o) ∧ Hs' a = none
  nw : ∀ a, B'.nw a → B.nw a ∧ a ∉ g
theorem Sl.aside {g : List Addr} (sl : Sl K B Hs H σ ρ) (fe : FeetOk K B Hs H σ ρ F) (th : ∀ a ∈ g, OwnAt H a ∧ Hs a = none) (nf : ∀ j, ∀ a ∈ g, a ∉ F j) : ∃ B', Sl K B' Hs H σ ρ ∧ Aside K B B' Hs H σ g := by
  refine ⟨_, (sl.inner fe).1, rfl, fun Hs' H' ρ' s' => (sl.outer fe s').1, fun Hs' H' ρ' F' s' f' => ⟨(sl.outer fe s').2 F' f', fun j a m => ?_⟩, fun Hs' H' ρ' s' a m => ?_, fun a z => ⟨(inB_may sl fe).1 z, fun m => ?_⟩⟩
  · obtain ⟨⟨o, e, nt⟩, n⟩ := th a m
    exact (s'.floats e nt n fun j => nf j a m).2.2 F' f' j
  · obtain ⟨⟨o, e, nt⟩, n⟩ := th a m
    obtain ⟨h1, h2, _⟩ := s'.floats e nt n fun j => nf j a m
    exact ⟨fun o' e' => by rw [e] at e'; cases e'; exact h1, h2⟩
  · obtain ⟨⟨o, e, nt⟩, n⟩ := th a m
    rcases z with z | ⟨j, s, b, _, z⟩
    · have z : H a = none := z
      rw [e] at z; cases z
    · exact nf j a m z
/-- nobody owns these -/
def Nobs (K : Fg) (B : Bs) (Hs H : Hp) (σ : L2.St) (ρ : En) (g : List Addr) : Prop := ∃ F, FeetOk K B Hs H σ ρ F ∧ ∀ j, ∀ a ∈ g, a ∉ F j
end
def tT (K : Fg) (mg : MG) (B : Bs) (W : WX) (f : CF) : TE := fun σ H Q => ∃ Hs ρ, Sl K B Hs H σ ρ ∧
  OP K mg B W σ Hs (fun d ρ' Hs' H' => ∀ p f, TreP K B.pin Hs' H' p d f → (∀ a ∈ f, B.nw a) → Nobs K B Hs' H' σ ρ' f → Q (.ref p) H') (f ρ)
abbrev PT' (X : Cx) (B : Bs) (W : WX) (e : Expr) (f : CF) : Prop := PE X e (tT X.K X.mg B W f)
def tTl (K : Fg) (mg : MG) (B : Bs) (W : WX) (f : En → O (List D)) : TA := fun σ H Q => ∃ Hs ρ, Sl K B Hs H σ ρ ∧
  OP K mg B W σ Hs (fun ds ρ' Hs' H' => ∀ vs g, TreA K B.pin Hs' H' vs ds g → g.Nodup → (∀ a ∈ g, B.nw a) → Nobs K B Hs' H' σ ρ' g → Q vs H') (f ρ)
abbrev PTl (X : Cx) (B : Bs) (W : WX) (es : List Expr) (f : En → O (List D)) : Prop := PA X es (tTl X.K X.mg B W f)
section
variable {K : Fg} {P : Pin} {B : Bs} {Hs H : Hp}
theorem TreA.ofRep : ∀ {vs : List V} {ds : List D}, RepA K Hs vs ds → TreA K P Hs H vs ds []
  | _, _, .nil => .nil
  | _, _, .cons a b => TreA.cons (f := []) (g := []) (.st a) (TreA.ofRep b)
theorem TreK.ofRep : ∀ {vs : List (Key × V)} {ds : List (D × D)}, RepK K Hs vs ds → TreK K P Hs H vs ds []
  | _, _, .nil => .nil
  | _, _, .cons a b => TreK.cons (f := []) (g := []) (.st a) (TreK.ofRep b)
theorem TreT.ofRep : ∀ {vs : List (List Key × V)} {ds : List (D × D)}, RepT K Hs vs ds → TreT K P Hs H vs ds []
  | _, _, .nil => .nil
  | _, _, .cons a b => TreT.cons (f := []) (g := []) (.st a) (TreT.ofRep b)
def isN : D → Bool
  | .dict ((.bool false, .int i) :: _) => i == 2
  | _ => false
theorem Cont.tree {p : Addr} {d : D} (c : Cont K Hs H p d) (nn : isN d = false) (n : Hs p = none) : TreP K P Hs H p d [p] := by
  refine ⟨?_, List.mem_singleton_self p, by simp⟩
  cases d with
  | list ds => obtain ⟨vs, h, r⟩ := c; exact .lst h n (TreA.ofRep r)
  | dict kvs =>
    rcases c with ⟨ks, h, r⟩ | ⟨ks, es, rfl, h, r⟩ | ⟨ys, es, rfl, h, r⟩
    · exact .dK h n (TreK.ofRep r)
    · exact .dT h n (TreT.ofRep r)
    · cases nn
  | _ => exact c.elim
theorem Tre.grow {v : V} {d : D} {f : List Addr} {Hs' H' : Hp} (t : Tre K P Hs H v d f) (g : Grow Hs H Hs' H') : Tre K P Hs' H' v d f := t.mono g.s (fun _ _ z => z) (fun a _ o e => g.h _ _ e) fun a m n => by
  rcases g.new a with q | q | q
  · exact q
  · exact absurd n q
  · exact ((t.there a m).1.nofree q).elim
theorem TreA.grow {v : List V} {d : List D} {f : List Addr} {Hs' H' : Hp} (t : TreA K P Hs H v d f) (g : Grow Hs H Hs' H') : TreA K P Hs' H' v d f := t.mono g.s (fun _ _ z => z) (fun a _ o e => g.h _ _ e) fun a m n => by
  rcases g.new a with q | q | q
  · exact q
  · exact absurd n q
  · exact ((t.there a m).1.nofree q).elim
theorem Nobs.grow {σ : L2.St} {ρ : En} {g : List Addr} {Hs' H' : Hp} (n : Nobs K B Hs H σ ρ g) (sl : Sl K B Hs H σ ρ) (gr : Grow Hs H Hs' H') : Nobs K B Hs' H' σ ρ g := by
  obtain ⟨F, h, q⟩ := n
  exact ⟨F, h.grow sl gr, q⟩
end
/-- a new object, no dict with nested keys -/
def ptN (f : CF) : CF := fun ρ => (f ρ).bind fun d ρ1 => if isN d = true then .bad else .ok d ρ1
def nilT : En → O (List D) := fun ρ => .ok [] ρ
/-- a new object, then the rest -/
def consT (fa : CF) (fr : En → O (List D)) : En → O (List D) := fun ρ => (fa ρ).bind fun d ρ1 => (fr ρ1).bind fun ds ρ2 => .ok (bx d :: ds) ρ2
def lstT (f : En → O (List D)) : CF := fun ρ => (f ρ).bind fun ds ρ1 => if short ds = true then .ok (.list ds) ρ1 else .bad
section
variable {X : Cx} {B : Bs} {W : WX} {a b c e : Expr} {es : List Expr} {pos pos' : Pos} {cf : CF} {fr : En → O (List D)} {x : Str}
theorem pt_c (h : PC' X B W e cf) : PT' X B W e (ptN cf) := PE.imp h fun σ H Q ⟨Hs, ρ, sl, q⟩ => by
  refine ⟨Hs, ρ, sl, OP.imp (OP.bind q) fun d ρ1 Hs1 H1 _ sl1 e1 q1 p n1 n2 n3 cn => ?_⟩
  obtain ⟨F, fe, nF⟩ := n3
  by_cases nn : isN d = true
  case pos => rw [if_pos nn] at q1; exact q1.elim
  rw [if_neg nn] at q1
  have nn : isN d = false := by cases h : isN d with | true => exact absurd h nn | false => rfl
  exact q1 Hs1 H1 sl1 (.refl _) p [p] (cn.tree nn n1) (fun a m => by rw [List.mem_singleton] at m; subst m; exact n2) ⟨F, fe, fun j a m => by rw [List.mem_singleton] at m; subst m; exact nF j⟩
theorem pta_nil : PTl X B W [] nilT := PA.imp pa_nil fun σ H Q ⟨Hs, ρ, sl, q⟩ => by
  obtain ⟨F, fe⟩ := sl.feet
  exact q Hs H sl (.refl _) [] [] .nil List.nodup_nil (fun a m => by cases m) ⟨F, fe, fun j a m => by cases m⟩
theorem pta_cons (ha : PT' X B W e cf) (hr : ∀ B, PTl X B W es fr) (hs : starEach (e :: es) X.env = (false, eval e X.env) :: starEach es X.env := by rfl) : PTl X B W (e :: es) (consT cf fr) := by
  refine PA.imp (pa_cons (t := fun σ H Q => ∃ B, tTl X.K X.mg B W fr σ H Q) ha ⟨fun pos pins s σ H Q I ⟨B', q⟩ => (hr B').run pos pins s σ H Q I q⟩ hs) fun σ H Q ⟨Hs, ρ, sl, q⟩ => ?_
  refine ⟨Hs, ρ, sl, OP.imp (OP.bind q) fun d ρ1 Hs1 H1 _ sl1 e1 q1 p f tp nw ⟨F, fe, nF⟩ => ?_⟩
  obtain ⟨B', slB, A⟩ := sl1.aside fe (fun a m => tp.1.there a m) nF
  refine ⟨B', Hs1, ρ1, slB, ?_⟩
  cases er : fr ρ1 with
  | bad => rw [er] at q1; exact q1.elim
  | er z ρ2 => rw [er] at q1; exact fun cls od Hs2 H2 sl2 es2 eo => q1 cls od Hs2 H2 (A.out Hs2 H2 ρ2 sl2) es2 eo
  | ok ds ρ2 =>
    rw [er] at q1
    intro Hs2 H2 sl2 es2 vs g tA nd nw2 ⟨F2, fe2, nF2⟩
    obtain ⟨fo, nf⟩ := A.feet Hs2 H2 ρ2 F2 sl2 fe2
    have st := A.st Hs2 H2 ρ2 sl2
    have t2 : Tre X.K B.pin Hs2 H2 (.ref p) (bx d) f := tp.1.mono es2 (fun _ _ z => z) (fun a m o e => (st a m).1 o e) fun a m _ => (st a m).2
    rw [A.pin] at tA
    refine q1 Hs2 H2 (A.out Hs2 H2 ρ2 sl2) es2 (.ref p :: vs) (f ++ g) (.cons t2 tA) (List.nodup_append.mpr ⟨tp.2.2, nd, fun x mx y my z => ?_⟩) (fun a m => ?_) ⟨F2, fo, fun j a m => ?_⟩
    · subst z
      exact (A.nw _ (nw2 _ my)).2 mx
    · rcases List.mem_append.mp m with m | m
      · exact nw a m
      · exact (A.nw a (nw2 a m)).1
    · rcases List.mem_append.mp m with m | m
      · exact nf j a m
      · exact nF2 j a m
theorem pt_lst (h : PTl X B W es fr) : PT' X B W (.List es pos) (lstT fr) := PE.imp (pe_lst h) fun σ H Q ⟨Hs, ρ, sl, q⟩ => by
  refine ⟨Hs, ρ, sl, OP.imp (OP.bind q) fun ds ρ1 Hs1 H1 _ sl1 e1 q1 vs g tA nd nw nb => ?_⟩
  by_cases c : short ds = true
  · rw [if_pos c] at q1
    refine ⟨short_ok c tA.len, fun p np => ?_⟩
    have gr : Grow Hs1 H1 Hs1 (upd H1 p (.lst vs)) := Grow.loose sl1.sub np
    obtain ⟨f1, f2, _⟩ := sl1.fresh np
    have ng : p ∉ g := fun m => by
      obtain ⟨⟨o, e, _⟩, _⟩ := tA.there p m
      rw [np] at e; cases e
    obtain ⟨F, fe, nF⟩ := nb
    have np' : ∀ j, p ∉ F j := fun j m => by
      cases e : ρ1[j]? with
      | none => rw [fe.out j e] at m; cases m
      | some s =>
        obtain ⟨y, ey⟩ := sl_var sl1 e
        obtain ⟨⟨u, z, _⟩, _⟩ := (fe.at_ j y s ey e).there (sl1.ok j y s ey e) p m
        rw [np] at z; cases z
    refine q1 _ _ (sl1.grow gr) (.refl _) p (p :: g) ⟨.lst upd_same f1 (tA.grow gr), List.mem_cons_self, List.nodup_cons.mpr ⟨ng, nd⟩⟩ (fun a m => ?_) ⟨F, fe.grow sl1 gr, fun j a m => ?_⟩
    · rcases List.mem_cons.mp m with rfl | m
      · exact f2
      · exact nw a m
    · rcases List.mem_cons.mp m with rfl | m
      · exact np' j
      · exact nF j a m
  · rw [if_neg c] at q1; exact q1.elim
/-- x = a new tree -/
def asgTr (i : Nat) (f : CF) : SF := fun ρ => (f ρ).then fun d ρ1 => .nx (ρ1.set i (.tre d))
theorem psd_setT {i : Nat} (hN : X.N.Nodup) (hi : X.N[i]? = some x) (hx : Loc X.env.scope x) (he : PT' X B W e cf) (hs : swapsWith e (some (.Name x pos')) pos.line X.env = pure false := by rfl)
    (hf : X.fn x = true ∨ X.env.scope.names.lookup x = some .local := by first | exact .inl rfl | exact .inr rfl | assumption) : PSD X B W (.Assign [.Name x pos'] e pos) (asgTr i cf) :=
  PS.imp (ps_set hN hi hx he hs hf) fun D' σ H ⟨Hs, ρ, sl, q⟩ => by
  refine ⟨Hs, ρ, sl, OP.imp (OP.stm q) fun d ρ1 Hs1 H1 _ sl1 e1 q1 p f tp nw ⟨F, fe, nF⟩ => ?_⟩
  exact q1 _ Hs1 H1 (sl1.store (s := .tre d) ⟨p, f, rfl, tp, nw⟩ fun _ => ⟨f, ⟨p, rfl, tp, nw⟩, F, fe, fun j _ a m => nF j a m⟩) (.refl _)
end
mutual
def strip : D → D
  | .dict [(.bool true, .list ds)] => .list (stripA ds)
  | .dict [(.bool true, .dict kvs)] => .dict (stripK kvs)
  | d => d
def stripA : List D → List D
  | [] => []
  | d :: ds => strip d :: stripA ds
def stripK : List (D × D) → List (D × D)
  | [] => []
  | (k, d) :: ds => (k, strip d) :: stripK ds
end
end DL
namespace DL
open PySem PySem.Spec PyProof.Rows L2
section
variable {K : Fg} {P : Pin} {B : Bs} {Hs H Hs' : Hp} {σ : L2.St} {ρ : En} {F : Nat → List Addr}
theorem strip_rep {v : V} {d : D} (r : Rep K H v d) : strip d = d := by
  unfold strip
  split
  · exact (r.nobx).elim
  · exact (r.nobx).elim
  · rfl
mutual
theorem Tre.frozen (e : Same Hs Hs') : ∀ {v : V} {d : D} {f : List Addr}, Tre K P Hs H v d f → (∀ a ∈ f, ∀ o, H a = some o → Hs' a = some o) → Rep K Hs' v (strip d)
  | _, _, _, .st r, _ => by rw [strip_rep r]; exact r.mono e
  | _, _, _, .lst h n r, k => by
    unfold bx strip
    exact .lst (k _ List.mem_cons_self _ h) (TreA.frozen e r fun a m => k a (List.mem_cons_of_mem _ m))
  | _, _, _, .dK h n r, k => by
    unfold bx strip
    exact .dK (.inl (k _ List.mem_cons_self _ h)) (TreK.frozen e r fun a m => k a (List.mem_cons_of_mem _ m))
  | _, _, _, .dT h n r, k => by
    unfold bx strip tagT stripK strip
    exact .dT (.inl (k _ List.mem_cons_self _ h)) (TreT.frozen e r fun a m => k a (List.mem_cons_of_mem _ m))
  | _, _, _, .ins h h2 n n2 r, k => by
    unfold bx strip stripK strip
    exact .ins (k _ List.mem_cons_self _ h) (k _ (List.mem_cons_of_mem _ List.mem_cons_self) _ h2) (TreI.frozen e r fun a m => k a (List.mem_cons_of_mem _ (List.mem_cons_of_mem _ m)))
theorem TreA.frozen (e : Same Hs Hs') : ∀ {v : List V} {d : List D} {f : List Addr}, TreA K P Hs H v d f → (∀ a ∈ f, ∀ o, H a = some o → Hs' a = some o) → RepA K Hs' v (stripA d)
  | _, _, _, .nil, _ => .nil
  | _, _, _, .cons a b, k => .cons (Tre.frozen e a fun c m => k c (List.mem_append_left _ m)) (TreA.frozen e b fun c m => k c (List.mem_append_right _ m))
theorem TreK.frozen (e : Same Hs Hs') : ∀ {v : List (Key × V)} {d : List (D × D)} {f : List Addr}, TreK K P Hs H v d f → (∀ a ∈ f, ∀ o, H a = some o → Hs' a = some o) → RepK K Hs' v (stripK d)
  | _, _, _, .nil, _ => .nil
  | _, _, _, .cons a b, k => .cons (Tre.frozen e a fun c m => k c (List.mem_append_left _ m)) (TreK.frozen e b fun c m => k c (List.mem_append_right _ m))
theorem TreT.frozen (e : Same Hs Hs') : ∀ {v : List (List Key × V)} {d : List (D × D)} {f : List Addr}, TreT K P Hs H v d f → (∀ a ∈ f, ∀ o, H a = some o → Hs' a = some o) → RepT K Hs' v (stripK d)
  | _, _, _, .nil, _ => .nil
  | _, _, _, .cons a b, k => .cons (Tre.frozen e a fun c m => k c (List.mem_append_left _ m)) (TreT.frozen e b fun c m => k c (List.mem_append_right _ m))
theorem TreI.frozen (e : Same Hs Hs') : ∀ {v : List (Str × V)} {d : List (D × D)} {f : List Addr}, TreI K P Hs H v d f → (∀ a ∈ f, ∀ o, H a = some o → Hs' a = some o) → RepI K Hs' v (stripK d)
  | _, _, _, .nil, _ => .nil
  | _, _, _, .cons a b, k => .cons (Tre.frozen e a fun c m => k c (List.mem_append_left _ m)) (TreI.frozen e b fun c m => k c (List.mem_append_right _ m))
end
/-- the stable heap with these as they stand -/
def frzH (Hs H : Hp) (g : List Addr) : Hp := fun a => if a ∈ g then H a else Hs a
theorem frz_same {g : List Addr} (n : ∀ a ∈ g, Hs a = none) : Same Hs (frzH Hs H g) := fun b o e => by
  unfold frzH
  by_cases h : b ∈ g
  · rw [n b h] at e; cases e
  · rw [if_neg h]; exact e
theorem frz_in {g : List Addr} {a : Addr} (h : a ∈ g) : frzH Hs H g a = H a := if_pos h
/-- the stable heap takes objects that nobody owns -/
theorem Sl.takes0 {g : List Addr} (sl : Sl K B Hs H σ ρ) (th : ∀ a ∈ g, Hs a = none) (z : ∀ a ∈ g, B.nw a) (h : FeetOk K B Hs H σ ρ F) (nF : ∀ j, ∀ a ∈ g, a ∉ F j) : Sl K B (frzH Hs H g) H σ ρ ∧ FeetOk K B (frzH Hs H g) H σ ρ F := by
  have sm : Same Hs (frzH Hs H g) := frz_same th
  have st : ∀ i, ∀ c ∈ F i, Hs c = none → frzH Hs H g c = none := fun i c hc q => by
    unfold frzH
    rw [if_neg fun m => nF i c m hc]
    exact q
  have fe : FeetOk K B (frzH Hs H g) H σ ρ F := ⟨fun i x s a b => (h.at_ i x s a b).mono sm (fun _ _ _ e => e) (st i), h.out, h.dis⟩
  exact ⟨{
    len := sl.len
    ok := fun i x s a b => (sl.ok i x s a b).stays (h.at_ i x s a b) sm (fun _ _ _ e => e) (st i)
    sub := fun b u h => by
      unfold frzH at h
      by_cases hb : b ∈ g
      · rw [if_pos hb] at h; exact h
      · rw [if_neg hb] at h; exact sl.sub _ _ h
    base := sl.base.trans sm
    new := fun a => by
      by_cases hb : a ∈ g
      · exact .inr (.inr (.inl (z a hb)))
      · unfold frzH
        rw [if_neg hb]
        exact sl.new a
    keep := sl.keep
    there := sl.there
    feet := ⟨F, fe⟩ }, fe⟩
theorem Sl.takes {g : List Addr} (sl : Sl K B Hs H σ ρ) (th : ∀ a ∈ g, Hs a = none) (z : ∀ a ∈ g, B.nw a) (nb : Nobs K B Hs H σ ρ g) : Sl K B (frzH Hs H g) H σ ρ := by
  obtain ⟨F, h, nF⟩ := nb
  exact (sl.takes0 th z h nF).1
theorem Sl.freezeT {i : Nat} {d : D} (sl : Sl K B Hs H σ ρ) (h : ρ[i]? = some (.tre d)) : ∃ p Hs', σ[i]? = some (some (.ref p)) ∧ Same Hs Hs' ∧ Sl K B Hs' H σ (ρ.set i (.val (strip (bx d)))) ∧ Rep K Hs' (.ref p) (strip (bx d)) := by
  obtain ⟨F, fe⟩ := sl.feet
  obtain ⟨x, ex⟩ := sl_var sl h
  obtain ⟨p, rfl, t, nw⟩ := fe.at_ i x _ ex h
  have th : ∀ a ∈ F i, Hs a = none := fun a m => (t.1.there a m).2
  have nb : Nobs K B Hs H σ (ρ.set i .un) (F i) := ⟨_, fe.reslot (i := i) (s := .un) rfl, fun j a m z => by
    by_cases e : i = j
    · rw [if_pos e] at z; cases z
    · rw [if_neg e] at z
      exact fe.dis i j e a m z⟩
  have s2 := (sl.reslot (i := i) (s := .un) (fun _ _ => trivial) rfl).takes th nw nb
  have r : Rep K (frzH Hs H (F i)) (.ref p) (strip (bx d)) := t.1.frozen (frz_same th) fun a m o e => by rw [frz_in m]; exact e
  have s3 := s2.reslot (i := i) (s := .val (strip (bx d))) (fun y hy => by
    rw [ex] at hy; cases hy
    exact ⟨_, rfl, r⟩) rfl
  rw [List.set_set] at s3
  exact ⟨p, _, ex, frz_same th, s3, r⟩
end
/-- a tree handed out for good -/
def frzT (i : Nat) : EF := fun ρ => match ρ[i]? with
  | some (.tre d) => .ok (.st (strip (bx d))) (ρ.set i (.val (strip (bx d))))
  | _ => .bad
/-- recv[idx], its item a tree: data that stay from now on -/
def frzIx (i : Nat) (g : En → Option (List Nat)) (h : En → Option D) : EF := fun ρ => match ρ[i]?, g ρ, h ρ with
  | some (.tre d), some path, some (.int k) => (match getIn d path with
    | some (.list ds) => (match ixN ds.length k with
      | some j => (match ds[j]? with
        | some x => .ok (.st (strip x)) (ρ.set i (.tre (setIn d path (.list (ds.set j (strip x))))))
        | none => .bad)
      | none => .bad)
    | _ => .bad)
  | _, _, _ => .bad
/-- recv[idx] = e -/
def setR (i : Nat) (g : En → Option (List Nat)) (h : En → Option D) (fa : EF) : SF := fun ρ => (fa ρ).then fun x ρ1 => match x, ρ1[i]?, g ρ1, h ρ1 with
  | .st z, some s, some path, some (.int k) => (match s.tree with
    | some d => (match getIn d path with
      | some (.list ds) => (match ixN ds.length k with
        | some j => .nx (ρ1.set i (s.putT (setIn d path (.list (ds.set j z)))))
        | none => .bad)
      | _ => .bad)
    | none => .bad)
  | _, _, _, _ => .bad
section
variable {X : Cx} {B : Bs} {W : WX} {a b c e : Expr} {st : Stmt} {es : List Expr} {pos : Pos} {h h2 : En → Option D} {i : Nat} {g : En → Option (List Nat)} {fa : EF}
theorem pdA (h : ∀ B, PD X B W e fa) : PE X e (fun σ H Q => ∃ B', tD X.K X.mg B' W fa σ H Q) := ⟨fun pins s σ H Q I ⟨B', q⟩ => (h B').run pins s σ H Q I q⟩
theorem pd_fT {i : Nat} (he : PE X e (tVar i)) : PD X B W e (frzT i) := PE.imp he fun σ H Q ⟨Hs, ρ, sl, q⟩ => by
  unfold frzT at q
  cases es : ρ[i]? with
  | none => rw [es] at q; exact q.elim
  | some s =>
    rw [es] at q
    cases s <;> first | exact q.elim | skip
    rename_i d
    obtain ⟨p, Hs', ep, sm, sl', r⟩ := sl.freezeT es
    exact ⟨_, ep, q Hs' H sl' sm _ r⟩
theorem ix_len {n : Nat} {k : Int} {j : Nat} (h : ixN n k = some j) : j < n := by
  unfold ixN at h
  split at h
  · split at h <;> first | (cases h; omega) | cases h
  · split at h <;> first | (cases h; omega) | cases h
theorem psd_setR (hh : PS X st (tAsg (tD X.K X.mg B W fa) (gSub (tRQ X.K B i g) (tQ X.K B h) rSetL))) : PSD X B W st (setR i g h fa) :=
  PS.imp hh fun D' σ H ⟨Hs, ρ, sl, q⟩ => by
  refine ⟨Hs, ρ, sl, OP.imp (OP.stm q) fun x ρ1 Hs1 H1 _ sl1 e1 q1 u hu => ?_⟩
  cases x <;> first | exact q1.elim | skip
  rename_i z ez
  clear ez
  cases e0 : ρ1[i]? with
  | none => rw [e0] at q1; exact q1.elim
  | some s =>
    cases e2 : g ρ1 with
    | none => rw [e0, e2] at q1; exact q1.elim
    | some path =>
      cases e3 : h ρ1 with
      | none => rw [e0, e2, e3] at q1; exact q1.elim
      | some y =>
        rw [e0, e2, e3] at q1
        cases y <;> first | exact q1.elim | skip
        rename_i k
        dsimp only at q1
        cases e4 : s.tree with
        | none => rw [e4] at q1; exact q1.elim
        | some d =>
          rw [e4] at q1
          dsimp only at q1
          cases e5 : getIn d path with
          | none => rw [e5] at q1; exact q1.elim
          | some c0 =>
            rw [e5] at q1
            cases c0 <;> first | exact q1.elim | skip
            rename_i ds
            dsimp only at q1
            cases e6 : ixN ds.length k with
            | none => rw [e6] at q1; exact q1.elim
            | some j =>
              rw [e6] at q1
              obtain ⟨p, qa, f, fc, fo⟩ := sl1.foc e0 e4 e5
              obtain ⟨vs, gg, hq, nq, ef, tA⟩ := fo.t.lstOf
              refine ⟨Hs1, ρ1, s, d, path, p, sl1, e0, e4, fo.hp, e2, fun v hv => ?_⟩
              rw [fo.hv] at hv
              cases hv
              refine ⟨Hs1, ρ1, _, sl1, e3, fun w hw => ⟨qa, vs, k, j, rfl, Shal.int (H := Hs1) (.inl hw), hq, by rw [tA.len]; exact e6, ?_⟩⟩
              have hj : ds[j]? = some (ds[j]'(ix_len e6)) := List.getElem?_eq_getElem (ix_len e6)
              obtain ⟨v0, f1, fk, f2, hv0, eg, tk, cl⟩ := tA.at_ hj
              have nodup := fo.nd
              rw [ef, eg] at nodup
              have inG : ∀ a, a ∈ f1 ++ f2 → a ∈ fc ∧ a ≠ qa := fun a m => by
                rw [ef, eg]
                have m' : a ∈ f1 ++ (fk ++ f2) := by
                  rcases List.mem_append.mp m with m | m
                  · exact List.mem_append_left _ m
                  · exact List.mem_append_right _ (List.mem_append_right _ m)
                exact ⟨List.mem_cons_of_mem _ m', fun z => (List.nodup_cons.mp nodup).1 (by rw [← z]; exact m')⟩
              have st0 : ∀ a ∈ f, (∀ o, H1 a = some o → H1 a = some o) ∧ Hs1 a = none := fun a m => ⟨fun o e => e, (fo.th a m).2⟩
              have tN : Tre X.K B.pin Hs1 (L2.upd H1 qa (.lst (vs.set j u))) (.ref qa) (bx (.list (ds.set j z))) (qa :: (f1 ++ ([] ++ f2))) :=
                .lst L2.upd_same nq (cl Hs1 _ (.refl _) (fun a m => ⟨fun o e => by rw [L2.upd_ne (inG a m).2]; exact e, (fo.th a (fo.inF a (inG a m).1)).2⟩) u z [] (.st hu))
              rw [List.nil_append] at tN
              obtain ⟨F, fe, nF⟩ := fo.feet
              have sl2 := fo.write fo.hid ⟨F, fe, nF, fun jj a m => ?_⟩ (.refl _) st0 (by rw [ef]; exact List.mem_cons_self) tN ?_ fun a m => ?_
              · rw [List.set_set] at sl2
                exact q1 σ Hs1 _ sl2 (.refl _)
              · rcases List.mem_cons.mp m with rfl | m
                · exact nF jj _ (fo.inF _ (by rw [ef]; exact List.mem_cons_self))
                · exact nF jj a (fo.inF a (inG a m).1)
              · obtain ⟨n0, n1⟩ := List.nodup_cons.mp nodup
                obtain ⟨n2, n3, n4⟩ := List.nodup_append.mp n1
                obtain ⟨_, n5, _⟩ := List.nodup_append.mp n3
                exact List.nodup_cons.mpr ⟨fun m => (inG qa m).2 rfl, List.nodup_append.mpr ⟨n2, n5, fun x mx y my => n4 x mx y (List.mem_append_right _ my)⟩⟩
              · rcases List.mem_cons.mp m with rfl | m
                · exact .inl (by rw [ef]; exact List.mem_cons_self)
                · exact .inl (inG a m).1
theorem pd_frzIx (ha : PRQ X B a i g) (hb : PQ X B b h) (hs : PlainIx b) : PD X B W (.Subscript a b pos) (frzIx i g h) :=
  PE.imp (pe_ix ix_list ha hb hs) fun σ H Q ⟨Hs, ρ, sl, q⟩ => by
  unfold frzIx at q
  cases e0 : ρ[i]? with
  | none => rw [e0] at q; exact q.elim
  | some s =>
    cases e2 : g ρ with
    | none => rw [e0, e2] at q; cases s <;> exact q.elim
    | some path =>
      cases e3 : h ρ with
      | none => rw [e0, e2, e3] at q; cases s <;> exact q.elim
      | some y =>
        rw [e0, e2, e3] at q
        cases s <;> first | exact q.elim | skip
        rename_i d
        cases y <;> first | exact q.elim | skip
        rename_i k
        dsimp only at q
        cases e5 : getIn d path with
        | none => rw [e5] at q; exact q.elim
        | some c0 =>
          rw [e5] at q
          cases c0 <;> first | exact q.elim | skip
          rename_i ds
          dsimp only at q
          cases e6 : ixN ds.length k with
          | none => rw [e6] at q; exact q.elim
          | some j =>
            rw [e6] at q
            dsimp only at q
            cases e7 : ds[j]? with
            | none => rw [e7] at q; exact q.elim
            | some x =>
              rw [e7] at q
              dsimp only at q
              obtain ⟨p, qa, f, fc, fo⟩ := sl.foc e0 rfl e5
              obtain ⟨vs, gg, hq, nq, ef, tA⟩ := fo.t.lstOf
              obtain ⟨v0, f1, fk, f2, hv0, eg, tk, cl⟩ := tA.at_ e7
              have nodup := fo.nd
              rw [ef, eg] at nodup
              have inG : ∀ a, a ∈ f1 ++ f2 → a ∈ fc ∧ a ≠ qa ∧ a ∉ fk := fun a m => by
                rw [ef, eg]
                obtain ⟨n0, n1⟩ := List.nodup_cons.mp nodup
                obtain ⟨n2, n3, n4⟩ := List.nodup_append.mp n1
                obtain ⟨n5, n6, n7⟩ := List.nodup_append.mp n3
                rcases List.mem_append.mp m with m | m
                · exact ⟨List.mem_cons_of_mem _ (List.mem_append_left _ m), fun z => n0 (by rw [← z]; exact List.mem_append_left _ m), fun z => n4 a m a (List.mem_append_left _ z) rfl⟩
                · exact ⟨List.mem_cons_of_mem _ (List.mem_append_right _ (List.mem_append_right _ m)), fun z => n0 (by rw [← z]; exact List.mem_append_right _ (List.mem_append_right _ m)), fun z => n7 a z a m rfl⟩
              have inK : ∀ a, a ∈ fk → a ∈ fc ∧ a ≠ qa := fun a m => by
                rw [ef, eg]
                have m' : a ∈ f1 ++ (fk ++ f2) := List.mem_append_right _ (List.mem_append_left _ m)
                exact ⟨List.mem_cons_of_mem _ m', fun z => (List.nodup_cons.mp nodup).1 (by rw [← z]; exact m')⟩
              refine ⟨Hs, ρ, _, d, path, p, sl, e0, rfl, fo.hp, e2, fun v hv => ?_⟩
              rw [fo.hv] at hv
              cases hv
              refine ⟨Hs, ρ, _, sl, e3, fun w hw => ⟨qa, vs, k, v0, rfl, Shal.int (H := Hs) (.inl hw), .inl (.inl hq), ?_, ?_⟩⟩
              · unfold L2.atI
                rw [tA.len, e6, Option.bind_some]
                exact hv0
              · -- the item stays from now on
                have th : ∀ a ∈ fk, Hs a = none := fun a m => (fo.th a (fo.inF a (inK a m).1)).2
                have sm : Same Hs (frzH Hs H fk) := frz_same th
                have nwk : ∀ a ∈ fk, B.nw a := fun a m => fo.mayT d rfl a (fo.inF a (inK a m).1)
                obtain ⟨F, fe, nF⟩ := fo.feet
                obtain ⟨sl2, fe2⟩ := fo.hid.takes0 th nwk fe fun jj a m => nF jj a (fo.inF a (inK a m).1)
                have out : ∀ a, a ∉ fk → Hs a = none → frzH Hs H fk a = none := fun a m n => by
                  unfold frzH
                  rw [if_neg m]; exact n
                have rx := tk.frozen sm fun a m o e => by rw [frz_in m]; exact e
                have qk : qa ∉ fk := fun m => (inK qa m).2 rfl
                have tA' := cl (frzH Hs H fk) H sm (fun a m => ⟨fun o e => e, out a (inG a m).2.2 (fo.th a (fo.inF a (inG a m).1)).2⟩) v0 (strip x) [] (.st rx)
                rw [show vs.set j v0 = vs from by
                  refine List.ext_getElem? fun n => ?_
                  by_cases hi : j = n
                  · subst hi
                    have hl := (List.getElem?_eq_some_iff.mp hv0).1
                    rw [List.getElem?_set_self hl, hv0]
                  · rw [List.getElem?_set_ne hi], List.nil_append] at tA'
                have tN : Tre X.K B.pin (frzH Hs H fk) H (.ref qa) (bx (.list (ds.set j (strip x)))) (qa :: (f1 ++ f2)) := .lst hq (out qa qk nq) tA'
                have sl3 := fo.back (frzH Hs H fk) H _ (.list (ds.set j (strip x))) _ sl2 ⟨F, fe2, nF, fun jj a m => ?_⟩ sm (fun a m m2 => ⟨fun o e => e, out a (fun z => m2 (inK a z).1) (fo.th a m).2⟩) tN ?_ fun a m => ?_
                · rw [List.set_set] at sl3
                  exact q (frzH Hs H fk) H sl3 sm v0 rx
                · rcases List.mem_cons.mp m with rfl | m
                  · exact nF jj _ (fo.inF _ (by rw [ef]; exact List.mem_cons_self))
                  · exact nF jj a (fo.inF a (inG a m).1)
                · obtain ⟨n0, n1⟩ := List.nodup_cons.mp nodup
                  obtain ⟨n2, n3, n4⟩ := List.nodup_append.mp n1
                  obtain ⟨_, n5, _⟩ := List.nodup_append.mp n3
                  exact List.nodup_cons.mpr ⟨fun m => (inG qa m).2.1 rfl, List.nodup_append.mpr ⟨n2, n5, fun x mx y my => n4 x mx y (List.mem_append_right _ my)⟩⟩
                · rcases List.mem_cons.mp m with rfl | m
                  · exact .inl (by rw [ef]; exact List.mem_cons_self)
                  · exact .inl (inG a m).1
end
end DL
namespace DL
open PySem PySem.Spec PyProof.Rows L2
def compLoopT (t : Tg) (vs : List Nat) (tt : BF) (te : CF) : List D → En → O (List D)
  | [], ρ => .ok [] ρ
  | d :: ds, ρ => match t.put d ρ with
    | none => .bad
    | some ρ1 => (noEr (tt ρ1)).bind fun b ρ2 => if b = true then (noEr (te ρ2)).bind fun z ρ3 => (compLoopT t vs tt te ds (wipeE ρ3 vs)).bind fun zs ρ4 => .ok (bx z :: zs) ρ4
      else compLoopT t vs tt te ds (wipeE ρ2 vs)
def compT (t : Tg) (vs : List Nat) (src : En → O (List D)) (tt : BF) (te : CF) : CF := fun ρ => (src ρ).bind fun ds ρ1 => (noEr (compLoopT t vs tt te ds (wipeE ρ1 vs))).bind fun zs ρ2 => if short zs = true then .ok (.list zs) ρ2 else .bad
def tTE (K : Fg) (mg : MG) (f : CF) : TE := fun σ H Q => ∃ B, tT K mg B W0 f σ H Q
section
variable {K : Fg} {B : Bs} {Hs H : Hp} {σ : L2.St} {ρ : En}
theorem Nobs.wiped {g : List Addr} (n : Nobs K B Hs H σ ρ g) : ∀ vs : List Nat, Nobs K B Hs H (wipe σ vs) (wipeE ρ vs) g
  | [] => n
  | v :: vs => by
    obtain ⟨F, h, q⟩ := n.wiped vs
    exact ⟨_, h.forget1, fun j a m z => by
      by_cases e : v = j
      · rw [if_pos e] at z; cases z
      · rw [if_neg e] at z; exact q j a m z⟩
theorem TreA.snocT {P : Pin} {v : V} {d : D} {f : List Addr} : ∀ {vs : List V} {ds : List D} {g : List Addr}, TreA K P Hs H vs ds g → Tre K P Hs H v d f → TreA K P Hs H (vs ++ [v]) (ds ++ [d]) (g ++ f)
  | _, _, _, .nil, t => by
    have := TreA.cons t (TreA.nil (K := K) (P := P) (Hs := Hs) (H := H))
    rwa [List.append_nil] at this
  | _, _, _, .cons (f := f1) (g := g1) a b, t => by
    rw [List.append_assoc]
    exact TreA.cons (f := f1) (g := g1 ++ f) a (b.snocT t)
end
section
variable {X : Cx} {B : Bs} {W : WX} {elt tg iter : Expr} {ifs : List Expr} {scope : Scope} {own : List (Str × Nat)} {pos : Pos} {t : Tg} {src : En → O (List D)} {tt : BF} {fe : CF}
theorem comp_readT {σ : L2.St} {H : Hp} {Q : VK} {vs : List Nat} (hv : ∀ i ∈ t.at, i ∈ vs) (h : tT X.K X.mg B W (compT t vs src tt fe) σ H Q) : tLc (tID X.K X.mg B W src) (tgA X.K t) (tTA X.K X.mg tt) (tTE X.K X.mg fe) vs σ H Q := by
  obtain ⟨Hs, ρ, sl, q⟩ := h
  refine ⟨Hs, ρ, sl, OP.imp (OP.bind q) fun ds ρ1 Hs1 H1 _ sl1 e1 q1 J w Dl nD => ?_⟩
  have q1 := q1
  obtain ⟨f1, f2, f3⟩ := sl1.fresh nD
  let Fin : List D → O (List D) → Prop := fun acc o => match o with
    | .ok zs ρ2 => (acc ++ zs).length ≤ 100000 ∧ ∀ Hs' H' p f, Sl X.K B Hs' H' σ ρ2 → Same Hs1 Hs' → TreP X.K B.pin Hs' H' p (.list (acc ++ zs)) f → (∀ a ∈ f, B.nw a) → Nobs X.K B Hs' H' σ ρ2 f → Q (.ref p) H'
    | _ => False
  have fin0 : Fin [] (compLoopT t vs tt fe ds (wipeE ρ1 vs)) := by
    cases ec : compLoopT t vs tt fe ds (wipeE ρ1 vs) with
    | er e r => rw [ec] at q1; exact q1.elim
    | bad => rw [ec] at q1; exact q1.elim
    | ok zs ρ2 =>
      rw [ec] at q1
      unfold DL.noEr O.bind at q1
      dsimp only at q1
      by_cases c : short zs = true
      · rw [if_pos c] at q1
        exact ⟨of_decide_eq_true c, fun Hs' H' p f a b c d e => q1 Hs' H' a b p f c d e⟩
      · rw [if_neg c] at q1; exact q1.elim
  have g0 : Grow Hs1 H1 Hs1 (upd H1 Dl (.lst [])) := Grow.loose sl1.sub nD
  have nb0 : Nobs X.K B Hs1 (upd H1 Dl (.lst [])) (wipe σ vs) (wipeE ρ1 vs) [Dl] := by
    obtain ⟨F, h0, h1⟩ := f3
    have n0 : Nobs X.K B Hs1 H1 σ ρ1 [Dl] := ⟨F, h0, fun j a m => by rw [List.mem_singleton] at m; subst m; exact h1 j⟩
    exact Nobs.wiped (Nobs.grow n0 sl1 g0) vs
  refine ⟨fun i m H' => m = ds.length - i ∧ i ≤ ds.length ∧ ∃ Hs' ρ' acc us g, Same Hs1 Hs' ∧ Sl X.K B Hs' H' (wipe σ vs) (wipeE ρ' vs) ∧ H' Dl = some (.lst us) ∧ Hs' Dl = none ∧ TreA X.K B.pin Hs' H' us acc g ∧ (Dl :: g).Nodup ∧ (∀ a ∈ Dl :: g, B.nw a) ∧ Nobs X.K B Hs' H' (wipe σ vs) (wipeE ρ' vs) (Dl :: g) ∧ Fin acc (compLoopT t vs tt fe (ds.drop i) (wipeE ρ' vs)),
    ⟨ds.length, rfl, Nat.zero_le _, Hs1, ρ1, [], [], [], .refl _, (sl1.grow g0).wiped vs, upd_same, f1, .nil, by simp, fun a m => by rw [List.mem_singleton] at m; subst m; exact f2, nb0, fin0⟩, ?_⟩
  rintro i m H2 ⟨rfl, hi, Hs2, ρ2, acc, us, g, s2, sl2, hD2, nd2, tA2, nu2, nw2, nb2, fin2⟩
  have sm : Same Hs1 H2 := s2.trans sl2.sub
  by_cases hlt : i < ds.length
  · refine .inr ⟨w.goes i H2 hlt sm, fun H' => i + 1 ≤ ds.length ∧ ∃ Hs' ρ' acc us g, Same Hs1 Hs' ∧ Sl X.K B Hs' H' (wipe σ vs) (wipeE ρ' vs) ∧ H' Dl = some (.lst us) ∧ Hs' Dl = none ∧ TreA X.K B.pin Hs' H' us acc g ∧ (Dl :: g).Nodup ∧ (∀ a ∈ Dl :: g, B.nw a) ∧ Nobs X.K B Hs' H' (wipe σ vs) (wipeE ρ' vs) (Dl :: g) ∧ Fin acc (compLoopT t vs tt fe (ds.drop (i + 1)) (wipeE ρ' vs)),
      fun H' h => ⟨ds.length - (i + 1), by omega, rfl, h⟩, fun x H3 y => ?_⟩
    obtain ⟨Hs3, gr, r⟩ := w.yields i H2 x H3 ds[i] (by simp [hlt]) sm y Hs2 s2 sl2.sub
    rw [drop_get hlt] at fin2
    unfold compLoopT at fin2
    cases ep : Tg.put t ds[i] (wipeE ρ2 vs) with
    | none => rw [ep] at fin2; exact fin2.elim
    | some ρ3 =>
      rw [ep] at fin2
      dsimp only at fin2
      have sl3 := sl2.grow gr
      have tree2 : Tre X.K B.pin Hs2 H2 (.ref Dl) (bx (.list acc)) (Dl :: g) := .lst hD2 nd2 tA2
      have tree3 := tree2.grow gr
      obtain ⟨F3, fe3, nF3⟩ := Nobs.grow nb2 sl2 gr
      obtain ⟨B', slI, A⟩ := sl3.aside fe3 (fun a m => tree3.there a m) nF3
      refine ⟨B', Hs3, _, _, ρ3, slI, r, ep, fun σ4 sl4 o4 => ?_⟩
      have wq : wipe σ4 vs = wipe σ vs := (wipe_eq (σ := wipe σ vs) (σ' := σ4) ⟨o4.1, fun j hj => o4.2 j fun z => hj (hv j z)⟩).trans (wipe_eq ⟨wipe_length _ _, fun j hj => wipe_out' hj⟩)
      refine ⟨wq, B', Hs3, ρ3, sl4, ?_⟩
      -- what floats stands
      have stands : ∀ {Hs' H' ρ'}, Sl X.K B' Hs' H' (wipe σ vs) ρ' → Same Hs3 Hs' → Tre X.K B.pin Hs' H' (.ref Dl) (bx (.list acc)) (Dl :: g) := fun {Hs' H' ρ'} s e => by
        have st := A.st Hs' H' ρ' s
        exact tree3.mono e (fun _ _ z => z) (fun a m o e => (st a m).1 o e) fun a m _ => (st a m).2
      cases et : tt ρ3 with
      | er e z => rw [et] at fin2; exact fin2.elim
      | bad => rw [et] at fin2; exact fin2.elim
      | ok b ρ4 =>
        rw [et] at fin2
        unfold DL.noEr O.bind at fin2
        dsimp only at fin2
        intro Hs5 H5 sl5 e5
        cases b with
        | false =>
          rw [if_neg (by decide)] at fin2
          rw [if_neg (by decide)]
          have sl6 := sl5.wiped vs
          rw [wq] at sl6
          obtain ⟨F6, fe6⟩ := sl6.feet
          obtain ⟨fo, nf⟩ := A.feet _ _ _ F6 sl6 fe6
          obtain ⟨us', g', h1, h2, eg, h3⟩ := (stands sl6 e5).lstOf
          have eg : g' = g := (List.cons.inj eg).2.symm
          subst eg
          exact ⟨hlt, Hs5, ρ4, acc, us', g', (s2.trans gr.s).trans e5, A.out _ _ _ sl6, h1, h2, h3, nu2, nw2, ⟨F6, fo, nf⟩, fin2⟩
        | true =>
          rw [if_pos rfl] at fin2
          rw [if_pos rfl]
          refine ⟨B', Hs5, ρ4, sl5, ?_⟩
          cases ee : fe ρ4 with
          | er e z => rw [ee] at fin2; exact fin2.elim
          | bad => rw [ee] at fin2; exact fin2.elim
          | ok z6 ρ6 =>
            rw [ee] at fin2
            dsimp only at fin2
            intro Hs7 H7 sl7 e7 p7 f7 tp7 nw7 nb7
            have sl8 := sl7.wiped vs
            rw [wq] at sl8
            have nb8 := Nobs.wiped nb7 vs
            rw [wq] at nb8
            obtain ⟨F8, fe8, nF8⟩ := nb8
            obtain ⟨fo, nf⟩ := A.feet _ _ _ F8 sl8 fe8
            obtain ⟨us', g', h1, h2, eg, h3⟩ := (stands sl8 (e5.trans e7)).lstOf
            have eg : g' = g := (List.cons.inj eg).2.symm
            subst eg
            cases ec : compLoopT t vs tt fe (ds.drop (i + 1)) (wipeE ρ6 vs) with
            | er e z => rw [ec] at fin2; exact fin2.elim
            | bad => rw [ec] at fin2; exact fin2.elim
            | ok zs ρ10 =>
              rw [ec] at fin2
              obtain ⟨l10, fin10⟩ := fin2
              have h8 : (100000 : Nat) ≤ sizeLine := by decide
              have slo := A.out _ _ _ sl8
              obtain ⟨sl9, fe9⟩ := slo.scratch (o := .lst (us' ++ [.ref p7])) fo (fun j => nf j Dl List.mem_cons_self) h2 (.inl (nw2 Dl List.mem_cons_self)) (fun ⟨_, t⟩ => by rw [h1] at t; cases t)
              have nDg : Dl ∉ g' := (List.nodup_cons.mp nu2).1
              have ng : g'.Nodup := (List.nodup_cons.mp nu2).2
              have d7 : ∀ a ∈ f7, a ≠ Dl ∧ a ∉ g' := fun a m => by
                have := (A.nw a (nw7 a m)).2
                exact ⟨fun z => this (by rw [z]; exact List.mem_cons_self), fun z => this (List.mem_cons_of_mem _ z)⟩
              have t7 : Tre X.K B.pin Hs7 H7 (.ref p7) (bx z6) f7 := by rw [← A.pin]; exact tp7.1
              have t9 : Tre X.K B.pin Hs7 (L2.upd H7 Dl (.lst (us' ++ [.ref p7]))) (.ref p7) (bx z6) f7 := t7.mono (.refl _) (fun _ _ z => z) (fun a m o e => by rw [L2.upd_ne (d7 a m).1]; exact e) fun _ _ z => z
              have t10 := (h3.but (Hs1 := Hs7) (H1 := H7) (q := Dl) (o := .lst (us' ++ [.ref p7])) (.refl _) (fun a m => ⟨fun o e => e, (h3.there a m).2⟩) nDg).snocT t9
              refine ⟨us', h1, ?_, hlt, Hs7, ρ6, acc ++ [bx z6], us' ++ [.ref p7], g' ++ f7, (s2.trans gr.s).trans (e5.trans e7), sl9, L2.upd_same, h2, t10, ?_, fun a m => ?_, ⟨F8, fe9, fun j a m => ?_⟩, ?_⟩
              · rw [h3.len]
                rw [List.length_append, List.length_cons] at l10
                omega
              · refine List.nodup_cons.mpr ⟨fun z => ?_, List.nodup_append.mpr ⟨ng, tp7.2.2, fun x mx y my z => ?_⟩⟩
                · rcases List.mem_append.mp z with z | z
                  · exact nDg z
                  · exact (d7 _ z).1 rfl
                · subst z
                  exact (d7 _ my).2 mx
              · rcases List.mem_cons.mp m with rfl | m
                · exact nw2 _ List.mem_cons_self
                · rcases List.mem_append.mp m with m | m
                  · exact nw2 a (List.mem_cons_of_mem _ m)
                  · exact (A.nw a (nw7 a m)).1
              · rcases List.mem_cons.mp m with rfl | m
                · exact nf j _ List.mem_cons_self
                · rcases List.mem_append.mp m with m | m
                  · exact nf j a (List.mem_cons_of_mem _ m)
                  · exact nF8 j a m
              · rw [ec]
                refine ⟨?_, ?_⟩
                · rw [List.append_assoc]; exact l10
                · rw [List.append_assoc]; exact fin10
  · have e : i = ds.length := by omega
    subst e
    rw [List.drop_length] at fin2
    obtain ⟨_, fin3⟩ := fin2
    rw [List.append_nil] at fin3
    obtain ⟨F2, fe2, nF2⟩ := nb2
    exact .inl ⟨w.stops H2 sm, fin3 Hs2 H2 Dl (Dl :: g) sl2.unwipe s2 ⟨.lst hD2 nd2 tA2, List.mem_cons_self, nu2⟩ nw2 ⟨F2, fe2.unwipe sl2, nF2⟩⟩
/-- name = [..] on one line -/
theorem psd_setLcT {i : Nat} {y : Str} {py : Pos} {spos : Pos} (hc : X.calm = true) (hN : X.N.Nodup) (hy : X.N[i]? = some y) (hyl : X.env.scope.names.lookup y = some .local)
    (hsw : swapsWith (.ListComp elt [⟨tg, iter, ifs, 0⟩] scope pos) (some (.Name y py)) spos.line X.env = pure true) (hi : PID X B W tg iter src) (ok : BlkOk X.N X.env.scope scope own)
    (hg : ∀ (s : Shared) (H : Hp) (C : Addr) (cl : List (Str × Addr)) (fp : List Addr) (B : Bs), PG (X.blk s H scope (compEnvC scope cl C X.env) fp) tg (gD X.K B t))
    (ht : ∀ (s : Shared) (H : Hp) (C : Addr) (cl : List (Str × Addr)) (fp : List Addr) (B : Bs), PTs (X.blk s H scope (compEnvC scope cl C X.env) fp) ifs (tTD X.K X.mg B W0 tt))
    (he : ∀ (s : Shared) (H : Hp) (C : Addr) (cl : List (Str × Addr)) (fp : List Addr) (B : Bs), PT' (X.blk s H scope (compEnvC scope cl C X.env) fp) B W0 elt fe)
    (hv : ∀ i ∈ t.at, i ∈ own.map (·.2) := by decide) (hs : ∀ x, foldedSetIterable iter X.env x = pure x := by intro _; rfl) : PSD X B W (.Assign [.Name y py] (.ListComp elt [⟨tg, iter, ifs, 0⟩] scope pos) spos) (asgTr i (compT t (own.map (·.2)) src tt fe)) :=
  PS.imp (ps_setLc (g := tgA X.K t) (tt := tTA X.K X.mg tt) (te := tTE X.K X.mg fe) hc hN hy hyl hsw hi ok (fun s H C cl fp => ⟨fun pins s' σ H' v u Q I r ⟨B, q⟩ => (hg s H C cl fp B).run pins s' σ H' v u Q I r q⟩)
    (fun s H C cl fp => ⟨fun pins s' σ H' Q I ⟨B, q⟩ => (ht s H C cl fp B).run pins s' σ H' Q I q⟩) (fun s H C cl fp => ⟨fun pins s' σ H' Q I ⟨B, q⟩ => (he s H C cl fp B).run pins s' σ H' Q I q⟩) hs) fun D' σ H ⟨Hs, ρ, sl, q⟩ => by
  refine comp_readT hv ⟨Hs, ρ, sl, OP.imp (OP.stm q) fun d ρ1 Hs1 H1 _ sl1 e1 q1 p f tp nw ⟨F, fe, nF⟩ => ?_⟩
  exact q1 _ Hs1 H1 (sl1.store (s := .tre d) ⟨p, f, rfl, tp, nw⟩ fun _ => ⟨f, ⟨p, rfl, tp, nw⟩, F, fe, fun j _ a m => nF j a m⟩) (.refl _)
end
end DL
namespace DL
open PySem PySem.Spec PyProof.Rows L2
def keq1 : D → D → Bool
  | .int i, .int j => decide (i = j)
  | .str x, .str y => decide (x = y)
  | _, _ => false
def keqL : List D → List D → Bool
  | [], [] => true
  | a :: as, b :: bs => keq1 a b && keqL as bs
  | _, _ => false
def keq : D → D → Bool
  | .tuple a, .tuple b => keqL a b
  | a, b => keq1 a b
def lookD (kvs : List (D × D)) (q : D) : Option D := (kvs.find? fun kv => keq kv.1 q).map (·.2)
def putD (kvs : List (D × D)) (q v : D) : List (D × D) := if (kvs.any fun kv => keq kv.1 q) = true then kvs.map (fun kv => if keq kv.1 q = true then (kv.1, v) else kv) else kvs ++ [(q, v)]
def key1 : D → Option Key
  | .int i => some (.inl i)
  | .str x => some (.inr x)
  | _ => none
def keyL : List D → Option (List Key)
  | [] => some []
  | d :: ds => (key1 d).bind fun k => (keyL ds).map (k :: ·)
/-- a dict with keys ints and texts -/
def asK : D → Option (List (D × D))
  | .dict ((.none, _) :: _) => none
  | .dict ((.bool _, _) :: _) => none
  | .dict kvs => some kvs
  | _ => none
/-- a dict with keys tuples of these -/
def asT : D → Option (List (D × D))
  | .dict ((.bool false, .int i) :: kvs) => if i = 1 then some kvs else none
  | _ => none
/-- what d holds at the key: none if this is not followed -/
def lookA (d q : D) : Option (Option D) := match q with
  | .tuple ks => (asT d).bind fun kvs => (keyL ks).map fun _ => lookD kvs q
  | q => (asK d).bind fun kvs => (key1 q).map fun _ => lookD kvs q
theorem asK_eq {d : D} {kvs : List (D × D)} (h : asK d = some kvs) : d = .dict kvs ∧ (∀ x r, kvs ≠ (.none, x) :: r) ∧ ∀ b x r, kvs ≠ (.bool b, x) :: r := by
  unfold asK at h
  split at h
  · cases h
  · cases h
  · rename_i a b
    cases h
    exact ⟨rfl, fun x r e => a x r (by rw [e]), fun b' x r e => b b' x r (by rw [e])⟩
  · cases h
theorem asT_eq {d : D} {kvs : List (D × D)} (h : asT d = some kvs) : d = .dict (tagT :: kvs) := by
  unfold asT at h
  split at h
  · rename_i i r
    by_cases e : i = 1
    · rw [if_pos e] at h; cases h; subst e; rfl
    · rw [if_neg e] at h; cases h
  · cases h
theorem key1_eq {d : D} {k : Key} (h : key1 d = some k) : d = keyD k := by
  unfold key1 at h
  split at h <;> cases h <;> rfl
theorem keyL_eq : ∀ {ds : List D} {ks : List Key}, keyL ds = some ks → ds = ks.map keyD
  | [], ks, h => by cases h; rfl
  | d :: ds, ks, h => by
    unfold keyL at h
    cases e1 : key1 d with
    | none => rw [e1] at h; cases h
    | some k =>
      rw [e1, Option.bind_some] at h
      cases e2 : keyL ds with
      | none => rw [e2] at h; cases h
      | some r => rw [e2] at h; cases h; rw [key1_eq e1, keyL_eq e2]; rfl
theorem keq1_key (a b : Key) : keq1 (keyD a) (keyD b) = decide (a = b) := by
  cases a <;> cases b <;> simp [keyD, keq1]
theorem keqL_key : ∀ (a b : List Key), keqL (a.map keyD) (b.map keyD) = decide (a = b)
  | [], [] => by simp [keqL]
  | [], _ :: _ => by simp [keqL]
  | _ :: _, [] => by simp [keqL]
  | x :: a, y :: b => by
    rw [List.map_cons, List.map_cons]
    unfold keqL
    rw [keq1_key, keqL_key a b, Bool.eq_iff_iff, Bool.and_eq_true, decide_eq_true_iff, decide_eq_true_iff, decide_eq_true_iff, List.cons.injEq]
theorem keq_k (a b : Key) : keq (keyD a) (keyD b) = decide (a = b) := by
  rw [← keq1_key]
  cases a <;> cases b <;> rfl
theorem keq_t (a b : List Key) : keq (.tuple (a.map keyD)) (.tuple (b.map keyD)) = decide (a = b) := keqL_key a b
section
variable {K : Fg} {H : Hp}
theorem Rep.key {v : V} {k : Key} (r : Rep K H v (keyD k)) : v = kV k := by
  cases k <;> (cases r; rfl)
theorem RepA.keys : ∀ {vs : List V} {ks : List Key}, RepA K H vs (ks.map keyD) → vs = ks.map kV
  | _, [], .nil => rfl
  | _, k :: ks, .cons a b => by rw [a.key, RepA.keys b]; rfl
theorem RepK.look {k : Key} : ∀ {ks : List (Key × V)} {kvs : List (D × D)}, RepK K H ks kvs → (lookD kvs (keyD k) = none → valV ks k = none) ∧ ∀ d, lookD kvs (keyD k) = some d → ∃ v, valV ks k = some v ∧ Rep K H v d
  | _, _, .nil => ⟨fun _ => rfl, fun d h => by cases h⟩
  | _, _, .cons (k := j) (v := v) (ks := ks) (d := d) (kvs := kvs) a b => by
    obtain ⟨i1, i2⟩ := RepK.look (k := k) b
    unfold lookD at i1 i2 ⊢
    rw [List.find?_cons, keq_k]
    by_cases e : j = k
    · rw [decide_eq_true e, valV_pos (p := (j, v)) e]
      exact ⟨fun h => (by cases h), fun d' h => (by cases h; exact ⟨v, rfl, a⟩)⟩
    · rw [decide_eq_false e, valV_neg (p := (j, v)) e]
      exact ⟨i1, i2⟩
theorem RepT.look {k : List Key} : ∀ {ks : List (List Key × V)} {kvs : List (D × D)}, RepT K H ks kvs → (lookD kvs (.tuple (k.map keyD)) = none → valV ks k = none) ∧ ∀ d, lookD kvs (.tuple (k.map keyD)) = some d → ∃ v, valV ks k = some v ∧ Rep K H v d
  | _, _, .nil => ⟨fun _ => rfl, fun d h => by cases h⟩
  | _, _, .cons (k := j) (v := v) (ks := ks) (d := d) (kvs := kvs) a b => by
    obtain ⟨i1, i2⟩ := RepT.look (k := k) b
    unfold lookD at i1 i2 ⊢
    rw [List.find?_cons, keq_t]
    by_cases e : j = k
    · rw [decide_eq_true e, valV_pos (p := (j, v)) e]
      exact ⟨fun h => (by cases h), fun d' h => (by cases h; exact ⟨v, rfl, a⟩)⟩
    · rw [decide_eq_false e, valV_neg (p := (j, v)) e]
      exact ⟨i1, i2⟩
theorem RepK.anyK {k : Key} : ∀ {ks : List (Key × V)} {kvs : List (D × D)}, RepK K H ks kvs → (kvs.any fun kv => keq kv.1 (keyD k)) = ks.any fun kv => decide (kv.1 = k)
  | _, _, .nil => rfl
  | _, _, .cons a b => by rw [List.any_cons, List.any_cons, RepK.anyK b, keq_k]
theorem RepT.anyT {k : List Key} : ∀ {ks : List (List Key × V)} {kvs : List (D × D)}, RepT K H ks kvs → (kvs.any fun kv => keq kv.1 (.tuple (k.map keyD))) = ks.any fun kv => decide (kv.1 = k)
  | _, _, .nil => rfl
  | _, _, .cons a b => by rw [List.any_cons, List.any_cons, RepT.anyT b, keq_t]
theorem RepK.repl {k : Key} {v : V} {d : D} (r : Rep K H v d) : ∀ {ks : List (Key × V)} {kvs : List (D × D)}, RepK K H ks kvs → RepK K H (ks.map fun kv => if kv.1 = k then (kv.1, v) else kv) (kvs.map fun kv => if keq kv.1 (keyD k) = true then (kv.1, d) else kv)
  | _, _, .nil => .nil
  | _, _, .cons (k := j) a b => by
    rw [List.map_cons, List.map_cons, keq_k]
    by_cases e : j = k
    · rw [if_pos e, if_pos (decide_eq_true e)]; exact .cons r (RepK.repl r b)
    · rw [if_neg e, if_neg (by rw [decide_eq_false e]; decide)]; exact .cons a (RepK.repl r b)
theorem RepT.repl {k : List Key} {v : V} {d : D} (r : Rep K H v d) : ∀ {ks : List (List Key × V)} {kvs : List (D × D)}, RepT K H ks kvs → RepT K H (ks.map fun kv => if kv.1 = k then (kv.1, v) else kv) (kvs.map fun kv => if keq kv.1 (.tuple (k.map keyD)) = true then (kv.1, d) else kv)
  | _, _, .nil => .nil
  | _, _, .cons (k := j) a b => by
    rw [List.map_cons, List.map_cons, keq_t]
    by_cases e : j = k
    · rw [if_pos e, if_pos (decide_eq_true e)]; exact .cons r (RepT.repl r b)
    · rw [if_neg e, if_neg (by rw [decide_eq_false e]; decide)]; exact .cons a (RepT.repl r b)
theorem RepK.snoc {k : Key} {v : V} {d : D} (r : Rep K H v d) : ∀ {ks : List (Key × V)} {kvs : List (D × D)}, RepK K H ks kvs → RepK K H (ks ++ [(k, v)]) (kvs ++ [(keyD k, d)])
  | _, _, .nil => .cons r .nil
  | _, _, .cons a b => .cons a (RepK.snoc r b)
theorem RepT.snoc {k : List Key} {v : V} {d : D} (r : Rep K H v d) : ∀ {ks : List (List Key × V)} {kvs : List (D × D)}, RepT K H ks kvs → RepT K H (ks ++ [(k, v)]) (kvs ++ [(.tuple (k.map keyD), d)])
  | _, _, .nil => .cons r .nil
  | _, _, .cons a b => .cons a (RepT.snoc r b)
theorem RepK.put {k : Key} {v : V} {d : D} {ks : List (Key × V)} {kvs : List (D × D)} (r : Rep K H v d) (b : RepK K H ks kvs) : RepK K H (putK ks k v) (putD kvs (keyD k) d) := by
  unfold putK putD
  rw [b.anyK]
  split
  · exact b.repl r
  · exact b.snoc r
theorem RepT.put {k : List Key} {v : V} {d : D} {ks : List (List Key × V)} {kvs : List (D × D)} (r : Rep K H v d) (b : RepT K H ks kvs) : RepT K H (putK ks k v) (putD kvs (.tuple (k.map keyD)) d) := by
  unfold putK putD
  rw [b.anyT]
  split
  · exact b.repl r
  · exact b.snoc r
theorem RepK.length : ∀ {ks : List (Key × V)} {kvs : List (D × D)}, RepK K H ks kvs → ks.length = kvs.length
  | _, _, .nil => rfl
  | _, _, .cons _ b => congrArg Nat.succ b.length
theorem RepT.length : ∀ {ks : List (List Key × V)} {kvs : List (D × D)}, RepT K H ks kvs → ks.length = kvs.length
  | _, _, .nil => rfl
  | _, _, .cons _ b => congrArg Nat.succ b.length
theorem RepK.nobool : ∀ {ks : List (Key × V)} {kvs : List (D × D)}, RepK K H ks kvs → ∀ b x r, kvs ≠ (.bool b, x) :: r
  | _, _, .nil, _, _, _ => nofun
  | _, _, .cons (k := k) _ _, b, x, r => by cases k <;> exact fun e => by cases e
end
/-- a dict of the one kind, or the other -/
theorem Shal.dictK {K : Fg} {Hs H : Hp} {v : V} {d : D} {kvs : List (D × D)} (s : Shal K Hs H v d) (e : Same Hs H) (h : asK d = some kvs) : ∃ p ks, v = .ref p ∧ Rd H p (.dK ks) ∧ RepK K Hs ks kvs := by
  obtain ⟨rfl, n1, n2⟩ := asK_eq h
  rcases s with r | ⟨p, rfl, c⟩
  · cases r with
    | dK a b => exact ⟨_, _, rfl, Same.rd e a, b⟩
    | dT a b => exact absurd rfl (n2 _ _ _)
    | ins a b c => exact absurd rfl (n1 _ _)
    | dN a b => exact absurd rfl (n2 _ _ _)
  · rcases c with ⟨ks, a, b⟩ | ⟨ks, es, rfl, a, b⟩ | ⟨ys, es, rfl, a, b⟩
    · exact ⟨p, ks, rfl, .inl a, b⟩
    · exact absurd rfl (n2 _ _ _)
    · exact absurd rfl (n2 _ _ _)
theorem Shal.dictT {K : Fg} {Hs H : Hp} {v : V} {d : D} {kvs : List (D × D)} (s : Shal K Hs H v d) (e : Same Hs H) (h : asT d = some kvs) : ∃ p ks, v = .ref p ∧ Rd H p (.dT ks) ∧ RepT K Hs ks kvs := by
  obtain rfl := asT_eq h
  rcases s with r | ⟨p, rfl, c⟩
  · generalize ez : PyData.dict (tagT :: kvs) = z at r
    cases r with
    | dK a b => cases ez; exact absurd rfl (b.nobool _ _ _)
    | dT a b => cases ez; exact ⟨_, _, rfl, Same.rd e a, b⟩
    | _ => cases ez
  · rcases c with ⟨ks, a, b⟩ | ⟨ks, es, ee, a, b⟩ | ⟨ys, es, ee, a, b⟩
    · exact absurd rfl (b.nobool _ _ _)
    · cases ee
      exact ⟨p, ks, rfl, .inl a, b⟩
    · cases ee
theorem Shal.keyAt {K : Fg} {Hs H : Hp} {v : V} {d : D} {k : Key} (s : Shal K Hs H v d) (h : key1 d = some k) : v = kV k := by
  rw [key1_eq h] at s
  rcases s with r | ⟨p, rfl, c⟩
  · exact r.key
  · cases k <;> exact c.elim
/-- the dict's place at this key -/
theorem look_at {K : Fg} {Hs H : Hp} {x y : V} {d q : D} {o : Option D} (e : Same Hs H) (sx : Shal K Hs H x d) (sy : Shal K Hs H y q) (h : lookA d q = some o) :
    ∃ a z, x = .ref a ∧ DGet H a y z ∧ (o = none → z = none) ∧ ∀ d', o = some d' → ∃ v, z = some v ∧ Rep K Hs v d' := by
  unfold lookA at h
  split at h
  · rename_i qs
    cases e1 : asT d with
    | none => rw [e1] at h; cases h
    | some kvs =>
      rw [e1, Option.bind_some] at h
      cases e2 : keyL qs with
      | none => rw [e2] at h; cases h
      | some k =>
        rw [e2] at h
        cases h
        obtain ⟨p, ks, rfl, rd, r⟩ := sx.dictT e e1
        obtain ⟨b, vs, rfl, hb, rv⟩ := sy.tupH e
        obtain rfl := keyL_eq e2
        rw [rv.keys] at hb
        obtain ⟨l1, l2⟩ := r.look (k := k)
        exact ⟨p, _, rfl, .inr ⟨ks, k, b, rd, rfl, hb, rfl⟩, l1, l2⟩
  · rename_i nt
    cases e1 : asK d with
    | none => rw [e1] at h; cases h
    | some kvs =>
      rw [e1, Option.bind_some] at h
      cases e2 : key1 q with
      | none => rw [e2] at h; cases h
      | some k =>
        rw [e2] at h
        cases h
        obtain ⟨p, ks, rfl, rd, r⟩ := sx.dictK e e1
        obtain rfl := sy.keyAt e2
        have eq := key1_eq e2
        subst eq
        obtain ⟨l1, l2⟩ := r.look (k := k)
        exact ⟨p, _, rfl, .inl ⟨ks, k, rd, rfl, rfl⟩, l1, l2⟩
def dgetD (d q : D) : Option D := (lookA d q).bind id
section
variable {X : Cx}
theorem ix_dict (hu : X.A.units + 64 < cLine) : IxR X (rX X.K dgetD) := fun value slice pins s σ H x y v u Q I rx ry q hs => by
  obtain ⟨Hs, d, e, z, sb, sx, sy, ez, q⟩ := q
  unfold dgetD at ez
  cases el : lookA d e with
  | none => rw [el] at ez; cases ez
  | some o =>
    rw [el, Option.bind_some] at ez
    cases ez
    obtain ⟨a, zz, rfl, g, h1, h2⟩ := look_at sb sx sy el
    obtain ⟨w, rfl, rw_⟩ := h2 z rfl
    obtain rfl : v = Value.ref a := rx
    have gd := q _ Hs H (.refl sb) rw_
    have ty := dict_typeIs I g
    rcases g with ⟨kvs, k, e, ey, l⟩ | ⟨kvs, k, b, e, ey, eb, l⟩
    · subst ey
      obtain ⟨_, hd, vs, rel, dd⟩ := dk_rd I.hok e
      obtain ⟨w', hw, rw'⟩ := RelO.some_of (v := w) (o := valueAt vs k) (by rw [l]; exact rel.val k)
      exact subscriptTail_builtinR (x := w') ty PySem.F.slot_dict_getitem.lookup (wpAny_getItem_of (kV_is ry) dd.mapOf hw ⟨rfl, w, H, I.tok _, rw', gd⟩) hs
    · subst ey
      obtain rfl : u = Value.ref b := ry
      obtain ⟨_, hd, xs, rel, dd⟩ := dt_rd I.hok e
      obtain ⟨w', hw, rw'⟩ := RelO.some_of (v := w) (o := (atKey xs k).map (·.2)) (by rw [l]; exact rel.val k)
      obtain ⟨p, hp, hp2⟩ := Option.map_eq_some_iff.mp hw
      have key := wpAny_getItem_heap (E := X.xe) (Q := fun r s' => r = w' ∧ EP X pins σ Q r s') (tupleKind_room_in1 (A := X.A) (by omega)) (key_of I.hok eb) dd hp
      refine subscriptTail_builtinR (x := w') ty PySem.F.slot_dict_getitem.lookup (key ?_) hs
      rw [hp2]
      exact ⟨rfl, w, H, I.tok _, rw', gd⟩
end
end DL
namespace DL
open PySem PySem.Spec PyProof.Rows L2
def dsizeD (d : D) : Option D := match asT d with
  | some kvs => some (.int kvs.length)
  | none => (asK d).map fun kvs => .int kvs.length
section
variable {X : Cx} {B : Bs} {W : WX} {e a b c : Expr} {fa fb fc : EF} {pos apos cpos : Pos}
theorem cx_dlen : CallR X (.builtin "len") (rXc X.K (one dsizeD)) := fun pins s σ H vs us Q I r h => by
  obtain ⟨v, Hs, d, z, rfl, sm, sh, eg, q⟩ := h.one
  obtain ⟨u, rfl, rx⟩ := vals1 r
  unfold dsizeD at eg
  cases e1 : asT d with
  | some kvs =>
    rw [e1] at eg; cases eg
    obtain ⟨p, ks, rfl, rd, rr⟩ := sh.dictT sm e1
    obtain rfl : u = .ref p := rx
    obtain ⟨n1, n2, xs, rel, dd⟩ := dt_rd I.hok rd
    have hl : ks.length = xs.length := Paired.length rel
    have hk := rr.length
    refine call_len_dictH n2 dd (by rw [← hl]; rw [sizeLine_eq] at n1; omega) ?_
    rw [← hl, hk]
    exact ⟨.int kvs.length, H, I.tok _, ⟨_, rfl⟩, q _ Hs H (.refl sm) (.int _)⟩
  | none =>
    rw [e1] at eg
    cases e2 : asK d with
    | none => rw [e2] at eg; cases eg
    | some kvs =>
      rw [e2] at eg; cases eg
      obtain ⟨p, ks, rfl, rd, rr⟩ := sh.dictK sm e2
      obtain rfl : u = .ref p := rx
      have ql := q (.int kvs.length) Hs H (.refl sm) (.int _)
      refine d_len I rd fun t s3 I3 => ⟨.int kvs.length, H, I3, ⟨t, ?_⟩, ql⟩
      rw [rr.length]
def isDict (d : D) : Bool := (asT d).isSome || (asK d).isSome
theorem Shal.isd {K : Fg} {Hs H : Hp} {v : V} {d : D} (s : Shal K Hs H v d) (e : Same Hs H) (h : isDict d = true) : ∃ a, v = .ref a ∧ IsD H a := by
  unfold isDict at h
  cases e1 : asT d with
  | some kvs =>
    obtain ⟨p, ks, rfl, rd, _⟩ := s.dictT e e1
    exact ⟨p, rfl, .inr ⟨ks, rd⟩⟩
  | none =>
    rw [e1] at h
    cases e2 : asK d with
    | none => rw [e2] at h; cases h
    | some kvs =>
      obtain ⟨p, ks, rfl, rd, _⟩ := s.dictK e e2
      exact ⟨p, rfl, .inl ⟨ks, rd⟩⟩
/-- d.get(k, x) -/
def dget2F (fa fb fc : EF) : EF := fun ρ => (fa ρ).bind fun x ρ1 => if ((x.get ρ1).map isDict) = some true then (fb ρ1).bind fun y ρ2 => (fc ρ2).bind fun z ρ3 =>
  match (x.get ρ3).bind fun d => (y.get ρ3).bind fun q => lookA d q with
  | some (some r) => .ok (.st r) ρ3
  | some none => .ok z ρ3
  | none => .bad else .bad
theorem pd_dget2 (hu : X.A.units + 64 < cLine) (ha : PD X B W a fa) (hb : PD X B W b fb) (hc : PD X B W c fc) (m : M2 X a "get" apos b c cpos) : PD X B W (.Call (.Attribute a "get" apos) [b, c] [] cpos) (dget2F fa fb fc) :=
  PE.imp (pe_dget2 (by omega) ha hb hc m) fun σ H Q ⟨Hs, ρ, sl, q⟩ => by
  refine ⟨Hs, ρ, sl, OP.imp (OP.bind q) fun x ρ1 Hs1 H1 _ sl1 e1 q1 v hv => ?_⟩
  by_cases c1 : ((x.get ρ1).map isDict) = some true
  · rw [if_pos c1] at q1
    obtain ⟨d1, ed1, c2⟩ := Option.map_eq_some_iff.mp c1
    obtain ⟨p, rfl, isd⟩ := (sl1.look hv ed1).isd sl1.sub c2
    refine ⟨p, rfl, isd, Hs1, ρ1, sl1, OP.imp (OP.bind q1) fun y ρ2 Hs2 H2 _ sl2 e2 q2 w hw => ⟨Hs2, ρ2, sl2, OP.imp (OP.bind q2) fun z ρ3 Hs3 H3 _ sl3 e3 q3 t ht => ?_⟩⟩
    have hv3 : VlOk X.K Hs3 σ (.ref p) x := hv.mono (e2.trans e3)
    have hw3 : VlOk X.K Hs3 σ w y := hw.mono e3
    cases ex : x.get ρ3 with
    | none => rw [ex] at q3; exact q3.elim
    | some d =>
      rw [ex, Option.bind_some] at q3
      cases ey : y.get ρ3 with
      | none => rw [ey] at q3; exact q3.elim
      | some k =>
        rw [ey, Option.bind_some] at q3
        cases el : lookA d k with
        | none => rw [el] at q3; exact q3.elim
        | some o =>
          rw [el] at q3
          obtain ⟨a', zz, ea, g, h1, h2⟩ := look_at sl3.sub (sl3.look hv3 ex) (sl3.look hw3 ey) el
          cases ea
          cases o with
          | none =>
            rw [h1 rfl] at g
            exact ⟨none, g, q3 Hs3 H3 sl3 (.refl _) t ht⟩
          | some r =>
            obtain ⟨vv, rfl, rr⟩ := h2 r rfl
            exact ⟨some vv, g, q3 Hs3 H3 sl3 (.refl _) vv rr⟩
  · rw [if_neg c1] at q1; exact q1.elim
def dputD (d q v : D) : Option D := match q with
  | .tuple ks => (asT d).bind fun kvs => (keyL ks).bind fun _ => if kvs.length < 100000 then some (.dict (tagT :: putD kvs q v)) else none
  | q => (asK d).bind fun kvs => (key1 q).bind fun _ => if kvs.length < 100000 then some (.dict (putD kvs q v)) else none
theorem put_at {K : Fg} {Hs H : Hp} {p : Addr} {y v : V} {d q x d' : D} (e : Same Hs H) (n : Hs p = none) (cn : Cont K Hs H p d) (sy : Shal K Hs H y q) (rv : Rep K Hs v x) (h : dputD d q x = some d') :
    ∃ o, DPut H p y v (upd H p o) ∧ Cont K Hs (upd H p o) p d' := by
  unfold dputD at h
  split at h
  · rename_i qs
    cases e1 : asT d with
    | none => rw [e1] at h; cases h
    | some kvs =>
      rw [e1, Option.bind_some] at h
      cases e2 : keyL qs with
      | none => rw [e2] at h; cases h
      | some k =>
        rw [e2, Option.bind_some] at h
        by_cases c : kvs.length < 100000
        · rw [if_pos c] at h; cases h
          obtain rfl := asT_eq e1
          obtain ⟨b, vs, rfl, hb, rk⟩ := sy.tupH e
          obtain rfl := keyL_eq e2
          rw [rk.keys] at hb
          rcases cn with ⟨ks, a, r⟩ | ⟨ks, es, ee, a, r⟩ | ⟨ys, es, ee, a, r⟩
          · exact absurd rfl (r.nobool _ _ _)
          rotate_left
          · cases ee
          · cases ee
            exact ⟨_, .inr ⟨ks, k, b, a, rfl, hb, by have := r.length; rw [sizeLine_eq]; omega, rfl⟩, .inr (.inl ⟨_, _, rfl, upd_same, r.put rv⟩)⟩
        · rw [if_neg c] at h; cases h
  · rename_i nt
    cases e1 : asK d with
    | none => rw [e1] at h; cases h
    | some kvs =>
      rw [e1, Option.bind_some] at h
      cases e2 : key1 q with
      | none => rw [e2] at h; cases h
      | some k =>
        rw [e2, Option.bind_some] at h
        by_cases c : kvs.length < 100000
        · rw [if_pos c] at h; cases h
          obtain ⟨rfl, n1, n2⟩ := asK_eq e1
          obtain rfl := sy.keyAt e2
          have eq := key1_eq e2
          subst eq
          rcases cn with ⟨ks, a, r⟩ | ⟨ks, es, rfl, a, r⟩ | ⟨ys, es, rfl, a, r⟩
          · exact ⟨_, .inl ⟨ks, k, a, rfl, by have := r.length; rw [sizeLine_eq]; omega, rfl⟩, .inl ⟨_, upd_same, r.put rv⟩⟩
          · exact absurd rfl (n2 _ _ _)
          · exact absurd rfl (n2 _ _ _)
        · rw [if_neg c] at h; cases h
/-- x[k] = e, x one's own dict -/
def dputS (i : Nat) (fk fv : EF) : SF := fun ρ => (fv ρ).then fun x ρ1 => match x, ρ1[i]? with
  | .st v, some s0 => if s0.shal = true then (fk ρ1).then fun y ρ2 => match ρ2[i]? with
    | some s => (match (s.cont).bind fun d => (y.get ρ2).bind fun q => dputD d q v with
      | some d' => .nx (ρ2.set i (s.put d'))
      | none => .bad)
    | none => .bad else .bad
  | _, _ => .bad
theorem psd_dput {i : Nat} {ps : Pos} (hu : X.A.units + 64 < cLine) (ho : PE X a (tVar i)) (hk : PD X B W b fb) (hv : PD X B W c fc) (hs : swapsWith c (some (.Subscript a b ps)) pos.line X.env = pure false := by rfl) :
    PSD X B W (.Assign [.Subscript a b ps] c pos) (dputS i fb fc) := PS.imp (ps_dput (by omega) ho hk hv hs) fun D' σ H ⟨Hs, ρ, sl, q⟩ => by
  refine ⟨Hs, ρ, sl, OP.imp (OP.stm q) fun x ρ1 Hs1 H1 _ sl1 e1 q1 u hu => ?_⟩
  cases x <;> first | exact q1.elim | skip
  rename_i v ex0
  clear ex0
  cases e0 : ρ1[i]? with
  | none => rw [e0] at q1; exact q1.elim
  | some s0 =>
    rw [e0] at q1
    dsimp only at q1
    by_cases hm : s0.shal = true
    · rw [if_pos hm] at q1
      obtain ⟨d0, hd0⟩ : ∃ d, s0.cont = some d := by cases s0 <;> first | (cases hm; done) | exact ⟨_, rfl⟩
      obtain ⟨pp, ep, _, _, _⟩ := own_at sl1 e0 hd0
      refine ⟨_, ep, Hs1, ρ1, sl1, OP.imp (OP.stm q1) fun y ρ2 Hs2 H2 _ sl2 e2 q2 w hw => ?_⟩
      cases e3 : ρ2[i]? with
      | none => rw [e3] at q2; exact q2.elim
      | some s =>
        rw [e3] at q2
        dsimp only at q2
        cases hc : s.cont with
        | none => rw [hc] at q2; exact q2.elim
        | some d =>
          rw [hc, Option.bind_some] at q2
          cases ey : y.get ρ2 with
          | none => rw [ey] at q2; exact q2.elim
          | some k =>
            rw [ey, Option.bind_some] at q2
            cases ed : dputD d k v with
            | none => rw [ed] at q2; exact q2.elim
            | some d' =>
              rw [ed] at q2
              obtain ⟨p2, ep2, n2, cn, _⟩ := own_at sl2 e3 hc
              rw [ep] at ep2
              cases ep2
              obtain ⟨o, g, cn'⟩ := put_at sl2.sub n2 cn (sl2.look hw ey) (Rep.mono e2 hu) ed
              exact ⟨pp, _, rfl, g, q2 σ Hs2 _ (sl2.upd e3 hc ep n2 cn') (.refl _)⟩
    · rw [if_neg hm] at q1; exact q1.elim
def dnewC : CF := fun ρ => .ok (.dict []) ρ
def dnewT : CF := fun ρ => .ok (.dict [tagT]) ρ
theorem pc_dnewK : PC' X B W (.Dict [] [] pos) dnewC := PE.imp pe_dnewK fun σ H Q ⟨Hs, ρ, sl, q⟩ => fun p np => by
  have g : Grow Hs H Hs (upd H p (.dK [])) := Grow.loose sl.sub np
  obtain ⟨f1, f2, f3⟩ := sl.fresh np
  exact q _ _ (sl.grow g) (.refl _) p f1 f2 (f3.grow sl g) (.inl ⟨[], upd_same, .nil⟩)
theorem pc_dnewT : PC' X B W (.Dict [] [] pos) dnewT := PE.imp pe_dnewT fun σ H Q ⟨Hs, ρ, sl, q⟩ => fun p np => by
  have g : Grow Hs H Hs (upd H p (.dT [])) := Grow.loose sl.sub np
  obtain ⟨f1, f2, f3⟩ := sl.fresh np
  exact q _ _ (sl.grow g) (.refl _) p f1 f2 (f3.grow sl g) (.inr (.inl ⟨[], [], rfl, upd_same, .nil⟩))
end
end DL
namespace DL
open PySem PySem.Spec PyProof.Rows L2
/-- the base also holds p as it stands -/
def Bs.hold (B : Bs) (p : Addr) (o : HO) : Bs := { B with H0 := L2.upd B.H0 p o }
section
variable {K : Fg} {B : Bs} {Hs H : Hp} {σ : L2.St} {ρ : En}
theorem Bs.hold_nw {p a : Addr} {o : HO} (h : (B.hold p o).nw a) : B.nw a := by
  rcases h with h | h
  · by_cases e : a = p
    · subst e
      have z : L2.upd B.H0 a o a = none := h
      rw [upd_same] at z; cases z
    · have z : L2.upd B.H0 p o a = none := h
      rw [upd_ne e] at z
      exact .inl z
  · exact .inr h
theorem Bs.nw_hold {p a : Addr} {o : HO} (e : a ≠ p) (h : B.nw a) : (B.hold p o).nw a := by
  rcases h with h | h
  · exact .inl (by show L2.upd B.H0 p o a = none; rw [upd_ne e]; exact h)
  · exact .inr h
theorem Feet.hold {p : Addr} {o : HO} {x : Option V} {s : Slot} {f : List Addr} (h : Feet K B Hs H x s f) (n : p ∉ f) : Feet K (B.hold p o) Hs H x s f := by
  have ne : ∀ a ∈ f, a ≠ p := fun a m e => n (e ▸ m)
  cases s with
  | tre d => obtain ⟨q, e, t, z⟩ := h; exact ⟨q, e, t, fun a m => Bs.nw_hold (ne a m) (z a m)⟩
  | atr d => obtain ⟨q, e, t, r, z⟩ := h; exact ⟨q, e, t, r, fun a m => (z a m).imp (Bs.nw_hold (ne a m)) id⟩
  | gho k d => obtain ⟨q, e, t, z⟩ := h; exact ⟨q, e, t, fun a m => (z a m).imp (Bs.nw_hold (ne a m)) id⟩
  | tab T => exact ⟨h.1, fun a m => (h.2 a m).imp (Bs.nw_hold (ne a m)) id⟩
  | _ => exact h
theorem Feet.loose {p : Addr} {o : HO} {x : Option V} {s : Slot} {f : List Addr} (h : Feet K (B.hold p o) Hs H x s f) : Feet K B Hs H x s f := by
  cases s with
  | tre d => obtain ⟨q, e, t, z⟩ := h; exact ⟨q, e, t, fun a m => Bs.hold_nw (z a m)⟩
  | atr d => obtain ⟨q, e, t, r, z⟩ := h; exact ⟨q, e, t, r, fun a m => (z a m).imp Bs.hold_nw id⟩
  | gho k d => obtain ⟨q, e, t, z⟩ := h; exact ⟨q, e, t, fun a m => (z a m).imp Bs.hold_nw id⟩
  | tab T => exact ⟨h.1, fun a m => (h.2 a m).imp Bs.hold_nw id⟩
  | _ => exact h
theorem SlotOk.hold {p : Addr} {o : HO} {x : Option V} {s : Slot} {f : List Addr} (k : SlotOk K B Hs H x s) (h : Feet K B Hs H x s f) (n : p ∉ f) : SlotOk K (B.hold p o) Hs H x s := by
  have ne : ∀ a ∈ f, a ≠ p := fun a m e => n (e ▸ m)
  cases s with
  | own d =>
    obtain ⟨q, e, n1, z, c⟩ := k
    obtain ⟨q2, e2, rfl⟩ := h
    rw [e] at e2; cases e2
    exact ⟨q, e, n1, Bs.nw_hold (ne q (List.mem_singleton_self q)) z, c⟩
  | arg d =>
    obtain ⟨q, e, n1, ⟨r, z⟩, c⟩ := k
    obtain ⟨q2, e2, rfl⟩ := h
    rw [e] at e2; cases e2
    exact ⟨q, e, n1, ⟨r, z.imp (Bs.nw_hold (ne q (List.mem_singleton_self q))) id⟩, c⟩
  | tre d => obtain ⟨q, e, t, z⟩ := h; exact ⟨q, f, e, t, fun a m => Bs.nw_hold (ne a m) (z a m)⟩
  | atr d => obtain ⟨q, e, t, r, z⟩ := h; exact ⟨q, f, e, t, r, fun a m => (z a m).imp (Bs.nw_hold (ne a m)) id⟩
  | gho j d => obtain ⟨q, e, t, z⟩ := h; exact ⟨q, f, e, t, fun a m => (z a m).imp (Bs.nw_hold (ne a m)) id⟩
  | tab T => exact ⟨f, h.1, fun a m => (h.2 a m).imp (Bs.nw_hold (ne a m)) id⟩
  | _ => exact k
theorem SlotOk.loose {p : Addr} {o : HO} {x : Option V} {s : Slot} (k : SlotOk K (B.hold p o) Hs H x s) : SlotOk K B Hs H x s := by
  cases s with
  | own d => obtain ⟨q, e, n1, z, c⟩ := k; exact ⟨q, e, n1, Bs.hold_nw z, c⟩
  | arg d => obtain ⟨q, e, n1, ⟨r, z⟩, c⟩ := k; exact ⟨q, e, n1, ⟨r, z.imp Bs.hold_nw id⟩, c⟩
  | tre d => obtain ⟨q, f, e, t, z⟩ := k; exact ⟨q, f, e, t, fun a m => Bs.hold_nw (z a m)⟩
  | atr d => obtain ⟨q, f, e, t, r, z⟩ := k; exact ⟨q, f, e, t, r, fun a m => (z a m).imp Bs.hold_nw id⟩
  | gho j d => obtain ⟨q, f, e, t, z⟩ := k; exact ⟨q, f, e, t, fun a m => (z a m).imp Bs.hold_nw id⟩
  | tab T => obtain ⟨f, t, z⟩ := k; exact ⟨f, t, fun a m => (z a m).imp Bs.hold_nw id⟩
  | _ => exact k
/-- p is nobody's: the base takes it -/
theorem Sl.hold {p : Addr} {o : HO} (sl : Sl K B Hs H σ ρ) (hp : H p = some o) (n : Hs p = none) (nb : Nob K B Hs H σ ρ p) : Sl K (B.hold p o) Hs H σ ρ := by
  obtain ⟨F, fe, nF⟩ := nb
  exact {
    len := sl.len
    ok := fun i x s a b => (sl.ok i x s a b).hold (fe.at_ i x s a b) (nF i)
    sub := sl.sub
    base := sl.base
    new := fun a => by
      by_cases e : a = p
      · subst e; exact .inl n
      · exact (sl.new a).imp id fun z => z.imp id fun z => z.imp (Bs.nw_hold e) id
    keep := fun a u e h1 h2 => by
      have z : L2.upd B.H0 p o a = some u := e
      by_cases q : a = p
      · subst q; rw [upd_same] at z; rw [← z]; exact hp
      · rw [upd_ne q] at z; exact sl.keep a u z h1 h2
    there := sl.there
    feet := ⟨F, fun i x s a b => (fe.at_ i x s a b).hold (nF i), fe.out, fe.dis⟩ }
/-- .. and lets it go: it stood still, and is nobody's -/
theorem Sl.loose {p : Addr} {o : HO} (sl : Sl K (B.hold p o) Hs H σ ρ) (nt : ∀ xs, o ≠ .tup xs) (n0 : B.H0 p = none) (o0 : ¬ B.own0 p) (o1 : ¬ B.own1 p) (s0 : B.Hs0 p = none) :
    Sl K B Hs H σ ρ ∧ H p = some o ∧ Hs p = none ∧ Nob K B Hs H σ ρ p := by
  have hp : H p = some o := sl.keep p o (by show L2.upd B.H0 p o p = _; exact upd_same) o0 o1
  have nn : ¬ (B.hold p o).nw p := fun z => by
    rcases z with z | z
    · have z : L2.upd B.H0 p o p = none := z
      rw [upd_same] at z; cases z
    · exact o1 z
  have n : Hs p = none := by
    rcases sl.new p with z | z | z
    · exact z
    · exact absurd s0 z
    · exact (z.elim nn fun ⟨xs, t⟩ => nt xs (Option.some.inj (hp.symm.trans t))).elim
  obtain ⟨F, fe⟩ := sl.feet
  have nF : ∀ i, p ∉ F i := fun i m => by
    cases e : ρ[i]? with
    | none => rw [fe.out i e] at m; cases m
    | some s =>
      obtain ⟨x, ex⟩ := sl_var sl e
      have ft := fe.at_ i x s ex e
      have ok := sl.ok i x s ex e
      cases s with
      | own d =>
        obtain ⟨q, e1, e2⟩ := ft
        obtain ⟨q2, e3, _, z, _⟩ := ok
        rw [e1] at e3; cases e3
        rw [e2, List.mem_singleton] at m; subst m
        exact nn z
      | arg d =>
        obtain ⟨q, e1, e2⟩ := ft
        obtain ⟨q2, e3, _, ⟨_, z⟩, _⟩ := ok
        rw [e1] at e3; cases e3
        rw [e2, List.mem_singleton] at m; subst m
        exact z.elim nn o0
      | tre d => obtain ⟨q, e1, t, z⟩ := ft; exact nn (z p m)
      | atr d => obtain ⟨q, e1, t, r, z⟩ := ft; exact (z p m).elim nn o0
      | gho j d => obtain ⟨q, e1, t, z⟩ := ft; exact (z p m).elim nn o0
      | tab T => exact (ft.2 p m).elim nn o0
      | un => have ft : F i = [] := ft; rw [ft] at m; cases m
      | val d => have ft : F i = [] := ft; rw [ft] at m; cases m
      | fn d => have ft : F i = [] := ft; rw [ft] at m; cases m
  refine ⟨{
    len := sl.len
    ok := fun i x s a b => (sl.ok i x s a b).loose
    sub := sl.sub
    base := sl.base
    new := fun a => (sl.new a).imp id fun z => z.imp id fun z => z.imp Bs.hold_nw id
    keep := fun a u e h1 h2 => by
      have q : a ≠ p := fun z => by subst z; rw [n0] at e; cases e
      exact sl.keep a u (by show L2.upd B.H0 p o a = _; rw [upd_ne q]; exact e) h1 h2
    there := sl.there
    feet := ⟨F, fun i x s a b => (fe.at_ i x s a b).loose, fe.out, fe.dis⟩ }, hp, n, F, ⟨fun i x s a b => (fe.at_ i x s a b).loose, fe.out, fe.dis⟩, nF⟩
end
section
variable {X : Cx} {B : Bs} {W : WX} {a b : Expr} {fa fb : EF} {pos : Pos}
theorem OP.hold {K : Fg} {mg : MG} {B : Bs} {W : WX} {σ : L2.St} {Hs : Hp} {α : Type} {P : α → En → Hp → Hp → Prop} {o : O α} {p : Addr} {u : HO} (h : OP K mg B W σ Hs P o) (nt : ∀ xs, u ≠ .tup xs) (n0 : B.H0 p = none) (o0 : ¬ B.own0 p) (o1 : ¬ B.own1 p) (s0 : B.Hs0 p = none) :
    OP K mg (B.hold p u) W σ Hs (fun x r Hs' H' => P x r Hs' H' ∧ Sl K B Hs' H' σ r ∧ H' p = some u ∧ Hs' p = none ∧ Nob K B Hs' H' σ r p) o := by
  cases o with
  | ok x r => exact fun Hs' H' sl e => let ⟨a, b⟩ := sl.loose nt n0 o0 o1 s0; ⟨h Hs' H' a e, a, b⟩
  | er z r => exact fun cls od Hs' H' sl e k => h cls od Hs' H' (sl.loose nt n0 o0 o1 s0).1 e k
  | bad => exact h
end
end DL
namespace DL
open PySem PySem.Spec PyProof.Rows L2
def insI (x : Int) : List Int → List Int
  | [] => [x]
  | y :: ys => if x ≤ y then x :: y :: ys else y :: insI x ys
def isort : List Int → List Int
  | [] => []
  | x :: xs => insI x (isort xs)
theorem insI_perm (x : Int) : ∀ l : List Int, (insI x l).Perm (x :: l)
  | [] => .refl _
  | y :: ys => by
    unfold insI
    split
    · exact .refl _
    · exact ((insI_perm x ys).cons y).trans (.swap x y ys)
theorem isort_perm : ∀ l : List Int, (isort l).Perm l
  | [] => .refl _
  | x :: xs => (insI_perm x (isort xs)).trans ((isort_perm xs).cons x)
theorem insI_sorted (x : Int) : ∀ {l : List Int}, l.Pairwise (· ≤ ·) → (insI x l).Pairwise (· ≤ ·)
  | [], _ => by simp [insI]
  | y :: ys, h => by
    unfold insI
    have h2 := List.pairwise_cons.mp h
    split
    · rename_i q
      exact List.pairwise_cons.mpr ⟨fun z m => by
        rcases List.mem_cons.mp m with rfl | m
        · exact q
        · exact Int.le_trans q (h2.1 z m), h⟩
    · rename_i q
      refine List.pairwise_cons.mpr ⟨fun z m => ?_, insI_sorted x h2.2⟩
      rcases List.mem_cons.mp ((insI_perm x ys).mem_iff.mp m) with rfl | m
      · omega
      · exact h2.1 z m
theorem isort_sorted : ∀ l : List Int, (isort l).Pairwise (· ≤ ·)
  | [] => .nil
  | x :: xs => insI_sorted x (isort_sorted xs)
theorem sorted_one : ∀ {a b : List Int}, a.Perm b → a.Pairwise (· ≤ ·) → b.Pairwise (· ≤ ·) → a = b
  | [], b, p, _, _ => by rw [List.nil_perm.mp p]
  | x :: a, [], p, _, _ => by have := p.length_eq; simp at this
  | x :: a, y :: b, p, s, t => by
    obtain ⟨s1, s2⟩ := List.pairwise_cons.mp s
    obtain ⟨t1, t2⟩ := List.pairwise_cons.mp t
    have e : x = y := by
      have h1 : x ∈ y :: b := p.mem_iff.mp (List.mem_cons_self ..)
      have h2 : y ∈ x :: a := p.mem_iff.mpr (List.mem_cons_self ..)
      rcases List.mem_cons.mp h1 with z | z
      · exact z
      · rcases List.mem_cons.mp h2 with w | w
        · exact w.symm
        · have := t1 x z
          have := s1 y w
          omega
    subst e
    rw [sorted_one (List.Perm.cons_inv p) s2 t2]
def sortD : D → Option D
  | .list ds => (intsOf ds).map fun ns => .list ((isort ns).map PyData.int)
  | _ => none
section
variable {X : Cx}
theorem cx_sortI : CallR X (.builtin "sorted") (rXcn X.K (one sortD)) := fun pins s σ H vs us Q I r h => by
  obtain ⟨Hs, ds, z, sm, rs, l, eg, q⟩ := h
  match ds, l, eg with
  | [d], l, eg =>
    match vs, l with
    | [v], _ =>
      have sh := rs 0 v d rfl rfl
      have eg : sortD d = some z := eg
      obtain ⟨ds, rfl⟩ : ∃ ds, d = .list ds := by cases d with
        | list ds => exact ⟨ds, rfl⟩
        | _ => cases eg
      unfold sortD at eg
      dsimp only at eg
      cases ei : intsOf ds with
      | none => rw [ei] at eg; cases eg
      | some ns =>
        rw [ei] at eg
        cases eg
        obtain ⟨p, ws, rfl, e, ra⟩ := sh.lst sm
        have ed := intsOf_map ei
        subst ed
        have ew := ra.ints
        subst ew
        refine cr_sortedI pins s σ H _ us Q I r ⟨p, ns, rfl, .inl (.inl e), fun ns' a pm so na => ?_⟩
        have es : ns' = isort ns := sorted_one (pm.trans (isort_perm ns).symm) so (isort_sorted ns)
        subst es
        exact q a _ na (Grow.loose sm na) ⟨_, upd_same, RepA.of_ints _⟩
end
end DL
namespace DL
open PySem PySem.Spec PyProof.Rows L2
abbrev Pr := Int × Int
def leP (p q : Pr) : Bool := !(SrtO.lexB q p)
theorem leP_iff {p q : Pr} : leP p q = true ↔ p.1 < q.1 ∨ (p.1 = q.1 ∧ p.2 ≤ q.2) := by
  have h := SrtO.lexB_iff (p := q) (q := p)
  unfold leP
  cases e : SrtO.lexB q p with
  | true =>
    have := h.mp e
    simp only [Bool.not_true, Bool.false_eq_true, false_iff]
    omega
  | false =>
    have n : ¬ SrtO.lexB q p = true := by rw [e]; decide
    rw [h] at n
    simp only [Bool.not_false, true_iff]
    omega
def insP (x : Pr) : List Pr → List Pr
  | [] => [x]
  | y :: ys => if leP x y = true then x :: y :: ys else y :: insP x ys
def psort : List Pr → List Pr
  | [] => []
  | x :: xs => insP x (psort xs)
theorem insP_perm (x : Pr) : ∀ l : List Pr, (insP x l).Perm (x :: l)
  | [] => .refl _
  | y :: ys => by
    unfold insP
    split
    · exact .refl _
    · exact ((insP_perm x ys).cons y).trans (.swap x y ys)
theorem psort_perm : ∀ l : List Pr, (psort l).Perm l
  | [] => .refl _
  | x :: xs => (insP_perm x (psort xs)).trans ((psort_perm xs).cons x)
theorem insP_sorted (x : Pr) : ∀ {l : List Pr}, l.Pairwise (fun p q => leP p q = true) → (insP x l).Pairwise fun p q => leP p q = true
  | [], _ => by simp [insP]
  | y :: ys, h => by
    unfold insP
    have h2 := List.pairwise_cons.mp h
    split
    · rename_i q
      refine List.pairwise_cons.mpr ⟨fun z m => ?_, h⟩
      rcases List.mem_cons.mp m with rfl | m
      · exact q
      · have a := leP_iff.mp q
        have b := leP_iff.mp (h2.1 z m)
        exact leP_iff.mpr (by omega)
    · rename_i q
      refine List.pairwise_cons.mpr ⟨fun z m => ?_, insP_sorted x h2.2⟩
      rcases List.mem_cons.mp ((insP_perm x ys).mem_iff.mp m) with rfl | m
      · rw [leP_iff] at q
        exact leP_iff.mpr (by omega)
      · exact h2.1 z m
theorem psort_sorted : ∀ l : List Pr, (psort l).Pairwise fun p q => leP p q = true
  | [] => .nil
  | x :: xs => insP_sorted x (psort_sorted xs)
theorem psorted_one : ∀ {a b : List Pr}, a.Perm b → a.Pairwise (fun p q => leP p q = true) → b.Pairwise (fun p q => leP p q = true) → a = b
  | [], b, p, _, _ => by rw [List.nil_perm.mp p]
  | x :: a, [], p, _, _ => by have := p.length_eq; simp at this
  | x :: a, y :: b, p, s, t => by
    obtain ⟨s1, s2⟩ := List.pairwise_cons.mp s
    obtain ⟨t1, t2⟩ := List.pairwise_cons.mp t
    have e : x = y := by
      have h1 : x ∈ y :: b := p.mem_iff.mp (List.mem_cons_self ..)
      have h2 : y ∈ x :: a := p.mem_iff.mpr (List.mem_cons_self ..)
      rcases List.mem_cons.mp h1 with z | z
      · exact z
      · rcases List.mem_cons.mp h2 with w | w
        · exact w.symm
        · have c1 := leP_iff.mp (t1 x z)
          have c2 := leP_iff.mp (s1 y w)
          obtain ⟨x1, x2⟩ := x
          obtain ⟨y1, y2⟩ := y
          simp only at c1 c2
          rw [Prod.mk.injEq]
          omega
    subst e
    rw [psorted_one (List.Perm.cons_inv p) s2 t2]
section
variable {prog : Program} {w : World}
end
def tupP (p : Pr) : HO := .tup [.int p.1, .int p.2]
def sqP (p : Pr) : D := .tuple [.int p.1, .int p.2]
theorem RepA.tups {K : Fg} {H : Hp} : ∀ {bs : List Addr} {ps : List Pr}, bs.map H = ps.map (fun p => some (tupP p)) → RepA K H (bs.map V.ref) (ps.map sqP)
  | [], [], _ => .nil
  | [], _ :: _, e => by cases e
  | _ :: _, [], e => by cases e
  | b :: bs, p :: ps, e => by
    rw [List.map_cons, List.map_cons] at e
    injection e with e1 e2
    exact .cons (.tup e1 (.cons (.int _) (.cons (.int _) .nil))) (RepA.tups e2)
end DL
namespace DL
open PySem PySem.Spec PyProof.Rows L2
section
variable {K : Fg} {P : Pin} {Hs H : Hp}
theorem TreA.del : ∀ {vs : List V} {ds : List D} {f : List Addr} {k : Nat}, TreA K P Hs H vs ds f → k < ds.length → ∃ f1 fk f2, f = f1 ++ (fk ++ f2) ∧
    ∀ Hs' H', Same Hs Hs' → (∀ b ∈ f1 ++ f2, (∀ u, H b = some u → H' b = some u) ∧ Hs' b = none) → TreA K P Hs' H' (vs.eraseIdx k) (ds.eraseIdx k) (f1 ++ f2)
  | _, _, _, _, .nil, h => absurd h (Nat.not_lt_zero _)
  | _, _, _, 0, .cons (f := fa) (g := ga) a b, _ => ⟨[], fa, ga, rfl, fun Hs' H' e st => b.mono e (fun _ _ z => z) (fun c m => (st c m).1) fun c m _ => (st c m).2⟩
  | _, _, _, k + 1, .cons (f := fa) (g := ga) a b, h => by
    obtain ⟨f1, fk, f2, h2, h4⟩ := b.del (k := k) (by simpa using h)
    refine ⟨fa ++ f1, fk, f2, by rw [h2, List.append_assoc], fun Hs' H' e st => ?_⟩
    rw [List.append_assoc] at st ⊢
    exact .cons (a.mono e (fun _ _ z => z) (fun c m => (st c (List.mem_append_left _ m)).1) fun c m _ => (st c (List.mem_append_left _ m)).2) (h4 Hs' H' e fun c m => st c (List.mem_append_right _ m))
end
section
variable {X : Cx} {B : Bs} {W : WX} {pos : Pos} {h : En → Option D} {i : Nat} {g : En → Option (List Nat)}
theorem seq_nat {k n : Nat} (h : k < n) : seqIndex? (k : Int) n = some k := by
  unfold seqIndex?
  simp
  omega
end
end DL
set_option maxHeartbeats 2000000
namespace DH
open PySem PySem.Spec PyProof.Rows L2 HotX L2H
section
variable {prog : Program} {w : World} {A : Around} {E : Value → Shared → Prop} {s : Shared}
end
section
variable {X : Cx} {pos : Pos}
end
end DH
set_option maxHeartbeats 2000000
namespace DH
open PySem PySem.Spec PyProof.Rows L2 HotX L2H
section
variable {X : Cx} {pins : List (Addr × Obj)} {σ : L2.St} {H : Hp} {s : Shared}
end
end DH
set_option maxHeartbeats 2000000
namespace DH
open PySem PySem.Spec PyProof.Rows L2 HotX L2H DL
section
variable {X : Cx} {k : Nat} {f : Addr} {fd : FuncData} {ps : List Str} {sp : EO → Sp} {x : Str} {q pos : Pos} {e : Expr} {es : List Expr} {t : TA} {p : EO}
end
section
variable {X : Cx} {B : Bs} {W : WX} {p : EO} {fa fb : EF} {e : Expr} {pos : Pos}
end
section
variable {X : Cx} {B : Bs} {W : WX} {elt tg iter e : Expr} {ifs : List Expr} {es : List Expr} {scope : Scope} {own : List (Str × Nat)} {pos : Pos} {t : Tg} {ts : List Tg} {src : En → O (List D)} {tt : BF} {fe fa : EF}
theorem PIH.imp {t t' : TI} (h : PIH X tg e t) (i : ∀ σ H R, t' σ H R → t σ H R) : PIH X tg e t' := ⟨fun pins s σ H R I q => h.run pins s σ H R I (i σ H R q)⟩
end
end DH
set_option maxHeartbeats 2000000
namespace DH
open PySem PySem.Spec PyProof.Rows L2 HotX L2H DL LamX
section
variable {X : Cx} {pins : List (Addr × Obj)} {σ : L2.St} {H HZ : Hp} {s s1 : Shared}
/-- the def that calls what it was handed: TT, what it makes of the lambda's reading -/
def GivesN (m : Nat) (X : Cx) (Ng : List Str) (x : Str) (sg : Scope) (g : Addr) (cdg : Value) (bg : List Stmt) (a : Str) (q : Str) (TT : (XK → Hp → VK → Prop) → Hp → VK → Prop) : Prop := ∀ (f c' : Addr) (s : Shared) (H : Hp) (Q : VK) (tl : XK → Hp → VK → Prop), Room m (X.A.deeper (envOfC x sg s.heap.objs.size g cdg)) →
  (∀ (W : WX) (pn : List (Addr × Obj)) (xe : Value → Shared → Prop) (E : XK) (p1 p2 : Pos), L2N.Takes ((cxOf C8.CX0 X.prog X.w X.K X.mg X.base Ng x sg g cdg X.A X.stack s H C8.E0).tr pn xe) W → (∀ cls d σ' H', E cls d H' → W cls d σ' H') →
    PE ((cxOf C8.CX0 X.prog X.w X.K X.mg X.base Ng x sg g cdg X.A X.stack s H C8.E0).tr pn xe) (.Call (.Name a p1) [] [] p2) (fun σZ HZ Q => σZ[0]? = some (some (.ref f)) ∧ HZ c' = some (CodeO c' q) ∧ tl E HZ Q)) →
  H c' = some (CodeO c' q) → TT tl H Q → ∃ t, PSs (cxOf C8.CX0 X.prog X.w X.K X.mg X.base Ng x sg g cdg X.A X.stack s H C8.E0).nox bg t ∧ t { nx := fun _ H' => Q .non H', rt := Q } (L2.start Ng [.ref f]) H
/-- the table at P with one more code object, or as it was -/
def Made (H : Hp) (P : Addr) (q : Str) (H1 : Hp) (c' : Addr) : Prop := (H1 = H ∧ ∃ ps : Array Value, H P = some (.tbl ps) ∧ H c' = some (CodeO c' q) ∧ ∃ pos, codeAmong pos ps.toList = some (.ref c')) ∨
  ∃ (ps : Array Value) (pos : Pos), H P = some (.tbl ps) ∧ H c' = none ∧ H1 = upd (upd H P (.tbl (ps ++ #[rawInt pos.line, rawInt pos.col, .ref c']))) c' (CodeO c' q)
end
end DH
set_option maxHeartbeats 2000000
namespace DH
open PySem PySem.Spec PyProof.Rows L2 HotX L2H DL LamX
section
variable {K : Fg} {B : Bs} {Hs H H1 : Hp} {σ : L2.St} {ρ : En}
theorem Sl.made {i : Nat} {T : List (Addr × Str)} {P c' : Addr} {q : Str} (sl : Sl K B Hs H σ ρ) (hi : ρ[i]? = some (.tab T)) (hu : ∀ p ∈ T, p.1 = P → p.2 = q) (hP : ∃ p ∈ T, p.1 = P) (m : Made H P q H1 c') : Sl K B Hs H1 σ ρ := by
  rcases m with ⟨rfl, _⟩ | ⟨ps, pos, h1, h2, rfl⟩
  · exact sl
  obtain ⟨y, ey⟩ := sl_var sl hi
  obtain ⟨F, fe⟩ := sl.feet
  obtain ⟨tf, tn⟩ : Feet K B Hs H y (.tab T) (F i) := fe.at_ i y _ ey hi
  have inP : P ∈ F i := by
    obtain ⟨p, hp, e⟩ := hP
    rw [← e]; exact (tf.2 p hp).1
  have nPc : P ≠ c' := ne_of_none h1 h2
  have sP : Hs P = none := (tf.1 P inP).2
  have sc : Hs c' = none := sl.sub.free h2
  generalize hQ : (ps ++ #[rawInt pos.line, rawInt pos.col, .ref c'] : Array Value) = ps2
  have at_ : ∀ b, b ≠ P → b ≠ c' → upd (upd H P (.tbl ps2)) c' (CodeO c' q) b = H b := fun b a1 a2 => by rw [upd_ne a2, upd_ne a1]
  have atP : upd (upd H P (.tbl ps2)) c' (CodeO c' q) P = some (.tbl ps2) := by rw [upd_ne nPc, upd_same]
  have atc : upd (upd H P (.tbl ps2)) c' (CodeO c' q) c' = some (CodeO c' q) := upd_same
  have nc : ∀ b o, H b = some o → b ≠ c' := fun b o e z => by rw [z, h2] at e; cases e
  -- what is neither P nor new
  have kp : ∀ b o, H b = some o → b ≠ P → upd (upd H P (.tbl ps2)) c' (CodeO c' q) b = some o := fun b o e n => by rw [at_ b n (nc b o e)]; exact e
  have sub : Same Hs (upd (upd H P (.tbl ps2)) c' (CodeO c' q)) := fun b o e => kp b o (sl.sub b o e) fun z => by rw [z, sP] at e; cases e
  have mayP : B.nw P ∨ B.own0 P := tn P inP
  have notc : ∀ j, c' ∉ F j := fun j hm => by
    cases e : ρ[j]? with
    | none => rw [fe.out j e] at hm; cases hm
    | some s =>
      obtain ⟨x, ex⟩ := sl_var sl e
      obtain ⟨⟨o, eo, _⟩, _⟩ := (fe.at_ j x s ex e).there (sl.ok j x s ex e) c' hm
      rw [h2] at eo; cases eo
  have tf2 : TabF Hs (upd (upd H P (.tbl ps2)) c' (CodeO c' q)) T (c' :: F i) := by
    have code_ne : ∀ b r, H b = some (CodeO b r) → b ≠ P := fun b r e z => by
      rw [z, h1] at e
      have z2 : HO.tbl ps = CodeO P r := Option.some.inj e
      exact codeO_ne ps z2.symm
    refine ⟨fun a hm => ?_, fun p hp => ?_⟩
    · rcases List.mem_cons.mp hm with rfl | hm
      · exact ⟨⟨_, atc, fun xs z => by unfold CodeO at z; cases z⟩, sc⟩
      · obtain ⟨⟨o, eo, nt⟩, z⟩ := tf.1 a hm
        by_cases hb : a = P
        · subst hb; exact ⟨⟨_, atP, fun xs z => by cases z⟩, z⟩
        · exact ⟨⟨o, kp a o eo hb, nt⟩, z⟩
    · obtain ⟨m0, ps0, g1, g2, g3⟩ := tf.2 p hp
      refine ⟨List.mem_cons_of_mem _ m0, ?_⟩
      by_cases hb : p.1 = P
      · have eq := hu p hp hb
        rw [hb] at g1
        rw [h1] at g1
        cases g1
        refine ⟨ps2, by rw [hb]; exact atP, ?_, fun p' cv hc => ?_⟩
        · rw [← hQ, show (ps ++ #[rawInt pos.line, rawInt pos.col, Value.ref c']).toList = ps.toList ++ [rawInt pos.line, rawInt pos.col, .ref c'] by simp]
          exact PySem.TriplesOk_snoc _ _ _ _ g2
        · rw [← hQ, show (ps ++ #[rawInt pos.line, rawInt pos.col, Value.ref c']).toList = ps.toList ++ [rawInt pos.line, rawInt pos.col, .ref c'] by simp] at hc
          rcases among_app _ g2 hc with z | z
          · obtain ⟨c0, i0, e1, e2⟩ := g3 p' cv z
            exact ⟨c0, List.mem_cons_of_mem _ i0, e1, kp _ _ e2 (code_ne c0 _ e2)⟩
          · exact ⟨c', List.mem_cons_self, z, by rw [eq]; exact atc⟩
      · refine ⟨ps0, kp _ _ g1 hb, g2, fun p' cv hc => ?_⟩
        obtain ⟨c0, i0, e1, e2⟩ := g3 p' cv hc
        exact ⟨c0, List.mem_cons_of_mem _ i0, e1, kp _ _ e2 (code_ne c0 _ e2)⟩
  have tn2 : ∀ a ∈ c' :: F i, B.nw a ∨ B.own0 a := fun a hm => by
    rcases List.mem_cons.mp hm with rfl | hm
    · exact .inl (sl.nw_of h2)
    · exact tn a hm
  have kj : ∀ (j : Nat), i ≠ j → ∀ a ∈ F j, ∀ o, H a = some o → upd (upd H P (.tbl ps2)) c' (CodeO c' q) a = some o := fun j hij a hm o e => kp a o e fun z => fe.dis i j hij a (by rw [z]; exact inP) hm
  refine ⟨sl.len, fun j x s a b => ?_, sub, sl.base, fun a => ?_, fun a o e w w1 => ?_, fun a w => ?_, fun j => if i = j then c' :: F i else F j, ⟨fun j x s a b => ?_, fun j a => ?_, fun j k hjk a ha hb => ?_⟩⟩
  · by_cases hij : i = j
    · subst hij
      rw [hi] at b; cases b
      exact ⟨_, tf2, tn2⟩
    · exact (sl.ok j x s a b).stays (fe.at_ j x s a b) (.refl _) (kj j hij) fun _ _ z => z
  · rcases sl.new a with z | z | z | ⟨xs, z⟩
    · exact .inl z
    · exact .inr (.inl z)
    · exact .inr (.inr (.inl z))
    · refine .inr (.inr (.inr ⟨xs, kp a _ z fun e => ?_⟩))
      rw [e, h1] at z; cases z
  · refine kp a o (sl.keep a o e w w1) fun z => ?_
    subst z
    rcases mayP with (y | y) | y
    · rw [e] at y; cases y
    · exact w1 y
    · exact w y
  · obtain ⟨o, e⟩ := sl.there a w
    by_cases z : a = P
    · exact ⟨_, by rw [z]; exact atP⟩
    · exact ⟨o, kp a o e z⟩
  · by_cases hij : i = j
    · subst hij
      rw [hi] at b; cases b
      rw [if_pos rfl]
      exact ⟨tf2, tn2⟩
    · rw [if_neg hij]
      exact (fe.at_ j x s a b).mono (.refl _) (kj j hij) fun _ _ z => z
  · by_cases hij : i = j
    · subst hij; rw [hi] at a; cases a
    · rw [if_neg hij]; exact fe.out j a
  · by_cases e1 : i = j
    · rw [if_pos e1] at ha
      rw [if_neg (fun z => hjk (e1.symm.trans z))] at hb
      rcases List.mem_cons.mp ha with rfl | ha
      · exact notc k hb
      · exact fe.dis i k (fun z => hjk (e1.symm.trans z)) a ha hb
    · rw [if_neg e1] at ha
      by_cases e2 : i = k
      · rw [if_pos e2] at hb
        rcases List.mem_cons.mp hb with rfl | hb
        · exact notc j ha
        · exact fe.dis i j e1 a hb ha
      · rw [if_neg e2] at hb
        exact fe.dis j k hjk a ha hb
end
end DH
set_option maxHeartbeats 2000000
namespace DH
open PySem PySem.Spec PyProof.Rows L2 HotX L2H DL LamX
section
variable {P : Program} {w : World} {K : Fg} {mg : MG} {base : Heap}
end
def TTw (mg : MG) (kt : Kt) (tl : XK → Hp → VK → Prop) (H : Hp) (Q : VK) : Prop :=
  tl (fun cls od H' => ∃ x C z, mg x = some (.ref C) ∧ cls = .ref C ∧ od = none ∧ (x, z) ∈ kt ∧ ∀ H'', Same H' H'' → Q (.str z) H'') H fun _ H' => Q (.str (Str.ofString "")) H'
theorem takes0N {X : Cx} : L2N.Takes X (fun _ _ _ _ => False) := fun _ _ x => by
  obtain ⟨_, _, _, _, _, _, _, _, _, _, _, _, _, _, _, _, z⟩ := x
  exact z.elim
structure DefWord (P : Program) (w : World) (K : Fg) (mg : MG) (base : Heap) (k : Nat) (x : Str) (f : Addr) (kt : Kt) : Prop where
  ex : ∃ (pg : Arguments) (bg : List Stmt) (sg : Scope) (dV kV doc pm cdv ct oc : Value) (an od : Option Addr) (osl : Array (Option Value)) (Ng : List Str) (a : Str), mg x = some (.ref f) ∧ PySem.W.keepIn K (.ref f) = true ∧
    K.lookup f = some ⟨oc, od, .func (PySem.W.fnOf x x pg bg sg dV kV doc pm an cdv ct), osl⟩ ∧ PySem.W.codeIn K cdv x = true ∧ L2.Binds K (PySem.W.fnOf x x pg bg sg dV kV doc pm an cdv ct) [a] [] ∧ FnScope Ng [a] sg ∧ Ng[0]? = some a ∧ Vis sg a ∧ (a == ("__debug__" : Str)) = false ∧ (a == ("__classdict__" : Str)) = false ∧
    ∀ (X : Cx) (q : Str), X.prog = P → X.w = w → X.K = K → X.mg = mg → X.base = base → GivesN k X Ng x sg f cdv bg a q (TTw mg kt)
end DH
namespace DL
open PySem PySem.Spec PyProof.Rows L2 LamX
section
variable {P : Program} {w : World} {K : Fg} {mg : MG} {base : Heap}
end
end DL
namespace DH
open PySem PySem.Spec PyProof.Rows L2 HotX L2H DL LamX
theorem DefWord.mono {P : Program} {w : World} {K : Fg} {mg : MG} {base : Heap} {j k : Nat} {x : Str} {f : Addr} {kt : Kt} (G : DefWord P w K mg base j x f kt) (h : j ≤ k) : DefWord P w K mg base k x f kt := by
  obtain ⟨pg, bg, sg, dV, kV, doc, pm, cdv, ct, oc, an, od, osl, Ng, a, h1, h2, h3, h4, h5, h6, h7, h8, h9, h10, h11⟩ := G.ex
  exact ⟨pg, bg, sg, dV, kV, doc, pm, cdv, ct, oc, an, od, osl, Ng, a, h1, h2, h3, h4, h5, h6, h7, h8, h9, h10, fun X q e1 e2 e3 e4 e5 f c' s H Q tl hr => h11 X q e1 e2 e3 e4 e5 f c' s H Q tl (hr.mono h)⟩
end DH
namespace DL
open PySem PySem.Spec PyProof.Rows L2
def lstOf : D → List D
  | .list ds => ds
  | _ => []
end DL
namespace DL
open PySem PySem.Spec PyProof.Rows L2
section
variable {α β : Type} {lt : α → α → Bool}
def insB (lt : α → α → Bool) (x : α) : List α → List α
  | [] => [x]
  | y :: ys => if lt y x = true then y :: insB lt x ys else x :: y :: ys
def sortB (lt : α → α → Bool) : List α → List α
  | [] => []
  | x :: xs => insB lt x (sortB lt xs)
theorem insB_stb (O : SrtO.Swo lt) (x : α) : ∀ l : List α, SrtO.Stb lt (insB lt x l) (x :: l)
  | [] => .refl _
  | y :: ys => by
    unfold insB
    split
    · rename_i h
      have a : SrtO.Stb lt ([y] ++ insB lt x ys) ([y] ++ (x :: ys)) := (SrtO.Stb.refl [y]).app (insB_stb O x ys)
      have b : SrtO.Stb lt (([y] ++ [x]) ++ ys) (([x] ++ [y]) ++ ys) := (SrtO.Stb.swap O fun a ha b hb => by
        rw [List.mem_singleton.mp ha, List.mem_singleton.mp hb]; exact h).app (SrtO.Stb.refl ys)
      exact a.trans b
    · exact .refl _
theorem sortB_stb (O : SrtO.Swo lt) : ∀ l : List α, SrtO.Stb lt (sortB lt l) l
  | [] => .refl _
  | x :: xs => (insB_stb O x _).trans ((SrtO.Stb.refl [x]).app (sortB_stb O xs))
theorem insB_srtd (O : SrtO.Swo lt) (x : α) : ∀ {l : List α}, SrtO.Srtd lt l → SrtO.Srtd lt (insB lt x l)
  | [], _ => SrtO.srtd_one x
  | y :: ys, h => by
    unfold insB
    have h2 := List.pairwise_cons.mp h
    split
    · rename_i q
      refine List.pairwise_cons.mpr ⟨fun z m => ?_, insB_srtd O x h2.2⟩
      rcases List.mem_cons.mp ((insB_stb O x ys).perm.mem_iff.mp m) with rfl | m
      · exact O.asym _ _ q
      · exact h2.1 z m
    · rename_i q
      have q : lt y x = false := by cases e : lt y x <;> simp_all
      refine List.pairwise_cons.mpr ⟨fun z m => ?_, h⟩
      rcases List.mem_cons.mp m with rfl | m
      · exact q
      · exact O.tr _ _ _ q (h2.1 z m)
theorem sortB_srtd (O : SrtO.Swo lt) : ∀ l : List α, SrtO.Srtd lt (sortB lt l)
  | [] => .nil
  | x :: xs => insB_srtd O x (sortB_srtd O xs)
theorem insB_map {lt : β → β → Bool} (f : α → β) (x : α) : ∀ l : List α, (insB (fun a b => lt (f a) (f b)) x l).map f = insB lt (f x) (l.map f)
  | [] => rfl
  | y :: ys => by
    rw [List.map_cons]
    unfold insB
    by_cases h : lt (f y) (f x) = true
    · rw [if_pos h, if_pos h, List.map_cons, insB_map f x ys]
    · rw [if_neg h, if_neg h]; rfl
theorem sortB_map {lt : β → β → Bool} (f : α → β) : ∀ l : List α, (sortB (fun a b => lt (f a) (f b)) l).map f = sortB lt (l.map f)
  | [] => rfl
  | x :: xs => by
    unfold sortB
    rw [insB_map, sortB_map f xs, List.map_cons] <;> rfl
end
abbrev Qd := Pr × Pr
def ltQ (a b : Qd) : Bool := if a.1 = b.1 then SrtO.lexB a.2 b.2 else SrtO.lexB a.1 b.1
theorem ltQ_iff {a b : Qd} : ltQ a b = true ↔ a.1.1 < b.1.1 ∨ (a.1.1 = b.1.1 ∧ (a.1.2 < b.1.2 ∨ (a.1.2 = b.1.2 ∧ (a.2.1 < b.2.1 ∨ (a.2.1 = b.2.1 ∧ a.2.2 < b.2.2))))) := by
  unfold ltQ
  by_cases h : a.1 = b.1
  · rw [if_pos h, SrtO.lexB_iff, h]; omega
  · rw [if_neg h, SrtO.lexB_iff]
    have : ¬ (a.1.1 = b.1.1 ∧ a.1.2 = b.1.2) := fun ⟨x, y⟩ => h (Prod.ext x y)
    omega
theorem ltQ_no {a b : Qd} : ltQ a b = false ↔ ¬ (a.1.1 < b.1.1 ∨ (a.1.1 = b.1.1 ∧ (a.1.2 < b.1.2 ∨ (a.1.2 = b.1.2 ∧ (a.2.1 < b.2.1 ∨ (a.2.1 = b.2.1 ∧ a.2.2 < b.2.2)))))) := by
  rw [← ltQ_iff]
  cases ltQ a b <;> simp
theorem swo_ltQ {α : Type} (k : α → Qd) : SrtO.Swo fun v u => ltQ (k v) (k u) := by
  refine ⟨fun x y h => ?_, fun x y z h1 h2 => ?_⟩
  · have a := ltQ_iff.mp h
    refine ltQ_no.mpr ?_
    omega
  · have a := ltQ_no.mp h1
    have b := ltQ_no.mp h2
    refine ltQ_no.mpr ?_
    omega
def IsQuad (h : Heap) (v : Value) (q : Qd) : Prop := ∃ a o b c n, v = .ref a ∧ h.get? a = some o ∧ o.cls = .type "tuple" ∧ o.data = .seq #[b, c] n ∧ Srt.IsPair h b q.1.1 q.1.2 ∧ Srt.IsPair h c q.2.1 q.2.2
theorem IsQuad.keeps {h h' : Heap} {v : Value} {q : Qd} (p : IsQuad h v q) (k : ∀ b o, h.get? b = some o → o.cls = .type "tuple" → h'.get? b = some o) : IsQuad h' v q := by
  obtain ⟨a, o, b, c, n, e, ho, hc, hd, p1, p2⟩ := p
  exact ⟨a, o, b, c, n, e, k _ _ ho hc, hc, hd, p1.keeps k, p2.keeps k⟩
section
variable {prog : Program} {w : World} {A : Around} {s : Shared} {E : Value → Shared → Prop}
theorem isTuple_of {a : Addr} {o : Obj} {xs : Array Value} {n : Nat} (ho : s.heap.get? a = some o) (hc : o.cls = .type "tuple") (hd : o.data = .seq xs n) : s.heap.IsTuple a xs := ⟨o, ho, hc, n, hd⟩
theorem pair_eqB {v u : Value} {p q : Pr} (hu : A.units < cLine) (h1 : Srt.IsPair s.heap v p.1 p.2) (h2 : Srt.IsPair s.heap u q.1 q.2) : SeqAt.EqAt A s v u (decide (p = q)) := by
  obtain ⟨a, o, t1, t2, n, rfl, ho, hc, hd⟩ := h1
  obtain ⟨b, o', u1, u2, m, rfl, ho', hc', hd'⟩ := h2
  by_cases hab : a = b
  · subst hab
    rw [ho] at ho'
    cases ho'
    rw [hd] at hd'
    injection hd' with e1 e2
    have e3 := congrArg Array.toList e1
    simp only [List.cons.injEq, Value.int.injEq] at e3
    have : p = q := Prod.ext e3.1.1 e3.2.1.1
    rw [decide_eq_true this]
    exact SeqAt.EqAt.same _
  · have r := SeqAt.EqAt.of_refs hab (SeqAt.RcAt.tuples (e := fun j => if j = 0 then p.1 == q.1 else p.2 == q.2) (isTuple_of ho hc hd) (isTuple_of ho' hc' hd') hu fun j j1 j2 => by
      match j, j1 with
      | 0, _ => exact SeqAt.EqAt.int_int p.1 t1 q.1 u1
      | 1, _ => exact SeqAt.EqAt.int_int p.2 t2 q.2 u2
      | j + 2, j1 => exact absurd j1 (by simp))
    have e : ((List.range (min (#[Value.int p.1 t1, Value.int p.2 t2] : Array Value).size (#[Value.int q.1 u1, Value.int q.2 u2] : Array Value).size)).all (fun j => if j = 0 then p.1 == q.1 else p.2 == q.2) && (#[Value.int p.1 t1, Value.int p.2 t2] : Array Value).size == (#[Value.int q.1 u1, Value.int q.2 u2] : Array Value).size) = decide (p = q) := by
      show ((p.1 == q.1 && (p.2 == q.2 && true)) && true) = decide (p = q)
      rw [Bool.and_true, Bool.and_true]
      obtain ⟨p1, p2⟩ := p
      obtain ⟨q1, q2⟩ := q
      simp only [Prod.mk.injEq]
      by_cases h1 : p1 = q1 <;> by_cases h2 : p2 = q2 <;> simp [h1, h2]
    rw [e] at r
    exact r
theorem lexLt2 (p q : Pr) : HT.lexLt [p.1, p.2] [q.1, q.2] = SrtO.lexB p q := by
  obtain ⟨a, b⟩ := p
  obtain ⟨c, d⟩ := q
  unfold SrtO.lexB
  by_cases h : a = c
  · subst h
    by_cases h2 : b = d
    · subst h2; simp [HT.lexLt]
    · simp [HT.lexLt, h2]
  · simp [HT.lexLt, h]
theorem pair_lt {v u : Value} {p q : Pr} {Q : Value → Shared → Prop} (hu : A.units < cLine) (h1 : Srt.IsPair s.heap v p.1 p.2) (h2 : Srt.IsPair s.heap u q.1 q.2) (h : Q (.bool (SrtO.lexB p q)) s) : wpAny (model prog w) A (compareOp .Lt v u) Q E s := by
  obtain ⟨a, o, t1, t2, n, rfl, ho, hc, hd⟩ := h1
  obtain ⟨b, o', u1, u2, m, rfl, ho', hc', hd'⟩ := h2
  refine HT.lt_tupInts (isTuple_of ho hc hd) (isTuple_of ho' hc' hd') (ns := [p.1, p.2]) (ms := [q.1, q.2]) (.cons _ _ (.cons _ _ .nil)) (.cons _ _ (.cons _ _ .nil)) hu ?_
  rw [lexLt2]
  exact h
theorem quad_cmp {vs : List Value} {k : Value → Qd} (hu : A.units < cLine) (hp : ∀ v ∈ vs, IsQuad s.heap v (k v)) : SrtO.Cmp prog w A s (tuples' false) (fun p => p.1 ∈ vs) (SrtO.lt2 fun v u => ltQ (k v) (k u)) := by
  intro p q hm hm'
  have h1 := hp _ hm
  have h2 := hp _ hm'
  show wpAny (model prog w) A (keyLt' (tuples' false) p.1 q.1) (fun r s' => s' = s ∧ r = ltQ (k p.1) (k q.1)) (fun _ _ => False) s
  generalize k p.1 = x at h1 ⊢
  generalize k q.1 = y at h2 ⊢
  obtain ⟨a, o, b, c, n, e, ho, hc, hd, p1, p2⟩ := h1
  obtain ⟨a', o', b', c', n', e', ho', hc', hd', q1, q2⟩ := h2
  rw [e, e']
  refine PySem.W.kat_lt ho hd ho' hd' ?_
  show PySem.W.KatLex prog w A false (decide (2 < 2)) _ [(b, b'), (c, c')] 0 s
  refine PySem.W.kat_cons (pair_eqB hu p1 q1 prog w _ _ ?_)
  refine PySem.W.kat_go (fun e1 => ?_) (fun e1 => ?_)
  · have ex : x.1 = y.1 := of_decide_eq_true e1
    refine PySem.W.kat_yes (PySem.W.kat_cons (pair_eqB hu p2 q2 prog w _ _ ?_))
    refine PySem.W.kat_go (fun e2 => ?_) (fun e2 => ?_)
    · have ey : x.2 = y.2 := of_decide_eq_true e2
      refine PySem.W.kat_yes (PySem.W.kat_nil ⟨rfl, ?_⟩)
      rw [Prod.ext ex ey]
      exact ((swo_ltQ (fun v : Qd => v)).refl y).symm
    · refine PySem.W.kat_no (PySem.W.kat_one _ _ (pair_lt hu p2 q2 ?_))
      exact (show s = s ∧ SrtO.lexB x.2 y.2 = ltQ x y from ⟨rfl, by unfold ltQ; rw [if_pos ex]⟩)
  · have ex : ¬ x.1 = y.1 := of_decide_eq_false e1
    refine PySem.W.kat_no (PySem.W.kat_one _ _ (pair_lt hu p1 q1 ?_))
    exact (show s = s ∧ SrtO.lexB x.1 y.1 = ltQ x y from ⟨rfl, by unfold ltQ; rw [if_neg ex]⟩)
theorem firstsQ : ∀ {vs : List Value} {k : Value → Qd} {h : Heap}, (∀ v ∈ vs, IsQuad h v (k v)) → ∃ fs, PySem.W.KatTups h vs fs ∧ fs.length = vs.length ∧ ∀ f ∈ fs, ∃ p : Pr, Srt.IsPair h f p.1 p.2
  | [], _, _, _ => ⟨[], .nil, rfl, fun _ m => absurd m (by simp)⟩
  | v :: vs, k, h, hp => by
    obtain ⟨fs, h1, h2, h3⟩ := firstsQ (vs := vs) (k := k) (h := h) fun u m => hp u (List.mem_cons_of_mem _ m)
    obtain ⟨a, o, b, c, n, e, ho, hc, hd, p1, p2⟩ := hp v List.mem_cons_self
    refine ⟨b :: fs, ?_, by rw [List.length_cons, List.length_cons, h2], fun f m => ?_⟩
    · rw [e]; exact .cons ho hc hd rfl h1
    · rcases List.mem_cons.mp m with rfl | m
      · exact ⟨_, p1⟩
      · exact h3 f m
theorem quads_sortableO {a : Addr} {vs : List Value} {k : Value → Qd} (hu : A.units < cLine) (h0 : 0 < vs.length) (hp : ∀ v ∈ vs, IsQuad s.heap v (k v)) (ha : ∀ o, s.heap.get? a = some o → o.cls ≠ .type "tuple") : SrtO.SortableO prog w A s a vs fun v u => ltQ (k v) (k u) := by
  intro h' keep
  have hp' : ∀ v ∈ vs, IsQuad h' v (k v) := fun v hm => (hp v hm).keeps fun b o e c => keep b o (fun z => by subst z; exact ha o e c) e
  obtain ⟨fs, h1, h2, h3⟩ := firstsQ hp'
  refine ⟨tuples' false, fun Q E hq => ?_, quad_cmp (s := { s with heap := h' }) hu hp'⟩
  refine PySem.W.kat_kind (T := .type "tuple") h1 (by omega) (fun f hm => ?_) (by rfl) ?_
  · obtain ⟨p, b, o, t1, t2, n, rfl, ho, hc, hd⟩ := h3 f hm
    rw [← hc]
    exact (PySem.W.Looks.ld ho).andThen .now
  · have e : (Value.type "tuple" != Value.type "tuple") = false := by first | decide +kernel | rfl | decide
    rw [e]
    exact hq
theorem sorted_quads {l : Addr} {vs : List Value} {k : Value → Qd} {Q : Value → Shared → Prop} (hu : A.units + 2 < cLine) (hl : s.heap.IsList l vs.toArray) (hz : vs.length ≤ sizeLine) (hp : ∀ v ∈ vs, IsQuad s.heap v (k v))
    (h : ∀ (h' : Heap) (d : Addr), (∀ b o, s.heap.get? b = some o → h'.get? b = some o) → s.heap.objs.size ≤ d → (∃ n, h'.get? d = some (seqObj "list" (sortB (fun v u => ltQ (k v) (k u)) vs).toArray n)) → Q (.ref d) { s with heap := h' }) :
    wpAny (model prog w) A (call (.builtin "sorted") [.ref l]) Q E s := by
  refine SrtO.sorted_ord (swo_ltQ k) hl hz (fun h2 h₁ a ha kk => ?_) fun out hs hb => ?_
  · refine quads_sortableO (s := { s with heap := h₁ }) (by show A.units + 1 + 1 < cLine; omega) (by omega) (fun v hm => (hp v hm).keeps fun b o e _ => (kk b o e).2) fun o e => ?_
    have e' : some o = some (seqObj "list" vs.toArray 0) := e.symm.trans ha
    cases e'
    intro c
    exact absurd (Value.type.inj c) (by decide)
  · have : out = sortB (fun v u => ltQ (k v) (k u)) vs := SrtO.stb_uniq (swo_ltQ k) hs (sortB_srtd (swo_ltQ k) vs) (hb.trans ⟨(sortB_stb (swo_ltQ k) vs).perm.symm, fun x => ((sortB_stb (swo_ltQ k) vs).cls x).symm⟩)
    rw [this]
    exact h _ _ (fun b o e => sortedAll_old e) (Nat.le_succ _) (sortedAll_at s.heap vs _)
end
end DL
namespace DL
open PySem PySem.Spec PyProof.Rows L2
def prOf : D → Option Pr
  | .tuple [.int i, .int j] => some (i, j)
  | _ => none
theorem prOf_eq {d : D} {p : Pr} (h : prOf d = some p) : d = sqP p := by
  unfold prOf at h
  split at h
  · cases h; rfl
  · cases h
def prL : List D → Option (List Pr)
  | [] => some []
  | d :: ds => (prOf d).bind fun p => (prL ds).map (p :: ·)
def qdOf : D → Option Qd
  | .tuple [a, b] => (prOf a).bind fun p => (prOf b).map fun q => (p, q)
  | _ => none
def sqQ (q : Qd) : D := .tuple [sqP q.1, sqP q.2]
theorem qdOf_eq {d : D} {q : Qd} (h : qdOf d = some q) : d = sqQ q := by
  unfold qdOf at h
  split at h
  · rename_i a b
    cases ea : prOf a with
    | none => rw [ea] at h; cases h
    | some p =>
      cases eb : prOf b with
      | none => rw [ea, eb] at h; cases h
      | some p2 =>
        rw [ea, eb] at h
        cases h
        rw [prOf_eq ea, prOf_eq eb]
        rfl
  · cases h
def qdL : List D → Option (List Qd)
  | [] => some []
  | d :: ds => (qdOf d).bind fun p => (qdL ds).map (p :: ·)
theorem prL_eq : ∀ {ds : List D} {ps : List Pr}, prL ds = some ps → ds = ps.map sqP
  | [], _, h => by cases h; rfl
  | d :: ds, ps, h => by
    unfold prL at h
    cases e : prOf d with
    | none => rw [e] at h; cases h
    | some p =>
      cases e2 : prL ds with
      | none => rw [e, e2] at h; cases h
      | some r =>
        rw [e, e2] at h
        cases h
        rw [List.map_cons, ← prL_eq e2, prOf_eq e]
theorem qdL_eq : ∀ {ds : List D} {ps : List Qd}, qdL ds = some ps → ds = ps.map sqQ
  | [], _, h => by cases h; rfl
  | d :: ds, ps, h => by
    unfold qdL at h
    cases e : qdOf d with
    | none => rw [e] at h; cases h
    | some p =>
      cases e2 : qdL ds with
      | none => rw [e, e2] at h; cases h
      | some r =>
        rw [e, e2] at h
        cases h
        rw [List.map_cons, ← qdL_eq e2, qdOf_eq e]
/-- ints, pairs of ints, pairs of those -/
def sortAD : D → Option D
  | .list ds => match intsOf ds with
    | some ns => some (.list ((isort ns).map PyData.int))
    | none => match prL ds with
      | some ps => some (.list ((sortB SrtO.lexB ps).map sqP))
      | none => (qdL ds).map fun qs => .list ((sortB ltQ qs).map sqQ)
  | _ => none
def prV (H : Hp) : V → Pr
  | .ref b => match H b with
    | some (.tup [.int i, .int j]) => (i, j)
    | _ => (0, 0)
  | _ => (0, 0)
def qdV (H : Hp) : V → Qd
  | .ref b => match H b with
    | some (.tup [a, b]) => (prV H a, prV H b)
    | _ => ((0, 0), (0, 0))
  | _ => ((0, 0), (0, 0))
section
variable {K : Fg} {Hs H : Hp}
theorem rep_sqP {v : V} {p : Pr} (r : Rep K Hs v (sqP p)) : ∃ t, v = .ref t ∧ Hs t = some (.tup [.int p.1, .int p.2]) := by
  unfold sqP at r
  cases r with
  | tup h a =>
    cases a with
    | cons r1 a =>
      cases a with
      | cons r2 a =>
        cases a
        cases r1
        cases r2
        exact ⟨_, rfl, h⟩
theorem prV_eq {v : V} {p : Pr} (r : Rep K Hs v (sqP p)) : prV Hs v = p := by
  obtain ⟨t, rfl, h⟩ := rep_sqP r
  unfold prV
  dsimp only
  rw [h]
theorem rep_sqQ {v : V} {q : Qd} (r : Rep K Hs v (sqQ q)) : ∃ t a b, v = .ref t ∧ Hs t = some (.tup [a, b]) ∧ Rep K Hs a (sqP q.1) ∧ Rep K Hs b (sqP q.2) := by
  unfold sqQ at r
  cases r with
  | tup h a =>
    cases a with
    | cons r1 a =>
      cases a with
      | cons r2 a =>
        cases a
        exact ⟨_, _, _, rfl, h, r1, r2⟩
theorem qdV_eq {v : V} {q : Qd} (r : Rep K Hs v (sqQ q)) : qdV Hs v = q := by
  obtain ⟨t, a, b, rfl, h, r1, r2⟩ := rep_sqQ r
  unfold qdV
  dsimp only
  rw [h]
  dsimp only
  rw [prV_eq r1, prV_eq r2]
theorem RepA.keyed {α : Type} {f : α → D} {k : V → α} (hk : ∀ v p, Rep K Hs v (f p) → k v = p) : ∀ {vs : List V} {ps : List α}, RepA K Hs vs (ps.map f) → vs.map k = ps ∧ ∀ v ∈ vs, Rep K Hs v (f (k v))
  | _, [], .nil => ⟨rfl, fun _ m => absurd m (by simp)⟩
  | _, p :: ps, .cons (v := v) (vs := vs) a b => by
    obtain ⟨h1, h2⟩ := RepA.keyed hk b
    refine ⟨by rw [List.map_cons, h1, hk _ _ a], fun u m => ?_⟩
    rcases List.mem_cons.mp m with rfl | m
    · rw [hk _ _ a]; exact a
    · exact h2 u m
theorem RepA.of_all {α : Type} {f : α → D} {k : V → α} : ∀ {vs : List V}, (∀ v ∈ vs, Rep K Hs v (f (k v))) → RepA K Hs vs ((vs.map k).map f)
  | [], _ => .nil
  | v :: vs, h => .cons (h v List.mem_cons_self) (RepA.of_all fun u m => h u (List.mem_cons_of_mem _ m))
end
/-- sorted(xs), xs a list of pairs of pairs -/
def rSortedQ (K : Fg) : List V → Hp → VK → Prop := fun vs H Q => ∃ (a : Addr) (xs : List V) (k : V → Qd), vs = [V.ref a] ∧ SqL K H a xs ∧ (∀ x ∈ xs, ∃ t b c, x = V.ref t ∧ H t = some (.tup [.ref b, .ref c]) ∧ H b = some (.tup [.int (k x).1.1, .int (k x).1.2]) ∧ H c = some (.tup [.int (k x).2.1, .int (k x).2.2])) ∧
  ∀ p, H p = none → Q (.ref p) (upd H p (.lst (sortB (fun v u => ltQ (k v) (k u)) xs)))
theorem pair_of {X : Cx} {pins : List (Addr × Obj)} {σ : L2.St} {H : Hp} {s : Shared} (I : L2.Inv X pins σ H s) {b : Addr} {i j : Int} (h : H b = some (.tup [.int i, .int j])) : Srt.IsPair s.heap (.ref b) i j := by
  obtain ⟨_, its2, r2, o, ho, hc, n, hd⟩ := I.hok _ _ h
  obtain ⟨u1, u2, rfl, ri, rj⟩ := vals2 r2
  obtain ⟨t1, rfl⟩ := ri
  obtain ⟨t2, rfl⟩ := rj
  exact ⟨b, o, t1, t2, n, rfl, ho, hc, hd⟩
theorem cr_sortedQ {X : Cx} (hu : X.A.units + 2 < cLine) : CallR X (.builtin "sorted") (rSortedQ X.K) := by
  intro pins s σ H vs us Q I r h
  obtain ⟨a, xs, k, rfl, hs, hx, q⟩ := h
  obtain ⟨its, rv, hl, hz⟩ := I.list hs
  obtain ⟨u, rfl, ru⟩ := vals1 r
  obtain rfl : u = Value.ref a := ru
  obtain ⟨e1, e2⟩ := refs_back rv fun x m => by
    obtain ⟨t, _, _, e, _⟩ := hx x m
    exact ⟨t, e⟩
  refine sorted_quads (k := fun u => k (backV u)) hu hl.isList (by rw [← rv.length]; exact hz) (fun v hv => ?_) fun h' d kp hd hn => ?_
  · obtain ⟨t, rfl⟩ := e2 v hv
    have hm : V.ref t ∈ xs := by rw [e1]; exact List.mem_map.mpr ⟨_, hv, rfl⟩
    obtain ⟨t', b, c, e, ht, hb, hc'⟩ := hx _ hm
    cases e
    obtain ⟨_, its2, r2, o, ho, hc, n, hd⟩ := I.hok _ _ ht
    obtain ⟨u1, u2, rfl, ri, rj⟩ := vals2 r2
    cases ri
    cases rj
    exact ⟨t, o, .ref b, .ref c, n, rfl, ho, hc, hd, pair_of I hb, pair_of I hc'⟩
  · obtain ⟨n, hn⟩ := hn
    have ei : (sortB (fun v u => ltQ (k (backV v)) (k (backV u))) its).map backV = sortB (fun v u => ltQ (k v) (k u)) xs := by
      rw [e1]
      exact sortB_map (lt := fun v u => ltQ (k v) (k u)) backV its
    have h3 : ∀ u ∈ sortB (fun v u => ltQ (k (backV v)) (k (backV u))) its, ∃ a, u = Value.ref a := fun u hu => e2 u ((sortB_stb (swo_ltQ fun v => k (backV v)) its).perm.mem_iff.mp hu)
    have lz : (sortB (fun v u => ltQ (k v) (k u)) xs).length ≤ sizeLine := by rw [(sortB_stb (swo_ltQ k) xs).perm.length_eq]; exact hz
    rw [← ei] at lz
    refine ⟨.ref d, upd H d (.lst ((sortB (fun v u => ltQ (k (backV v)) (k (backV u))) its).map backV)), I.laid (t' := s.toks) kp hd ⟨lz, _, n, vals_back h3, hn⟩, rfl, ?_⟩
    rw [ei]
    exact q d (I.hok.fresh hd)
theorem cx_sortA {X : Cx} (hu : X.A.units + 2 < cLine) : CallR X (.builtin "sorted") (rXcn X.K (one sortAD)) := fun pins s σ H vs us Q I r h => by
  obtain ⟨Hs, ds, z, sm, rs, l, eg, q⟩ := h
  match ds, l, eg with
  | [d], l, eg =>
    match vs, l, rs, r with
    | [v], _, rs, r =>
      have sh := rs 0 v d rfl rfl
      have eg : sortAD d = some z := eg
      obtain ⟨ds, rfl⟩ : ∃ ds, d = .list ds := by cases d with
        | list ds => exact ⟨ds, rfl⟩
        | _ => cases eg
      unfold sortAD at eg
      dsimp only at eg
      cases ei : intsOf ds with
      | some ns =>
        rw [ei] at eg
        exact cx_sortI pins s σ H _ us Q I r ⟨Hs, [.list ds], z, sm, rs, rfl, by show (intsOf ds).map _ = some z; rw [ei]; exact eg, q⟩
      | none =>
        rw [ei] at eg
        dsimp only at eg
        obtain ⟨p, ws, rfl, e, ra⟩ := sh.lst sm
        cases ep : prL ds with
        | some ps =>
          rw [ep] at eg
          cases eg
          have ed := prL_eq ep
          subst ed
          obtain ⟨k1, k2⟩ := RepA.keyed (k := prV Hs) (fun v p r => prV_eq r) ra
          refine cr_sortedPO pins s σ H _ us Q I r ⟨p, ws, prV Hs, rfl, .inl (.inl e), fun x m => ?_, fun ys a so st na => ?_⟩
          · obtain ⟨t, rfl, h⟩ := rep_sqP (k2 x m)
            exact ⟨t, rfl, sm _ _ h⟩
          · have ey : ys = sortB (ltP (prV Hs)) ws := SrtO.stb_uniq (ltP_swo _) so (sortB_srtd (ltP_swo _) ws) (st.trans ⟨(sortB_stb (ltP_swo _) ws).perm.symm, fun x => ((sortB_stb (ltP_swo (prV Hs)) ws).cls x).symm⟩)
            refine q a _ na (Grow.loose sm na) ⟨_, upd_same, ?_⟩
            rw [ey]
            have := RepA.of_all (f := sqP) (k := prV Hs) fun v m => k2 v ((sortB_stb (ltP_swo (prV Hs)) ws).perm.mem_iff.mp m)
            rw [sortB_map (lt := SrtO.lexB) (prV Hs) ws, k1] at this
            exact this
        | none =>
          rw [ep] at eg
          dsimp only at eg
          cases eq : qdL ds with
          | none => rw [eq] at eg; cases eg
          | some qs =>
            rw [eq] at eg
            cases eg
            have ed := qdL_eq eq
            subst ed
            obtain ⟨k1, k2⟩ := RepA.keyed (k := qdV Hs) (fun v p r => qdV_eq r) ra
            refine cr_sortedQ hu pins s σ H _ us Q I r ⟨p, ws, qdV Hs, rfl, .inl (.inl e), fun x m => ?_, fun a na => ?_⟩
            · obtain ⟨t, a, b, rfl, h, r1, r2⟩ := rep_sqQ (k2 x m)
              obtain ⟨ta, rfl, h1⟩ := rep_sqP r1
              obtain ⟨tb, rfl, h2⟩ := rep_sqP r2
              exact ⟨t, ta, tb, rfl, sm _ _ h, sm _ _ h1, sm _ _ h2⟩
            · refine q a _ na (Grow.loose sm na) ⟨_, upd_same, ?_⟩
              have := RepA.of_all (f := sqQ) (k := qdV Hs) fun v m => k2 v ((sortB_stb (swo_ltQ (qdV Hs)) ws).perm.mem_iff.mp m)
              rw [sortB_map (lt := ltQ) (qdV Hs) ws, k1] at this
              exact this

theorem hu2 {A : Around} {k : Nat} (hr : Room k A) : A.units + 2 < cLine := by have := hu65 hr; omega

def Slot.getT : Slot → Option D
  | .tre d => some (strip (bx d))
  | .atr d => some (strip (bx d))
  | s => s.get
def Vl.getT (ρ : En) : Vl → Option D
  | .st d => some d
  | .at i => (ρ[i]?).bind Slot.getT
  | .fn _ => none
section
variable {K : Fg} {mg : MG} {B : Bs} {W : WX} {σ : L2.St} {Hs H : Hp} {ρ : En}
theorem Sl.lookT (sl : Sl K B Hs H σ ρ) {v : V} {x : Vl} {d : D} (hv : VlOk K Hs σ v x) (h : x.getT ρ = some d) : Rep K H v d := by
  cases x with
  | st d' => exact (sl.look hv h).rep sl.sub
  | fn a => cases h
  | «at» i =>
    have h : (ρ[i]?).bind Slot.getT = some d := h
    cases es : ρ[i]? with
    | none => rw [es] at h; cases h
    | some s =>
      rw [es, Option.bind_some] at h
      have hv : σ[i]? = some (some v) := hv
      have base : s.get = some d → Rep K H v d := fun z => (sl.look (x := .at i) hv (by show (ρ[i]?).bind Slot.get = some d; rw [es, Option.bind_some]; exact z)).rep sl.sub
      cases s with
      | tre d' =>
        cases h
        obtain ⟨p, f, e, t, _⟩ := sl.ok i _ _ hv es
        cases e
        exact t.1.frozen sl.sub fun a _ o e => e
      | atr d' =>
        cases h
        obtain ⟨p, f, e, t, _⟩ := sl.ok i _ _ hv es
        cases e
        exact t.1.frozen sl.sub fun a _ o e => e
      | un => exact base h
      | val _ => exact base h
      | own _ => exact base h
      | arg _ => exact base h
      | fn _ => exact base h
      | gho _ _ => exact base h
      | tab _ => exact base h
end
section
variable {X : Cx} {B : Bs} {W : WX} {k : Nat} {f : Addr} {fd : FuncData} {ps : List Str} {m : List Md} {tails : List (List D)} {F : List D → R} {dvs : List V} {dd : List D} {ds : List Value} {x : Str} {p pos : Pos} {e : Expr} {es : List Expr} {fa : AF}
end
section
variable {K : Fg} {P : Pin} {Hs H : Hp}
end
section
variable {X : Cx} {B : Bs} {W : WX} {pos : Pos} {i : Nat} {g : En → Option (List Nat)}
end
end DL
set_option maxHeartbeats 1000000
namespace DZN
open PySem DZ
section
variable {prog : Program} {w : World} {A : Around} {E : Value → Shared → Prop} {s : Shared} {b : Bool}
theorem nx_end {it l : Addr} {i : Nat} {xs : Array Value} {Q : Value → Shared → Prop} (hh : A.handled = none) (hi : ItK b s.heap it l i) (hl : SqK b s.heap l xs) (hx : xs[i]? = none)
    (hE : ∀ h' e, Heap.ExtBut it s.heap h' → (∃ o, h'.get? e = some o ∧ o.cls = .type "StopIteration") → E (.ref e) { s with heap := h' }) : wpAny (model prog w) A (Builtin.SmallTypes.nextOf (.ref it)) Q E s := by
  cases b
  · exact RZ.nextOf_tuple_end hh hi hl hx hE
  · exact wpAny_nextOf_list_end hh hi hl hx hE
end
abbrev ZipS (h : Heap) (z TI TO : Addr) (f0 : Value) : Prop :=
  h.get? z = some { cls := .type "zip", dict := none, data := .fields #[f0, .bool false, .bool false, .ref TI, .ref TO], slots := #[] }
section
variable {prog : Program} {w : World} {A : Around} {E : Value → Shared → Prop} {s : Shared} {b1 b2 : Bool}
theorem end_in {z TI TO i1 i2 l1 l2 : Addr} {k1 k2 : Nat} {xs ys : Array Value} {a b : Value} {Q : Fin → Shared → Prop} (hh : A.handled = none) (D : ZipApart z TI TO i1 i2 l1 l2)
    (hz : ZipS s.heap z TI TO .none) (hTI : IsPair s.heap TI (.ref i1) (.ref i2)) (hTO : IsPair s.heap TO a b)
    (h1 : ItK b1 s.heap i1 l1 k1) (h2 : ItK b2 s.heap i2 l2 k2) (hl1 : SqK b1 s.heap l1 xs) (hl2 : SqK b2 s.heap l2 ys) (hx : xs[k1]? = none) (hy : ys[k2]? = none)
    (hE : ∀ h' e, (∀ c o, c ≠ z → c ≠ TO → c ≠ i1 → c ≠ i2 → s.heap.get? c = some o → h'.get? c = some o) → (∃ o, h'.get? e = some o ∧ o.cls = .type "StopIteration") → E (.ref e) { s with heap := h' }) :
    wpAny (model prog w) A (Builtin.«zip.__next__» ⟨[.ref z], []⟩) Q E s := by
  show wpAny _ _ (field (.ref z) 2 >>= _) _ _ _
  refine wpAny_bind (wpAny_field hz rfl (x := .bool false) rfl ?_)
  show wpAny _ _ (field (.ref z) 3 >>= _) _ _ _
  refine wpAny_bind (wpAny_field hz rfl (x := .ref TI) rfl (wpAny_bind (wpAny_seqItems hTI rfl ?_)))
  show wpAny _ _ (Builtin.SmallTypes.ownedTupleIsFree (.ref z) >>= _) _ _ _
  refine wpAny_bind ?_
  unfold Builtin.SmallTypes.ownedTupleIsFree
  refine wpAny_bind (wpAny_field hz rfl (x := .none) rfl (wpAny_pure ?_))
  simp only [if_true]
  refine wpAny_bind (wpAny_rule (wpAny_bind (wpAny_field hz rfl (x := .ref TO) rfl ?_)))
  refine wpAny_bind (wpAny_setField_rec hz (by simp) fun h₁ hz₁ hs₁ => ?_)
  replace hz₁ : ZipS h₁ z TI TO .ellipsis := hz₁
  refine wpAny_bind ?_
  simp only [List.zipIdx_cons, List.zipIdx_nil, List.forIn_cons, List.forIn_nil]
  refine wpAny_bind (wpAny_bind (wpAny_onRaise ?_))
  show wpAny _ _ (Builtin.SmallTypes.nextOf (.ref i1) >>= _) _ _ _
  refine wpAny_bind (nx_end hh (h1.ext hs₁.extBut D.i1z) (hl1.ext hs₁.extBut D.l1z) hx fun h₂ e hs₂ he => ?_)
  obtain ⟨oe, hoe, hce⟩ := he
  have hz₂ : ZipS h₂ z TI TO .ellipsis := hs₂ _ _ D.i1z.symm hz₁
  have hez : e ≠ z := fun x => by subst x; rw [hz₂] at hoe; cases hoe; simp at hce
  refine wpAny_setField_rec hz₂ (by simp) fun h₃ _ hs₃ => hE h₃ e (fun c o c1 _ c3 _ x => hs₃.extBut _ _ c1 (hs₂ _ _ c3 (hs₁.extBut _ _ c1 x))) ⟨oe, hs₃.extBut _ _ hez hoe, hce⟩
theorem pyNext_end {z TI TO i1 i2 l1 l2 : Addr} {k1 k2 : Nat} {xs ys : Array Value} {a b : Value} {Q : Option Value → Shared → Prop} (hh : A.handled = none) (D : ZipApart z TI TO i1 i2 l1 l2)
    (hz : ZipS s.heap z TI TO .none) (hTI : IsPair s.heap TI (.ref i1) (.ref i2)) (hTO : IsPair s.heap TO a b)
    (h1 : ItK b1 s.heap i1 l1 k1) (h2 : ItK b2 s.heap i2 l2 k2) (hl1 : SqK b1 s.heap l1 xs) (hl2 : SqK b2 s.heap l2 ys) (hx : xs[k1]? = none) (hy : ys[k2]? = none)
    (hQ : ∀ h', (∀ c o, c ≠ z → c ≠ TO → c ≠ i1 → c ≠ i2 → s.heap.get? c = some o → h'.get? c = some o) → Q none { s with heap := h' }) : wpAny (model prog w) A (pyNext (.ref z)) Q E s := by
  have hT : s.TypeIs (.ref z) "zip" := ⟨_, hz, rfl⟩
  unfold pyNext
  refine wpAny_bind (wpAny_attempt (wpAny_callSpecial?_slot (name := Str.ofString "__next__") hT F.slot_zip_next
    (wpAny_call_entry F.slot_zip_next hT F.entry_zip_next (end_in hh D hz hTI hTO h1 h2 hl1 hl2 hx hy fun h' e hk he => ?_) (F.args_zip_next_1 _))))
  obtain ⟨o, ho, hc⟩ := he
  exact wpAny_bind (wpAny_isInstance (T := "StopIteration") (b := true) ⟨o, ho, hc⟩ isSubtype_stop (wpAny_pure (hQ _ hk)))
end
open PySem PySem.Spec PyProof.Rows L2
end DZN
namespace DL
open PySem PySem.Spec PyProof.Rows L2 DZ
end DL
namespace DL
open PySem PySem.Spec PyProof.Rows L2
def offH (Hs : Hp) (p : Addr) : Hp := fun a => if a = p then none else Hs a
section
variable {K : Fg} {Hs H : Hp} {p : Addr}
mutual
theorem Rep.off (hp : ∀ vs, Hs p ≠ some (.lst vs) ∧ Hs p ≠ some (.tup vs)) : ∀ {v : V} {d : D}, Rep K Hs v d → plain d = true → Rep K (offH Hs p) v d
  | _, _, .non, _ => .non
  | _, _, .bl b, _ => .bl b
  | _, _, .int i, _ => .int i
  | _, _, .str i, _ => .str i
  | _, _, .lst (a := a) h r, hd => .lst (by
      unfold offH
      rw [if_neg (fun z => (hp _).1 (by rw [← z]; exact h))]
      exact h) (RepA.off hp r hd)
  | _, _, .tup (a := a) h r, hd => .tup (by
      unfold offH
      rw [if_neg (fun z => (hp _).2 (by rw [← z]; exact h))]
      exact h) (RepA.off hp r hd)
  | _, _, .dK _ _, hd => by cases hd
  | _, _, .dT _ _, hd => by cases hd
  | _, _, .ins _ _ _, hd => by cases hd
  | _, _, .dN _ _, hd => by cases hd
theorem RepA.off (hp : ∀ vs, Hs p ≠ some (.lst vs) ∧ Hs p ≠ some (.tup vs)) : ∀ {v : List V} {d : List D}, RepA K Hs v d → plainA d = true → RepA K (offH Hs p) v d
  | _, _, .nil, _ => .nil
  | _, _, .cons a b, hd => by
    have h := Bool.and_eq_true_iff.mp hd
    exact .cons (Rep.off hp a h.1) (RepA.off hp b h.2)
end
theorem Cont.off {q : Addr} {d : D} (hp : ∀ vs, Hs p ≠ some (.lst vs) ∧ Hs p ≠ some (.tup vs)) (c : Cont K Hs H q d) (hd : plain d = true) : Cont K (offH Hs p) H q d := by
  cases d with
  | list ds =>
    obtain ⟨vs, a, b⟩ := c
    exact ⟨vs, a, b.off hp hd⟩
  | dict kvs => cases hd
  | _ => exact c.elim
end
section
variable {K : Fg} {σ : L2.St} {Hs Hf : Hp}
end
section
variable {X : Cx} {B : Bs} {W : WX} {k i : Nat} {f : Addr} {fd : FuncData} {ps : List Str} {m : List Md} {tails : List (List D)} {F : List D → R} {dvs : List V} {dd : List D} {ds : List Value} {x : Str} {p pos : Pos} {e : Expr} {es : List Expr} {fa : AF}
end
end DL
namespace DL
open PySem PySem.Spec PyProof.Rows L2
/-- the pairs at these places: key, where it stands, value -/
inductive PT3 (H : Hp) : List Addr → List (List Key × Addr × V) → Prop
  | nil : PT3 H [] []
  | cons {t b : Addr} {k : List Key} {v : V} {ts : List Addr} {ps : List (List Key × Addr × V)} : H t = some (.tup [.ref b, v]) → H b = some (.tup (k.map kV)) → PT3 H ts ps → PT3 H (t :: ts) ((k, b, v) :: ps)
section
variable {X : Cx} {pins : List (Addr × Obj)} {σ : L2.St} {H : Hp} {s : Shared}
end
theorem PT3.mono {H H' : Hp} (e : Same H H') : ∀ {ts : List Addr} {ps : List (List Key × Addr × V)}, PT3 H ts ps → PT3 H' ts ps
  | _, _, .nil => .nil
  | _, _, .cons a b r => .cons (e _ _ a) (e _ _ b) (r.mono e)
end DL
set_option maxHeartbeats 1000000
namespace DZL
open PySem DZ
abbrev ZipT (h : Heap) (z TI TO a : Addr) (f : Bool) : Prop :=
  h.get? z = some { cls := .type "zip", dict := none, data := .fields #[rawInt a, .bool f, .bool true, .ref TI, .ref TO], slots := #[] }
theorem flag_step {M : Model} {A : Around} {E : Value → Shared → Prop} {s : Shared} {c : Prop} [Decidable c] {m₁ m₂ : Sem Bool} {Q' : Bool → Shared → Prop} {P : Heap → Prop} (h1 : c → (∀ h, P h → Q' false { s with heap := h }) → wpAny M A m₁ Q' E s)
    (h2 : ¬ c → (∀ h, P h → Q' false { s with heap := h }) → wpAny M A m₂ Q' E s) (k : ∀ h, P h → Q' false { s with heap := h }) : wpAny M A (if c then m₁ else m₂) Q' E s := by
  by_cases q : c
  · rw [if_pos q]; exact h1 q k
  · rw [if_neg q]; exact h2 q k
section
variable {prog : Program} {w : World} {A : Around} {E : Value → Shared → Prop} {s : Shared} {b1 b2 : Bool}
theorem end_out {z TI TO i1 i2 l1 l2 a : Addr} {f : Bool} {oa : Obj} {k1 k2 : Nat} {xs ys : Array Value} {Q : Fin → Shared → Prop} (hh : A.handled = none) (D : ZipApart z TI TO i1 i2 l1 l2)
    (hz : ZipT s.heap z TI TO a f) (ha : s.heap.get? a = some oa) (hTI : IsPair s.heap TI (.ref i1) (.ref i2))
    (h1 : ItK b1 s.heap i1 l1 k1) (h2 : ItK b2 s.heap i2 l2 k2) (hl1 : SqK b1 s.heap l1 xs) (hl2 : SqK b2 s.heap l2 ys) (hx : xs[k1]? = none) (hy : ys[k2]? = none)
    (hE : ∀ h' e, (∀ c o, c ≠ z → c ≠ i1 → c ≠ i2 → s.heap.get? c = some o → h'.get? c = some o) → (∃ o, h'.get? e = some o ∧ o.cls = .type "StopIteration") → E (.ref e) { s with heap := h' }) :
    wpAny (model prog w) A (Builtin.«zip.__next__» ⟨[.ref z], []⟩) Q E s := by
  show wpAny _ _ (field (.ref z) 2 >>= _) _ _ _
  refine wpAny_bind (wpAny_field hz rfl (x := .bool true) rfl ?_)
  show wpAny _ _ (field (.ref z) 3 >>= _) _ _ _
  refine wpAny_bind (wpAny_field hz rfl (x := .ref TI) rfl (wpAny_bind (wpAny_seqItems hTI rfl ?_)))
  show wpAny _ _ (Builtin.SmallTypes.ownedTupleIsFree (.ref z) >>= _) _ _ _
  refine wpAny_bind ?_
  unfold Builtin.SmallTypes.ownedTupleIsFree
  refine wpAny_bind (wpAny_field hz rfl (x := rawInt a) rfl ?_)
  show wpAny _ _ (loadIfAlive ((a : Int).toNat) >>= _) _ _ _
  rw [Int.toNat_natCast]
  refine wpAny_bind (PySem.W.kdx_alive ha ?_)
  simp only [Option.isNone_some, Bool.false_eq_true, if_false]
  refine wpAny_bind (wpAny_field hz rfl (x := .bool f) rfl ?_)
  refine flag_step (P := fun h => ZipT h z TI TO a true ∧ Heap.SameBut z s.heap h) (fun hc k => ?_) (fun hc k => ?_) (fun h₁ hh₁ => ?_)
  · refine wpAny_bind (wpAny_setField_rec hz (by simp) fun h₁ hz₁ hs₁ => ?_)
    exact wpAny_pure (k h₁ ⟨hz₁, hs₁⟩)
  · have e : f = true := by cases f with
      | true => rfl
      | false => exact absurd rfl hc
    subst e
    exact wpAny_pure (k s.heap ⟨hz, Heap.SameBut.refl _ _⟩)
  obtain ⟨hz₁, hs₁⟩ := hh₁
  simp only [Bool.false_eq_true, if_false]
  rw [← Array.forIn_toList]
  simp only [List.forIn_cons, List.forIn_nil]
  refine wpAny_bind (wpAny_bind (wpAny_bind (wpAny_holding ?_)))
  show wpAny _ _ (Builtin.SmallTypes.nextOrEnd (.ref i1)) _ _ _
  refine one_end hh (h1.ext hs₁.extBut D.i1z) (hl1.ext hs₁.extBut D.l1z) hx fun h₂ hs₂ => ?_
  refine wpAny_bind ?_
  show wpAny _ _ (forIn (([Value.ref i1, Value.ref i2].drop 1).zipIdx 1) PUnit.unit _ >>= _) _ _ _
  simp only [List.drop_succ_cons, List.drop_zero, List.zipIdx_cons, List.zipIdx_nil, List.forIn_cons, List.forIn_nil]
  refine wpAny_bind (wpAny_bind (wpAny_bind ?_))
  refine one_end hh ((h2.ext hs₁.extBut D.i2z).ext hs₂ D.i12.symm) ((hl2.ext hs₁.extBut D.l2z).ext hs₂ D.l2i1) hy fun h₄ hs₄ => ?_
  refine wpAny_pure (wpAny_pure (wpAny_bind (wpAny_rule ?_)))
  exact stop_now hh fun h' e k he => hE h' e (fun c o n1 n3 n4 q => k c o (hs₄ _ _ n4 (hs₂ _ _ n3 (hs₁.extBut _ _ n1 q)))) he
/-- the zip between two turns: nothing handed out yet, or the first one -/
def ZSt (h : Heap) (z TI TO : Addr) (lo : Addr) : Prop := ZipS h z TI TO .none ∨ ∃ a f oa, ZipT h z TI TO a f ∧ h.get? a = some oa ∧ lo < a
theorem fin {z TI TO i1 i2 l1 l2 : Addr} {k1 k2 : Nat} {xs ys : Array Value} {a b : Value} {Q : Option Value → Shared → Prop} (hh : A.handled = none) (D : ZipApart z TI TO i1 i2 l1 l2)
    (hz : ZSt s.heap z TI TO z) (hTI : IsPair s.heap TI (.ref i1) (.ref i2)) (hTO : IsPair s.heap TO a b)
    (h1 : ItK b1 s.heap i1 l1 k1) (h2 : ItK b2 s.heap i2 l2 k2) (hl1 : SqK b1 s.heap l1 xs) (hl2 : SqK b2 s.heap l2 ys) (hx : xs[k1]? = none) (hy : ys[k2]? = none)
    (hQ : ∀ h', (∀ c o, c ≠ z → c ≠ TO → c ≠ i1 → c ≠ i2 → s.heap.get? c = some o → h'.get? c = some o) → Q none { s with heap := h' }) : wpAny (model prog w) A (pyNext (.ref z)) Q E s := by
  rcases hz with hz | ⟨a0, f, oa, hz, ha, la⟩
  · exact pyNext_end hh D hz hTI hTO h1 h2 hl1 hl2 hx hy hQ
  · have hT : s.TypeIs (.ref z) "zip" := ⟨_, hz, rfl⟩
    unfold pyNext
    refine wpAny_bind (wpAny_attempt (wpAny_callSpecial?_slot (name := Str.ofString "__next__") hT F.slot_zip_next
      (wpAny_call_entry F.slot_zip_next hT F.entry_zip_next (end_out hh D hz ha hTI h1 h2 hl1 hl2 hx hy fun h' e hk he => ?_) (F.args_zip_next_1 _))))
    obtain ⟨o, ho, hc⟩ := he
    exact wpAny_bind (wpAny_isInstance (T := "StopIteration") (b := true) ⟨o, ho, hc⟩ isSubtype_stop (wpAny_pure (hQ _ fun c o n1 _ n3 n4 q => hk c o n1 n3 n4 q)))
/-- the pairs that were made, at these places -/
structure Made (xs ys : Array Value) (lo : Addr) (h : Heap) (as : List Addr) : Prop where
  rise : as.Pairwise (· < ·)
  above : ∀ a ∈ as, lo < a
  pairs : ∀ (j : Nat) (a : Addr), as[j]? = some a → ∃ x y, xs[j]? = some x ∧ ys[j]? = some y ∧ IsPair h a x y
theorem Made.there {xs ys : Array Value} {lo : Addr} {h : Heap} {as : List Addr} (g : Made xs ys lo h as) {a : Addr} (ha : a ∈ as) : a < h.objs.size := by
  obtain ⟨j, hj⟩ := List.mem_iff_getElem?.mp ha
  obtain ⟨_, _, _, _, e⟩ := g.pairs j a hj
  exact Heap.lt_size e
end
section
variable {prog : Program} {w : World} {A : Around} {s : Shared} {R : Result → Shared → Prop} {b1 b2 : Bool} {xs ys : Array Value}
end
section
variable {prog : Program} {w : World} {A : Around} {E : Value → Shared → Prop} {s : Shared} {b1 b2 : Bool} {xs ys : Array Value}
end
end DZL
namespace DL
open PySem PySem.Spec PyProof.Rows L2 DZ
theorem SqX.vals {X : Cx} {pins : List (Addr × Obj)} {σ : L2.St} {H : Hp} {s : Shared} {b : Bool} {a : Addr} {xs : List V} (I : L2.Inv X pins σ H s) (h : SqX b X.K H a xs) : ∃ its : List Value, Vals xs its ∧ SqK b s.heap a its.toArray ∧ a < s.heap.objs.size ∧ its.length ≤ sizeLine := by
  cases b
  · obtain ⟨its, r, p, z⟩ := I.tuple (show SqT X.K H a xs from h)
    obtain ⟨o, e, _⟩ := id p
    exact ⟨its, r, p, Heap.lt_size e, by rw [← r.length]; exact z⟩
  · obtain ⟨its, r, p, z⟩ := I.list (show SqL X.K H a xs from h)
    exact ⟨its, r, p.isList, p.lt, by rw [← r.length]; exact z⟩
end DL
namespace DL
open PySem PySem.Spec PyProof.Rows L2
def keysOf (d : D) : List D := match asT d with
  | some es => es.map (·.1)
  | none => match d with
    | .dict kvs => kvs.map (·.1)
    | _ => []
theorem RepA.of_keys {K : Fg} {H : Hp} : ∀ k : List Key, RepA K H (k.map kV) (k.map keyD)
  | [] => .nil
  | .inl i :: k => .cons (.int i) (RepA.of_keys k)
  | .inr x :: k => .cons (.str x) (RepA.of_keys k)
theorem RepT.keysD {K : Fg} {H : Hp} : ∀ {ks : List (List Key × V)} {kvs : List (D × D)}, RepT K H ks kvs → kvs.map (·.1) = ks.map fun kv => .tuple (kv.1.map keyD)
  | _, _, .nil => rfl
  | _, _, .cons a b => by rw [List.map_cons, List.map_cons, RepT.keysD b]
theorem RepK.keysD {K : Fg} {H : Hp} : ∀ {ks : List (Key × V)} {kvs : List (D × D)}, RepK K H ks kvs → kvs.map (·.1) = ks.map fun kv => keyD kv.1
  | _, _, .nil => rfl
  | _, _, .cons a b => by rw [List.map_cons, List.map_cons, RepK.keysD b]
section
variable {K : Fg} {B : Bs} {Hs H : Hp} {σ : L2.St} {ρ : En}
theorem walk_keysT {p : Addr} {od : Obj} {ks : List (List Key × V)} (h : Hs p = some (.frz od (.dT ks))) : WalkD K (Itkt p od ks) Hs (ks.map fun kv => .tuple (kv.1.map keyD)) := by
  refine ⟨fun i H hi sm => ⟨sm _ _ h, by rwa [List.length_map] at hi⟩, fun H sm => ⟨sm _ _ h, by rw [List.length_map]; exact Nat.le_refl _⟩, fun i H x H' d hd sm y Hs1 s1 s2 => ?_⟩
  obtain ⟨rfl, k, v, q, ek, rfl, hq⟩ := y
  rw [List.getElem?_map, ek] at hd
  cases hd
  refine ⟨fun a => if a = q then H' q else Hs1 a, ⟨fun b o e => ?_, .refl _, fun b o e => ?_, fun b => ?_⟩, .tup (by rw [if_pos rfl]; exact hq) (RepA.of_keys k)⟩
  · by_cases hb : b = q
    · subst hb; rw [if_pos rfl]; exact s2 _ _ e
    · rw [if_neg hb]; exact e
  · by_cases hb : b = q
    · subst hb; rw [if_pos rfl] at e; exact e
    · rw [if_neg hb] at e; exact s2 _ _ e
  · by_cases hb : b = q
    · subst hb; exact .inr (.inr (.inr ⟨_, hq⟩))
    · rw [if_neg hb]
      cases z : Hs1 b with
      | none => exact .inl rfl
      | some o => exact .inr (.inl (by simp))
theorem walk_keysK {p : Addr} {od : Obj} {ks : List (Key × V)} (h : Hs p = some (.frz od (.dK ks))) : WalkD K (Itk p od ks) Hs (ks.map fun kv => keyD kv.1) := by
  refine ⟨fun i H hi sm => ⟨sm _ _ h, by rwa [List.length_map] at hi⟩, fun H sm => ⟨sm _ _ h, by rw [List.length_map]; exact Nat.le_refl _⟩, fun i H x H' d hd sm y Hs1 s1 s2 => ?_⟩
  obtain ⟨rfl, k, v, ek, rfl⟩ := y
  rw [List.getElem?_map, ek] at hd
  cases hd
  refine ⟨Hs1, Grow.refl s2, ?_⟩
  cases k with
  | inl i => exact .int i
  | inr x => exact .str x
/-- an own object, changed into what is locked, becomes data that stay -/
theorem Sl.locked {i : Nat} {d d' : D} {p : Addr} {o : HO} (sl : Sl K B Hs H σ ρ) (h : ρ[i]? = some (.own d)) (hp : σ[i]? = some (some (.ref p))) (np : Hs p = none) (nw : B.nw p) (nt : ¬ TupAt H p) (r : Rep K (L2.upd Hs p o) (.ref p) d') :
    Sl K B (L2.upd Hs p o) (L2.upd H p o) σ (ρ.set i (.val d')) := by
  have hi : i < ρ.length := (List.getElem?_eq_some_iff.mp h).1
  have s1 : Sl K B Hs H σ (ρ.set i .un) := sl.reslot (fun _ _ => trivial) rfl
  obtain ⟨F, fe, nF⟩ := sl.nob_un h rfl hp (t := .un) rfl
  obtain ⟨s2, fe2⟩ := s1.scratch (o := o) fe nF np (.inl nw) nt
  have s3 := s2.take (p := p) (o := o) L2.upd_same np nw ⟨F, fe2, nF⟩
  have s4 := s3.reslot (i := i) (s := .val d') (fun x hx => by
    rw [hp] at hx; cases hx
    exact ⟨_, rfl, r⟩) rfl
  rw [List.set_set] at s4
  exact s4
end
section
variable {X : Cx} {B : Bs} {W : WX} {e tg : Expr} {t : Tg} {pos : Pos} {body : List Stmt} {fb : SF} {i : Nat}
end
end DL
namespace DL
open PySem PySem.Spec PyProof.Rows L2
def asgL (ts : List Tg) (f : EF) : SF := fun ρ => (f ρ).then fun x ρ1 => match x with
  | .st (.list ds) => (match Tg.puts ts ds ρ1 with
    | some ρ2 => .nx ρ2
    | none => .bad)
  | _ => .bad
end DL
namespace DL
open PySem PySem.Spec PyProof.Rows L2
mutual
def lf : D → Bool
  | .list _ => false
  | .dict _ => false
  | .tuple ds => lfA ds
  | _ => true
def lfA : List D → Bool
  | [] => true
  | d :: ds => lf d && lfA ds
end
section
variable {K : Fg} {H H' : Hp}
mutual
/-- its tuples stand there too -/
theorem Rep.lfm (t : ∀ a xs, H a = some (.tup xs) → H' a = some (.tup xs)) : ∀ {v : V} {d : D}, Rep K H v d → lf d = true → Rep K H' v d
  | _, _, .non, _ => .non
  | _, _, .bl b, _ => .bl b
  | _, _, .int i, _ => .int i
  | _, _, .str x, _ => .str x
  | _, _, .tup s r, h => .tup (t _ _ s) (RepA.lfm t r h)
  | _, _, .lst _ _, h => by cases h
  | _, _, .dK _ _, h => by cases h
  | _, _, .dT _ _, h => by cases h
  | _, _, .ins _ _ _, h => by cases h
  | _, _, .dN _ _, h => by cases h
theorem RepA.lfm (t : ∀ a xs, H a = some (.tup xs) → H' a = some (.tup xs)) : ∀ {vs : List V} {ds : List D}, RepA K H vs ds → lfA ds = true → RepA K H' vs ds
  | _, _, .nil, _ => .nil
  | _, _, .cons a b, h => .cons (Rep.lfm t a (Bool.and_eq_true_iff.mp h).1) (RepA.lfm t b (Bool.and_eq_true_iff.mp h).2)
end
end
/-- its tuples -/
def tups (H : Hp) : Hp := fun a => match H a with
  | some (.tup xs) => some (.tup xs)
  | _ => none
theorem tups_at {H : Hp} {a : Addr} {o : HO} (h : tups H a = some o) : ∃ xs, o = .tup xs ∧ H a = some (.tup xs) := by
  unfold tups at h
  split at h
  · rename_i xs e
    cases h
    exact ⟨xs, rfl, e⟩
  · cases h
theorem tups_of {H : Hp} {a : Addr} {xs : List V} (h : H a = some (.tup xs)) : tups H a = some (.tup xs) := by
  unfold tups
  rw [h]
theorem tups_same (H : Hp) : Same (tups H) H := fun a o h => by
  obtain ⟨xs, rfl, e⟩ := tups_at h
  exact e
/-- both together -/
def both (A B : Hp) : Hp := fun a => match A a with
  | some o => some o
  | none => B a
theorem both_l (A B : Hp) : Same A (both A B) := fun a o h => by unfold both; rw [h]
theorem both_sub {A B H : Hp} (ha : Same A H) (hb : Same B H) : Same (both A B) H := fun a o h => by
  unfold both at h
  cases e : A a with
  | none => rw [e] at h; exact hb a o h
  | some u => rw [e] at h; cases h; exact ha a _ e
section
variable {K : Fg} {mg : MG} {B : Bs} {W : WX} {J : List Nat}
def SQX (K : Fg) (J : List Nat) (B : Bs) (σ : L2.St) (Hs : Hp) (D' : Ends) : SO → Prop
  | .nx ρ' => ∀ σ' Hs' H', Sl K B Hs' H' σ' ρ' → Same Hs Hs' → Out J σ σ' → D'.nx σ' H'
  | .rt d fr ρ' => ∀ σ' Hs' H' v, Sl K B Hs' H' σ' ρ' → Same Hs Hs' → Out J σ σ' → RetOk K Hs' H' B.nw fr v d → D'.rt v H'
  | _ => False
theorem SQX.later {σ : L2.St} {Hs Hs1 : Hp} {D' : Ends} {o : SO} (h : SQX K J B σ Hs D' o) (e : Same Hs Hs1) : SQX K J B σ Hs1 D' o := by
  cases o with
  | nx r => exact fun σ' Hs' H' s g o => h σ' Hs' H' s (e.trans g) o
  | rt d fr r => exact fun σ' Hs' H' v s g o => h σ' Hs' H' v s (e.trans g) o
  | _ => exact h.elim
theorem Out.more {J : List Nat} {σ σ1 σ2 : L2.St} (a : Out J σ σ1) (b : Out J σ1 σ2) : Out J σ σ2 := ⟨b.1.trans a.1, fun i hi => (b.2 i hi).trans (a.2 i hi)⟩
end
section
variable {X : Cx} {B : Bs} {W : WX} {J : List Nat} {st : Stmt} {rest : List Stmt} {f g : SF} {t : TS} {e : Expr} {fa : EF} {ft : BF} {pos : Pos} {i : Nat}
end
def El (k : Option Nat) (v : V) (a : Addr) (w : V) (H : Hp) : Prop := match k with
  | none => v = .ref a
  | some _ => ∃ t, v = .ref t ∧ H t = some (.tup [.ref a, w])
/-- what the element is, as data -/
inductive ElD : Option Nat → D → List D → D → Prop
  | l (es : List D) : ElD none (.list es) es .none
  | p (n : Nat) (es : List D) (w : D) : flat w = true → ElD (some n) (.tuple [.list es, w]) es w
def hide (ρ : En) : En := ρ.map fun s => if s.mut = true then .un else s
end DL
namespace DL
open PySem PySem.Spec PyProof.Rows L2
section
variable {K : Fg} {B : Bs} {Hs H H' : Hp} {σ σ' : L2.St} {ρ : En} {F : Nat → List Addr} {V0 : List Nat}
/-- a base of one's own: nothing that is there is changed -/
abbrev b2 (Hs H : Hp) : Bs := ⟨Hs, H, fun _ => False, fun _ => False, fun _ => False, fun _ => none⟩
theorem Sl.plain (len : σ.length = ρ.length) (ok : ∀ (i : Nat) (x : Option V) (s : Slot), σ[i]? = some x → ρ[i]? = some s → SlotOk K (b2 Hs H) Hs H x s ∧ s.mut = false) (sub : Same Hs H) : Sl K (b2 Hs H) Hs H σ ρ where
  len := len
  ok := fun i x s a b => (ok i x s a b).1
  sub := sub
  base := .refl _
  new := fun a => by
    cases h : Hs a with
    | none => exact .inl rfl
    | some o => exact .inr (.inl (by show Hs a ≠ none; rw [h]; simp))
  keep := fun a o e _ _ => e
  there := fun a w => by rcases w with z | z <;> exact z.elim
  feet := ⟨fun _ => [], fun i x s a b => by
    have := (ok i x s a b).2
    cases s <;> first | (cases this; done) | rfl, fun _ _ => rfl, fun _ _ _ _ m => by cases m⟩
/-- without what may be changed, under a greater stable heap -/
theorem Sl.hidden {Hs2 H2 : Hp} (sl : Sl K B Hs H σ ρ) (e : Same Hs Hs2) (i : Nat) (x : Option V) (s : Slot) (a : σ[i]? = some x) (b : (hide ρ)[i]? = some s) : SlotOk K (b2 Hs2 H2) Hs2 H2 x s ∧ s.mut = false := by
  unfold hide at b
  rw [List.getElem?_map] at b
  cases e1 : ρ[i]? with
  | none => rw [e1] at b; cases b
  | some s0 =>
    rw [e1] at b
    have o := sl.ok i x s0 a e1
    cases s0 with
    | un => cases b; exact ⟨trivial, rfl⟩
    | val d => cases b; obtain ⟨v, ev, r⟩ := o; exact ⟨⟨v, ev, r.mono e⟩, rfl⟩
    | fn f => cases b; exact ⟨o, rfl⟩
    | _ => cases b; exact ⟨trivial, rfl⟩
end
section
variable {X : Cx} {z : Nat} {c : Expr} {pos : Pos}
end
/-- an element told anew: where its list is -/
theorem El.of {K : Fg} {Hs H : Hp} {k : Option Nat} {v : V} {d : D} {es : List D} {w : D} (sub : Same Hs H) (r : Rep K Hs v d) (e : ElD k d es w) : ∃ a w' ws, El k v a w' H ∧ Hs a = some (.lst ws) ∧ RepA K Hs ws es ∧ (∀ n, k = some n → Rep K Hs w' w) := by
  cases e with
  | l es =>
    cases r with
    | lst h ra => exact ⟨_, .non, _, rfl, h, ra, fun n z => by cases z⟩
  | p n es w hf =>
    cases r with
    | tup ht rt =>
      cases rt with
      | cons r1 rt =>
        cases rt with
        | cons r2 rt =>
          cases rt
          cases r1 with
          | lst h ra => exact ⟨_, _, _, ⟨_, rfl, sub _ _ ht⟩, h, ra, fun _ _ => r2⟩
theorem El.mono {k : Option Nat} {v : V} {a : Addr} {w : V} {H H' : Hp} (h : El k v a w H) (t : ∀ t xs, H t = some (.tup xs) → H' t = some (.tup xs)) : El k v a w H' := by
  cases k with
  | none => exact h
  | some n => obtain ⟨q, e, e2⟩ := h; exact ⟨q, e, t _ _ e2⟩
end DL
namespace DL
open PySem PySem.Spec PyProof.Rows L2
section
variable {K : Fg} {B : Bs}
end
end DL
namespace DL
open PySem PySem.Spec PyProof.Rows L2
theorem Out.nil_eq {σ σ' : L2.St} (o : Out [] σ σ') : σ' = σ := List.ext_getElem? fun i => o.2 i List.not_mem_nil
section
variable {X : Cx} {B : Bs} {W : WX} {F : List D → R} {c x z : Nat} {f2 fb : SF} {dist : Bool} {k : Option Nat} {J : List Nat} {S1 S2 S4 : Stmt} {tg : Expr} {xn : Str} {px pos : Pos} {body : List Stmt}
end
end DL
namespace DL
open PySem PySem.Spec PyProof.Rows L2
theorem Cont.shal {K : Fg} {Hs H : Hp} {p : Addr} {d : D} (c : Cont K Hs H p d) : Shal K Hs H (.ref p) d := .inr ⟨p, rfl, c⟩
section
variable {X : Cx} {B : Bs} {W : WX} {a b c : Expr} {fb fc : EF} {pos : Pos}
end
/-- a key of two small ints -/
def smallK (k : List Key) : Bool := match k with
  | [.inl i, .inl j] => decide (0 ≤ i) && decide (i < 9) && (decide (0 ≤ j) && decide (j < 9))
  | _ => false
end DL
namespace DL
open PySem PySem.Spec PyProof.Rows L2
theorem KT.keys {H : Hp} {kvs : List (List Key × V)} {xs : List (List Key × Addr × Value)} (r : KT H kvs xs) : kvs.map (·.1) = xs.map (·.1) := by
  induction r with
  | nil => rfl
  | @cons p q ps qs h t ih => rw [List.map_cons, List.map_cons, ih, h.1]
end DL
namespace DL
open PySem PySem.Spec PyProof.Rows L2
def smallD : D → Bool
  | .tuple [.int i, .int j] => decide (0 ≤ i) && decide (i < 9) && (decide (0 ≤ j) && decide (j < 9))
  | _ => false
theorem RepT.small {K : Fg} {H : Hp} : ∀ {more : List (List Key × V)} {md : List (D × D)}, RepT K H more md → md.all (fun p => smallD p.1) = true → ∀ p ∈ more, smallK p.1 = true
  | _, _, .nil, _, p, m => absurd m List.not_mem_nil
  | _, _, .cons (k := k) a b, h, p, m => by
    rw [List.all_cons, Bool.and_eq_true] at h
    rcases List.mem_cons.mp m with rfl | m
    · have h1 : smallD (.tuple (k.map keyD)) = true := h.1
      match k, h1 with
      | [.inl i, .inl j], h1 => exact h1
      | [], h1 => cases h1
      | [.inl i], h1 => cases h1
      | [.inr i], h1 => cases h1
      | [.inr i, .inl j], h1 => cases h1
      | [.inr i, .inr j], h1 => cases h1
      | [.inl i, .inr j], h1 => cases h1
      | x :: y :: z :: r, h1 => cases x <;> cases y <;> cases h1
    · exact RepT.small b h.2 p m
section
variable {X : Cx} {B : Bs} {W : WX} {fa : EF} {pos : Pos}
end
section
variable {X : Cx} {B : Bs} {W : WX} {k i : Nat} {f : Addr} {ps : List Str} {tails : List (List D)} {m : List Md} {F : List D → R} {x y : Str} {p pos : Pos} {e : Expr} {es : List Expr} {fa : AF}
end
end DL
namespace DL
open PySem PySem.Spec PyProof.Rows L2
/-- a pair of pairs of ints stands at b -/
def PairsAt (H : Hp) (b : Addr) : Prop := ∃ (b1 b2 : Addr) (i j k l : Int), H b = some (.tup [.ref b1, .ref b2]) ∧ H b1 = some (.tup [.int i, .int j]) ∧ H b2 = some (.tup [.int k, .int l])
section
variable {X : Cx} {pins : List (Addr × Obj)} {σ : L2.St} {H : Hp} {s : Shared}
end
def pairsD : D → Bool
  | .tuple [.tuple [.int _, .int _], .tuple [.int _, .int _]] => true
  | _ => false
theorem Shal.pairs {K : Fg} {Hs H : Hp} {v : V} {d : D} (s : Shal K Hs H v d) (e : Same Hs H) (h : pairsD d = true) : ∃ b, v = .ref b ∧ PairsAt H b := by
  unfold pairsD at h
  split at h
  · rename_i i j k l
    obtain ⟨b, vs, rfl, hb, ra⟩ := s.tupH e
    cases ra with
    | cons r1 ra =>
    cases ra with
    | cons r2 ra =>
    cases ra
    cases r1 with
    | tup h1 a1 =>
    cases r2 with
    | tup h2 a2 =>
    cases a1 with
    | cons x1 a1 =>
    cases a1 with
    | cons x2 a1 =>
    cases a1
    cases a2 with
    | cons y1 a2 =>
    cases a2 with
    | cons y2 a2 =>
    cases a2
    cases x1
    cases x2
    cases y1
    cases y2
    exact ⟨b, rfl, _, _, i, j, k, l, hb, e _ _ h1, e _ _ h2⟩
  · cases h
section
variable {X : Cx} {B : Bs} {W : WX} {a b c : Expr} {fa fb fc : EF} {apos cpos : Pos}
end
end DL
namespace DL
open PySem PySem.Spec PyProof.Rows L2
end DL
set_option maxHeartbeats 2000000
namespace PySem
namespace DXM
open Builtin Builtin.ObjectAttr PySem.W PySem.Calls PyProof.Rows PySem.HandSPX
section
variable {prog : Program} {w : World} {A : Around} {E : Value → Shared → Prop} {R : Result → Shared → Prop} {h : Heap} {g : Array GenState} {d : Drawn} {t : Nat} {os : OsState} {kw : List (Str × Value)}
variable {nm q : Str} {C N : Addr} {bs bm bmB : List Value} {hdct : Bool} {sn : List Str} {sub : List Value} {ab : Bool} {col : Option Bool} {dd : Option Addr} {k0 k1 k2 k3 k5 : Option Value} {B newId initId : String}
end
section
variable {prog : Program} {w : World} {A : Around} {E : Value → Shared → Prop} {R : Result → Shared → Prop} {s : Shared} {K : Frag} {mg : Str → Option Value} {y qq : Str} {C fI : Addr}
end
end DXM
end PySem
namespace L2
open PySem PySem.Spec PyProof.Rows
end L2
namespace DXM
open PySem PySem.Spec PyProof.Rows L2 PySem.DXM
section
variable {X : Cx} {C fI : Addr}
end
end DXM
set_option maxHeartbeats 2000000
namespace DXM
open PySem PySem.Spec PyProof.Rows L2 DL PySem.DXM
end DXM
set_option maxHeartbeats 2000000
namespace DXM
open PySem PySem.Spec PyProof.Rows L2 DL PySem.DXM PySem.HandSPX
end DXM
set_option maxHeartbeats 2000000
namespace DL
open PySem PySem.Spec PyProof.Rows L2
def maxL : List Int → Int
  | [] => 0
  | x :: r => r.foldl (fun a b => if a < b then b else a) x
def minL : List Int → Int
  | [] => 0
  | x :: r => r.foldl (fun a b => if b < a then b else a) x
theorem maxL_at : ∀ (r : List Int) (x : Int), (r.foldl (fun a b => if a < b then b else a) x = x ∨ r.foldl (fun a b => if a < b then b else a) x ∈ r) ∧ x ≤ r.foldl (fun a b => if a < b then b else a) x ∧ ∀ y ∈ r, y ≤ r.foldl (fun a b => if a < b then b else a) x
  | [], x => ⟨.inl rfl, Int.le_refl _, fun _ m => absurd m List.not_mem_nil⟩
  | z :: r, x => by
    obtain ⟨h1, h2, h3⟩ := maxL_at r (if x < z then z else x)
    rw [List.foldl_cons]
    generalize r.foldl (fun a b => if a < b then b else a) (if x < z then z else x) = m at h1 h2 h3
    by_cases c : x < z
    · rw [if_pos c] at h1 h2
      refine ⟨.inr (h1.elim (fun e => by rw [e]; exact List.mem_cons_self) fun e => List.mem_cons_of_mem _ e), by omega, fun y my => ?_⟩
      rcases List.mem_cons.mp my with rfl | my
      · exact h2
      · exact h3 y my
    · rw [if_neg c] at h1 h2
      refine ⟨h1.elim .inl fun e => .inr (List.mem_cons_of_mem _ e), h2, fun y my => ?_⟩
      rcases List.mem_cons.mp my with rfl | my
      · omega
      · exact h3 y my
theorem minL_at : ∀ (r : List Int) (x : Int), (r.foldl (fun a b => if b < a then b else a) x = x ∨ r.foldl (fun a b => if b < a then b else a) x ∈ r) ∧ r.foldl (fun a b => if b < a then b else a) x ≤ x ∧ ∀ y ∈ r, r.foldl (fun a b => if b < a then b else a) x ≤ y
  | [], x => ⟨.inl rfl, Int.le_refl _, fun _ m => absurd m List.not_mem_nil⟩
  | z :: r, x => by
    obtain ⟨h1, h2, h3⟩ := minL_at r (if z < x then z else x)
    rw [List.foldl_cons]
    generalize r.foldl (fun a b => if b < a then b else a) (if z < x then z else x) = m at h1 h2 h3
    by_cases c : z < x
    · rw [if_pos c] at h1 h2
      refine ⟨.inr (h1.elim (fun e => by rw [e]; exact List.mem_cons_self) fun e => List.mem_cons_of_mem _ e), by omega, fun y my => ?_⟩
      rcases List.mem_cons.mp my with rfl | my
      · exact h2
      · exact h3 y my
    · rw [if_neg c] at h1 h2
      refine ⟨h1.elim .inl fun e => .inr (List.mem_cons_of_mem _ e), h2, fun y my => ?_⟩
      rcases List.mem_cons.mp my with rfl | my
      · omega
      · exact h3 y my
section
variable {X : Cx}
end
end DL
set_option maxHeartbeats 2000000
namespace PySem
open Sem (wp)
section
variable {prog : Program} {w : World} {A : Around} {R : Result → Shared → Prop} {I : Addr} {fp wr : List Addr} {n : Nat} {P : Nat → Value → Prop} {St : Nat → Heap → Prop} {kw : List (Str × Value)}
end
section
variable {prog : Program} {w : World} {A : Around} {E : Value → Shared → Prop} {s : Shared} {l : Addr}
end
end PySem
namespace DL
open PySem PySem.Spec PyProof.Rows L2
section
variable {prog : Program} {w : World} {A : Around} {E : Value → Shared → Prop} {s : Shared} {l : Addr}
end
end DL
set_option maxHeartbeats 2000000
namespace DL
open PySem PySem.Spec PyProof.Rows L2
/-- a dict's content -/
def IsDct (u : HO) : Prop := (∃ ks, u = .dK ks) ∨ ∃ ks, u = .dT ks
/-- alike, but that the dict u at p may be locked here and free there -/
structure Alt (p : Addr) (u : HO) (A B : Hp) : Prop where
  ne : ∀ a, a ≠ p → B a = A a
  a : A p = some u ∨ ∃ od, A p = some (.frz od u)
  b : B p = some u ∨ ∃ od, B p = some (.frz od u)
section
variable {K : Fg} {p : Addr} {u : HO} {H H' : Hp}
theorem Alt.symm (h : Alt p u H H') : Alt p u H' H := ⟨fun a n => (h.ne a n).symm, h.b, h.a⟩
theorem Alt.at_ (hu : IsDct u) (h : Alt p u H H') {a : Addr} {o : HO} (e : H a = some o) (n1 : ∀ od v, o ≠ .frz od v) (n2 : ¬ IsDct o) : H' a = some o := by
  by_cases q : a = p
  · rw [q] at e
    rcases h.a with z | ⟨od, z⟩
    · rw [z] at e; cases e; exact absurd hu n2
    · rw [z] at e; cases e; exact absurd rfl (n1 _ _)
  · rw [h.ne a q]; exact e
theorem Alt.rd (hu : IsDct u) (h : Alt p u H H') {a : Addr} {o : HO} (ho : IsDct o) (e : Rd H a o) : Rd H' a o := by
  by_cases q : a = p
  · subst q
    have : o = u := by
      rcases e with e | ⟨od, e⟩
      · rcases h.a with z | ⟨od, z⟩
        · rw [z] at e; cases e; rfl
        · rw [z] at e; cases e; rcases ho with ⟨_, y⟩ | ⟨_, y⟩ <;> cases y
      · rcases h.a with z | ⟨od', z⟩
        · rw [z] at e; cases e; rcases hu with ⟨_, y⟩ | ⟨_, y⟩ <;> cases y
        · rw [z] at e; cases e; rfl
    subst this
    rcases h.b with z | ⟨od, z⟩
    · exact .inl z
    · exact .inr ⟨od, z⟩
  · rcases e with e | ⟨od, e⟩
    · exact .inl ((h.ne a q).trans e)
    · exact .inr ⟨od, (h.ne a q).trans e⟩
mutual
theorem Rep.alt (hu : IsDct u) (h : Alt p u H H') : ∀ {v : V} {d : D}, Rep K H v d → Rep K H' v d
  | _, _, .non => .non
  | _, _, .bl b => .bl b
  | _, _, .int i => .int i
  | _, _, .str x => .str x
  | _, _, .lst s r => .lst (h.at_ hu s (fun _ _ => nofun) (fun z => by rcases z with ⟨_, z⟩ | ⟨_, z⟩ <;> cases z)) (RepA.alt hu h r)
  | _, _, .tup s r => .tup (h.at_ hu s (fun _ _ => nofun) (fun z => by rcases z with ⟨_, z⟩ | ⟨_, z⟩ <;> cases z)) (RepA.alt hu h r)
  | _, _, .dK s r => .dK (h.rd hu (.inl ⟨_, rfl⟩) s) (RepK.alt hu h r)
  | _, _, .dT s r => .dT (h.rd hu (.inr ⟨_, rfl⟩) s) (RepT.alt hu h r)
  | _, _, .ins s t r => .ins (h.at_ hu s (fun _ _ => nofun) (fun z => by rcases z with ⟨_, z⟩ | ⟨_, z⟩ <;> cases z)) (h.at_ hu t (fun _ _ => nofun) (fun z => by rcases z with ⟨_, z⟩ | ⟨_, z⟩ <;> cases z)) (RepI.alt hu h r)
  | _, _, .dN s r => .dN (h.at_ hu s (fun _ _ => nofun) (fun z => by rcases z with ⟨_, z⟩ | ⟨_, z⟩ <;> cases z)) (RepN.alt hu h r)
theorem RepA.alt (hu : IsDct u) (h : Alt p u H H') : ∀ {vs : List V} {ds : List D}, RepA K H vs ds → RepA K H' vs ds
  | _, _, .nil => .nil
  | _, _, .cons a b => .cons (Rep.alt hu h a) (RepA.alt hu h b)
theorem RepK.alt (hu : IsDct u) (h : Alt p u H H') : ∀ {vs : List (Key × V)} {ds : List (D × D)}, RepK K H vs ds → RepK K H' vs ds
  | _, _, .nil => .nil
  | _, _, .cons a b => .cons (Rep.alt hu h a) (RepK.alt hu h b)
theorem RepT.alt (hu : IsDct u) (h : Alt p u H H') : ∀ {vs : List (List Key × V)} {ds : List (D × D)}, RepT K H vs ds → RepT K H' vs ds
  | _, _, .nil => .nil
  | _, _, .cons a b => .cons (Rep.alt hu h a) (RepT.alt hu h b)
theorem RepN.alt (hu : IsDct u) (h : Alt p u H H') : ∀ {ys : List NEnt} {ds : List (D × D)}, RepN K H ys ds → RepN K H' ys ds
  | _, _, .nil => .nil
  | _, _, .cons q r a b => .cons (q.mono fun _ _ z => h.at_ hu z (fun _ _ => nofun) (fun y => by rcases y with ⟨_, y⟩ | ⟨_, y⟩ <;> cases y)) r (Rep.alt hu h a) (RepN.alt hu h b)
theorem RepI.alt (hu : IsDct u) (h : Alt p u H H') : ∀ {vs : List (Str × V)} {ds : List (D × D)}, RepI K H vs ds → RepI K H' vs ds
  | _, _, .nil => .nil
  | _, _, .cons a b => .cons (Rep.alt hu h a) (RepI.alt hu h b)
end
/-- slots that do not look into trees -/
def Slot.flat : Slot → Bool
  | .un => true
  | .val _ => true
  | .own _ => true
  | .arg _ => true
  | .fn _ => true
  | _ => false
/-- the base, told anew at p -/
structure BAlt (p : Addr) (Hs' H' : Hp) (B B' : Bs) : Prop where
  o0 : B'.own0 = B.own0
  o1 : B'.own1 = B.own1
  rt : B'.rt = B.rt
  pin : B'.pin = B.pin
  hs : ∀ a, a ≠ p → B'.Hs0 a = B.Hs0 a
  h : ∀ a, a ≠ p → B'.H0 a = B.H0 a
  hs0 : B.Hs0 p ≠ none → B'.Hs0 p ≠ none
  h0 : B'.H0 p = none ↔ B.H0 p = none
  hsp : ∀ o, B'.Hs0 p = some o → Hs' p = some o
  hp : ∀ o, B'.H0 p = some o → ¬ B.own0 p → ¬ B.own1 p → H' p = some o
theorem BAlt.nw {Hs' H' : Hp} {B B' : Bs} (h : BAlt p Hs' H' B B') {a : Addr} : B'.nw a ↔ B.nw a := by
  unfold Bs.nw
  rw [h.o1]
  by_cases q : a = p
  · rw [q, h.h0]
  · rw [h.h a q]
theorem Cont.alt {Hs Hs' : Hp} (hu : IsDct u) (h : Alt p u Hs Hs') {a : Addr} {d : D} (e : H' a = H a) (c : Cont K Hs H a d) : Cont K Hs' H' a d := by
  cases d with
  | list ds => obtain ⟨vs, x, y⟩ := c; exact ⟨vs, e.trans x, RepA.alt hu h y⟩
  | dict kvs =>
    rcases c with ⟨ks, x, y⟩ | ⟨ks, es, ee, x, y⟩ | ⟨ys, es, ee, x, y⟩
    · exact .inl ⟨ks, e.trans x, RepK.alt hu h y⟩
    · exact .inr (.inl ⟨ks, es, ee, e.trans x, RepT.alt hu h y⟩)
    · exact .inr (.inr ⟨ys, es, ee, e.trans x, RepN.alt hu h y⟩)
  | _ => exact c.elim
theorem Sl.alt {B B' : Bs} {Hs Hs' : Hp} {σ : L2.St} {ρ : En} (sl : Sl K B Hs H σ ρ) (fl : ρ.all Slot.flat = true) (hu : IsDct u) (h1 : Alt p u Hs Hs') (h2 : Alt p u H H') (e : Hs' p = H' p) (hb : BAlt p Hs' H' B B') : Sl K B' Hs' H' σ ρ := by
  have flat : ∀ (i : Nat) (s : Slot), ρ[i]? = some s → s.flat = true := fun i s hs => List.all_eq_true.mp fl s (List.mem_of_getElem? hs)
  have np : ∀ a, Hs a = none → a ≠ p ∧ Hs' a = none := fun a n => by
    have : a ≠ p := fun q => by
      rw [q] at n
      rcases h1.a with z | ⟨_, z⟩ <;> (rw [z] at n; cases n)
    exact ⟨this, (h1.ne a this).trans n⟩
  have pn : Hs p ≠ none := fun n => (np p n).1 rfl
  refine ⟨sl.len, fun i x s a b => ?_, fun a o ea => ?_, fun a o ea => ?_, fun a => ?_, fun a o ea n0 n1 => ?_, fun a ha => ?_, ?_⟩
  · have ok := sl.ok i x s a b
    cases s with
    | un => trivial
    | val d => obtain ⟨v, ev, r⟩ := ok; exact ⟨v, ev, Rep.alt hu h1 r⟩
    | own d =>
      obtain ⟨q, eq, n, z, c⟩ := ok
      obtain ⟨y1, y2⟩ := np q n
      exact ⟨q, eq, y2, hb.nw.mpr z, c.alt hu h1 (h2.ne q y1)⟩
    | arg d =>
      obtain ⟨q, eq, n, z, c⟩ := ok
      obtain ⟨y1, y2⟩ := np q n
      exact ⟨q, eq, y2, ⟨by rw [hb.rt]; exact z.1, by rw [hb.nw, hb.o0]; exact z.2⟩, c.alt hu h1 (h2.ne q y1)⟩
    | fn a => exact ok
    | _ => exact absurd (flat i _ b) (by intro z; cases z)
  · by_cases q : a = p
    · rw [q] at ea ⊢; rw [← e]; exact ea
    · rw [h2.ne a q]; exact sl.sub a o (by rw [← h1.ne a q]; exact ea)
  · by_cases q : a = p
    · rw [q] at ea ⊢; exact hb.hsp o ea
    · rw [h1.ne a q]; exact sl.base a o (by rw [← hb.hs a q]; exact ea)
  · by_cases q : a = p
    · subst q
      rcases sl.new a with z | z | z | ⟨xs, z⟩
      · exact absurd z pn
      · exact .inr (.inl (hb.hs0 z))
      · exact .inr (.inr (.inl (hb.nw.mpr z)))
      · rcases h2.a with y | ⟨_, y⟩
        · rw [y] at z; cases z; rcases hu with ⟨_, y⟩ | ⟨_, y⟩ <;> cases y
        · rw [y] at z; cases z
    · rcases sl.new a with z | z | z | ⟨xs, z⟩
      · exact .inl ((h1.ne a q).trans z)
      · exact .inr (.inl (by rw [hb.hs a q]; exact z))
      · exact .inr (.inr (.inl (hb.nw.mpr z)))
      · exact .inr (.inr (.inr ⟨xs, (h2.ne a q).trans z⟩))
  · rw [hb.o0] at n0
    rw [hb.o1] at n1
    by_cases q : a = p
    · rw [q] at ea n0 n1 ⊢; exact hb.hp o ea n0 n1
    · rw [h2.ne a q]; exact sl.keep a o (by rw [← hb.h a q]; exact ea) n0 n1
  · rw [hb.o0, hb.o1] at ha
    by_cases q : a = p
    · rw [q]
      rcases h2.b with z | ⟨od, z⟩
      · exact ⟨_, z⟩
      · exact ⟨_, z⟩
    · rw [h2.ne a q]; exact sl.there a ha
  · obtain ⟨F, f⟩ := sl.feet
    refine ⟨F, fun i x s a b => ?_, f.out, f.dis⟩
    have ft := f.at_ i x s a b
    cases s with
    | un => exact ft
    | val d => exact ft
    | own d => exact ft
    | arg d => exact ft
    | fn a => exact ft
    | _ => exact absurd (flat i _ b) (by intro z; cases z)
end
def compEnd (K : Fg) (B : Bs) (σ : L2.St) (Hs1 : Hp) (Q : VK) : O (List D) → Prop
  | .ok zs ρ2 => zs.length ≤ 100000 ∧ ∀ Hs' H' p, Sl K B Hs' H' σ ρ2 → Same Hs1 Hs' → Hs' p = none → B.nw p → Nob K B Hs' H' σ ρ2 p → Cont K Hs' H' p (.list zs) → Q (.ref p) H'
  | _ => False
section
variable {X : Cx} {B : Bs} {W : WX} {t : Tg} {tt : BF} {fe : EF}
theorem comp_core {σ : L2.St} {H1 Hs1 : Hp} {Q : VK} {vs : List Nat} {ρ1 : En} {ds : List D} {J : It} (hv : ∀ i ∈ t.at, i ∈ vs) (sl1 : Sl X.K B Hs1 H1 σ ρ1) (w : WalkD X.K J Hs1 ds) (q1 : compEnd X.K B σ Hs1 Q (compLoop t vs tt fe ds (wipeE ρ1 vs))) :
    tLc (fun _ _ R => R J H1) (tgA X.K t) (tTA X.K X.mg tt) (tDA X.K X.mg fe) vs σ H1 Q := by
  intro Dl nD
  obtain ⟨f1, f2, f3⟩ := sl1.fresh nD
  -- what is wanted of the rest of the loop, with acc made so far
  let Fin : List D → O (List D) → Prop := fun acc o => match o with
    | .ok zs ρ2 => (acc ++ zs).length ≤ 100000 ∧ ∀ Hs' H' p, Sl X.K B Hs' H' σ ρ2 → Same Hs1 Hs' → Hs' p = none → B.nw p → Nob X.K B Hs' H' σ ρ2 p → Cont X.K Hs' H' p (.list (acc ++ zs)) → Q (.ref p) H'
    | _ => False
  have fin0 : Fin [] (compLoop t vs tt fe ds (wipeE ρ1 vs)) := by
    cases ec : compLoop t vs tt fe ds (wipeE ρ1 vs) with
    | er e r => rw [ec] at q1; exact q1.elim
    | bad => rw [ec] at q1; exact q1.elim
    | ok zs ρ2 => rw [ec] at q1; exact q1
  refine ⟨fun i m H' => m = ds.length - i ∧ i ≤ ds.length ∧ ∃ Hs' ρ' acc, Same Hs1 Hs' ∧ Sl X.K B Hs' H' (wipe σ vs) (wipeE ρ' vs) ∧ Hs' Dl = none ∧ Nob X.K B Hs' H' (wipe σ vs) (wipeE ρ' vs) Dl ∧ Cont X.K Hs' H' Dl (.list acc) ∧ Fin acc (compLoop t vs tt fe (ds.drop i) (wipeE ρ' vs)),
    ⟨ds.length, rfl, Nat.zero_le _, Hs1, ρ1, [], .refl _, (sl1.grow (Grow.loose sl1.sub nD)).wiped vs, f1, (f3.grow sl1 (Grow.loose sl1.sub nD)).wiped vs, ⟨[], upd_same, .nil⟩, fin0⟩, ?_⟩
  rintro i m H2 ⟨rfl, hi, Hs2, ρ2, acc, s2, sl2, nd2, np2, cn2, fin2⟩
  have sm : Same Hs1 H2 := s2.trans sl2.sub
  by_cases hlt : i < ds.length
  · refine .inr ⟨w.goes i H2 hlt sm, fun H' => i + 1 ≤ ds.length ∧ ∃ Hs' ρ' acc, Same Hs1 Hs' ∧ Sl X.K B Hs' H' (wipe σ vs) (wipeE ρ' vs) ∧ Hs' Dl = none ∧ Nob X.K B Hs' H' (wipe σ vs) (wipeE ρ' vs) Dl ∧ Cont X.K Hs' H' Dl (.list acc) ∧ Fin acc (compLoop t vs tt fe (ds.drop (i + 1)) (wipeE ρ' vs)),
      fun H' h => ⟨ds.length - (i + 1), by omega, rfl, h⟩, fun x H3 y => ?_⟩
    obtain ⟨Hs3, g, r⟩ := w.yields i H2 x H3 ds[i] (by simp [hlt]) sm y Hs2 s2 sl2.sub
    rw [drop_get hlt] at fin2
    unfold compLoop at fin2
    cases ep : Tg.put t ds[i] (wipeE ρ2 vs) with
    | none => rw [ep] at fin2; exact fin2.elim
    | some ρ3 =>
      rw [ep] at fin2
      dsimp only at fin2
      have sl3 := sl2.grow g
      have nd3 : Hs3 Dl = none := by
        rcases g.new Dl with h | h | h
        · exact h
        · exact absurd nd2 h
        · exact (cn2.own.nofree h).elim
      obtain ⟨vs3, ev3, rv3⟩ := cn2
      have ev3 : H3 Dl = some (.lst vs3) := g.h _ _ ev3
      have rv3 := rv3.mono g.s
      obtain ⟨F2, fe2, nF2⟩ := np2
      have fe3 := fe2.grow sl2 g
      have slI := (sl3.inner fe3).1
      refine ⟨_, Hs3, _, _, ρ3, slI, r, ep, fun σ4 sl4 o4 => ⟨?_, ?_⟩⟩
      · refine wipe_eq (σ := wipe σ vs) (σ' := σ4) ⟨o4.1, fun j hj => o4.2 j fun z => hj (hv j z)⟩ |>.trans ?_
        refine wipe_eq ⟨wipe_length _ _, fun j hj => wipe_out' hj⟩
      have wq : wipe σ4 vs = wipe σ vs := (wipe_eq (σ := wipe σ vs) (σ' := σ4) ⟨o4.1, fun j hj => o4.2 j fun z => hj (hv j z)⟩).trans (wipe_eq ⟨wipe_length _ _, fun j hj => wipe_out' hj⟩)
      have lenz : vs3.length = acc.length := rv3.length
      refine ⟨_, Hs3, ρ3, sl4, ?_⟩
      cases et : tt ρ3 with
      | er e z => rw [et] at fin2; exact fin2.elim
      | bad => rw [et] at fin2; exact fin2.elim
      | ok b ρ4 =>
        rw [et] at fin2
        unfold DL.noEr O.bind at fin2
        dsimp only at fin2
        intro Hs5 H5 sl5 e5
        cases b with
        | false =>
          rw [if_neg (by decide)] at fin2
          rw [if_neg (by decide)]
          have sl6 := (sl5.wiped vs)
          rw [wq] at sl6
          obtain ⟨h1, h2, h3⟩ := sl6.floats ev3 (fun _ => nofun) nd3 nF2
          obtain ⟨slo, all⟩ := sl3.outer fe3 sl6
          obtain ⟨F4, fe4⟩ := sl6.feet
          exact ⟨hlt, Hs5, ρ4, acc, (s2.trans g.s).trans e5, slo, h2, ⟨F4, all F4 fe4, h3 F4 fe4⟩, ⟨vs3, h1, rv3.mono e5⟩, fin2⟩
        | true =>
          rw [if_pos rfl] at fin2
          rw [if_pos rfl]
          refine ⟨_, Hs5, ρ4, sl5, ?_⟩
          cases ee : fe ρ4 with
          | er e z => rw [ee] at fin2; exact fin2.elim
          | bad => rw [ee] at fin2; exact fin2.elim
          | ok x6 ρ6 =>
            rw [ee] at fin2
            cases x6 <;> first | exact fin2.elim | skip
            rename_i z6
            dsimp only at fin2
            intro Hs7 H7 sl7 e7 v7 hv7
            have sl8 := (sl7.wiped vs)
            rw [wq] at sl8
            obtain ⟨h1, h2, h3⟩ := sl8.floats ev3 (fun _ => nofun) nd3 nF2
            obtain ⟨slo, all⟩ := sl3.outer fe3 sl8
            obtain ⟨F4, fe4⟩ := sl8.feet
            obtain ⟨sl9, fe9⟩ := slo.scratch (o := .lst (vs3 ++ [v7])) (all F4 fe4) (h3 F4 fe4) h2 (.inl f2) (fun ⟨_, t⟩ => by rw [h1] at t; cases t)
            cases ec : compLoop t vs tt fe (ds.drop (i + 1)) (wipeE ρ6 vs) with
            | er e z => rw [ec] at fin2; exact fin2.elim
            | bad => rw [ec] at fin2; exact fin2.elim
            | ok zs ρ10 =>
              rw [ec] at fin2
              obtain ⟨l10, fin10⟩ := fin2
              have h8 : (100000 : Nat) ≤ sizeLine := by decide
              refine ⟨vs3, h1, ?_, hlt, Hs7, ρ6, acc ++ [z6], (s2.trans g.s).trans (e5.trans e7), sl9, h2, ⟨F4, fe9, h3 F4 fe4⟩, ⟨vs3 ++ [v7], upd_same, ((rv3.mono (e5.trans e7)).append (.cons hv7 .nil))⟩, ?_⟩
              · rw [List.length_append, List.length_cons] at l10
                omega
              · rw [ec]
                refine ⟨?_, ?_⟩
                · rw [List.append_assoc]; exact l10
                · rw [List.append_assoc]; exact fin10
  · have e : i = ds.length := by omega
    subst e
    rw [List.drop_length] at fin2
    obtain ⟨_, fin3⟩ := fin2
    rw [List.append_nil] at fin3
    obtain ⟨F2, fe2, nF2⟩ := np2
    exact .inl ⟨w.stops H2 sm, fin3 Hs2 H2 Dl sl2.unwipe s2 nd2 f2 ⟨F2, fe2.unwipe sl2, nF2⟩ cn2⟩
end
theorem FeetOk.flat {K : Fg} {B B' : Bs} {Hs H Hs' H' : Hp} {σ : L2.St} {ρ : En} {F : Nat → List Addr} (fl : ρ.all Slot.flat = true) (f : FeetOk K B Hs H σ ρ F) : FeetOk K B' Hs' H' σ ρ F := by
  have flat : ∀ (i : Nat) (s : Slot), ρ[i]? = some s → s.flat = true := fun i s hs => List.all_eq_true.mp fl s (List.mem_of_getElem? hs)
  refine ⟨fun i x s a b => ?_, f.out, f.dis⟩
  have ft := f.at_ i x s a b
  cases s with
  | un => exact ft
  | val d => exact ft
  | own d => exact ft
  | arg d => exact ft
  | fn a => exact ft
  | _ => exact absurd (flat i _ b) (by intro z; cases z)
def Bs.at_ (B : Bs) (p : Addr) (o : HO) : Bs := { B with Hs0 := fun a => if a = p then (B.Hs0 p).map fun _ => o else B.Hs0 a, H0 := fun a => if a = p then (B.H0 p).map fun _ => o else B.H0 a }
section
variable {X : Cx} {B : Bs} {W : WX} {elt tg iter : Expr} {ifs : List Expr} {scope : Scope} {own : List (Str × Nat)} {pos : Pos} {t : Tg} {tt : BF} {fe : EF} {j : Nat}
end
end DL
namespace DL
open PySem PySem.Spec PyProof.Rows L2
section
variable {X : Cx} {B : Bs} {W : WX} {e : Expr} {fa : EF} {p p2 pos pos2 : Pos}
end
end DL
namespace DL
open PySem PySem.Spec PyProof.Rows L2
def nkey : D → Option NKy
  | .tuple [.tuple [.int i, .int j], .tuple [.int k, .int l]] => some ((i, j), (k, l))
  | _ => none
def lookN (kvs : List (D × D)) (k : NKy) : Option D := (kvs.find? fun kv => decide (nkey kv.1 = some k)).map (·.2)
def putN (kvs : List (D × D)) (k : NKy) (v : D) : List (D × D) := if (kvs.any fun kv => decide (nkey kv.1 = some k)) = true then kvs.map (fun kv => if nkey kv.1 = some k then (kv.1, v) else kv) else kvs ++ [(nkD k, v)]
theorem nkey_eq {d : D} {k : NKy} (h : nkey d = some k) : d = nkD k := by
  unfold nkey at h
  split at h
  · cases h; rfl
  · cases h
section
variable {K : Fg} {H : Hp}
theorem RepN.keys : ∀ {ys : List NEnt} {kvs : List (D × D)}, RepN K H ys kvs → ∀ x ∈ ys, KeyAt H x.2.1 x.1
  | _, _, .nil, x, h => nomatch h
  | _, _, .cons k r a b, x, h => by
    rcases List.mem_cons.mp h with rfl | h
    · exact k
    · exact RepN.keys b x h
theorem RepN.length : ∀ {ys : List NEnt} {kvs : List (D × D)}, RepN K H ys kvs → ys.length = kvs.length
  | _, _, .nil => rfl
  | _, _, .cons _ _ _ b => congrArg Nat.succ b.length
theorem RepN.look {k : NKy} : ∀ {ys : List NEnt} {kvs : List (D × D)}, RepN K H ys kvs → (lookN kvs k = none → atKey ys k = none) ∧ ∀ d, lookN kvs k = some d → ∃ b u v, atKey ys k = some (b, u) ∧ RelV v u ∧ Rep K H v d
  | _, _, .nil => ⟨fun _ => rfl, fun d h => nomatch h⟩
  | _, _, .cons (k := j) (b := b) (u := u) (v := v) (ys := ys) (d := d) (kvs := kvs) ka rv a r => by
    obtain ⟨i1, i2⟩ := RepN.look (k := k) r
    unfold lookN atKey at i1 i2 ⊢
    rw [List.find?_cons, List.find?_cons]
    by_cases e : j = k
    · rw [decide_eq_true (show nkey (nkD j, d).1 = some k by rw [← e]; rfl), decide_eq_true (show (j, b, u).1 = k from e)]
      exact ⟨fun h => (nomatch h), fun d' h => (by cases h; exact ⟨b, u, v, rfl, rv, a⟩)⟩
    · rw [decide_eq_false (show ¬ nkey (nkD j, d).1 = some k from fun z => e (Option.some.inj z)), decide_eq_false (show ¬ (j, b, u).1 = k from e)]
      exact ⟨i1, i2⟩
theorem RepN.anyN {k : NKy} : ∀ {ys : List NEnt} {kvs : List (D × D)}, RepN K H ys kvs → (kvs.any fun kv => decide (nkey kv.1 = some k)) = (atKey ys k).isSome
  | _, _, .nil => rfl
  | _, _, .cons (k := j) (b := b) (u := u) (d := d) ka rv a r => by
    have ih := RepN.anyN (k := k) r
    unfold atKey at ih ⊢
    rw [List.any_cons, List.find?_cons]
    by_cases e : j = k
    · rw [decide_eq_true (show nkey (nkD j, d).1 = some k by rw [← e]; rfl), decide_eq_true (show (j, b, u).1 = k from e)]; rfl
    · rw [decide_eq_false (show ¬ nkey (nkD j, d).1 = some k from fun z => e (Option.some.inj z)), decide_eq_false (show ¬ (j, b, u).1 = k from e), Bool.false_or]
      exact ih
theorem RepN.repl {k : NKy} {u : Value} {v : V} {d : D} (rv : RelV v u) (r : Rep K H v d) : ∀ {ys : List NEnt} {kvs : List (D × D)}, RepN K H ys kvs → RepN K H (ys.map (putAt k u)) (kvs.map fun kv => if nkey kv.1 = some k then (kv.1, d) else kv)
  | _, _, .nil => .nil
  | _, _, .cons (k := j) (b := b) (u := u0) (d := d0) ka rv0 a q => by
    rw [List.map_cons, List.map_cons]
    unfold putAt
    by_cases e : j = k
    · rw [if_pos (show (j, b, u0).1 = k from e), if_pos (show nkey (nkD j, d0).1 = some k by rw [← e]; rfl)]
      exact .cons ka rv r (RepN.repl rv r q)
    · rw [if_neg (show ¬ (j, b, u0).1 = k from e), if_neg (show ¬ nkey (nkD j, d0).1 = some k from fun z => e (Option.some.inj z))]
      exact .cons ka rv0 a (RepN.repl rv r q)
theorem RepN.snoc {k : NKy} {b : Addr} {u : Value} {v : V} {d : D} (ka : KeyAt H b k) (rv : RelV v u) (r : Rep K H v d) : ∀ {ys : List NEnt} {kvs : List (D × D)}, RepN K H ys kvs → RepN K H (ys ++ [(k, b, u)]) (kvs ++ [(nkD k, d)])
  | _, _, .nil => .cons ka rv r .nil
  | _, _, .cons k2 r2 a q => .cons k2 r2 a (RepN.snoc ka rv r q)
theorem RepN.put {k : NKy} {b : Addr} {u : Value} {v : V} {d : D} (ka : KeyAt H b k) (rv : RelV v u) (r : Rep K H v d) {ys : List NEnt} {kvs : List (D × D)} (q : RepN K H ys kvs) : RepN K H (storedH ys k b u) (putN kvs k d) := by
  unfold storedH putN
  rw [q.anyN (k := k)]
  split
  · exact q.repl rv r
  · exact q.snoc ka rv r
end
theorem Shal.nkey {K : Fg} {Hs H : Hp} {v : V} {d : D} {k : NKy} (s : Shal K Hs H v d) (e : Same Hs H) (h : nkey d = some k) : ∃ b, v = .ref b ∧ KeyAt H b k ∧ KeyAt Hs b k := by
  obtain rfl := nkey_eq h
  obtain ⟨b, vs, rfl, hb, ra⟩ := s.tupH e
  rcases s with r | ⟨p, _, c⟩
  · generalize ez : nkD k = z at r
    cases r with
    | tup h0 ra =>
      cases ez
      cases ra with
      | cons r1 ra =>
      cases ra with
      | cons r2 ra =>
      cases ra
      cases r1 with
      | tup h1 a1 =>
      cases r2 with
      | tup h2 a2 =>
      cases a1 with
      | cons x1 a1 =>
      cases a1 with
      | cons x2 a1 =>
      cases a1
      cases a2 with
      | cons y1 a2 =>
      cases a2 with
      | cons y2 a2 =>
      cases a2
      cases x1
      cases x2
      cases y1
      cases y2
      have ka : KeyAt Hs b k := ⟨_, _, h0, h1, h2⟩
      exact ⟨b, rfl, ka.mono fun _ _ q => e _ _ q, ka⟩
    | _ => cases ez
  · exact c.elim
section
variable {X : Cx} {pins : List (Addr × Obj)} {σ : L2.St} {H : Hp} {s : Shared}
end
section
variable {X : Cx}
end
section
variable {X : Cx} {B : Bs} {W : WX} {a b c : Expr} {fa fb fc : EF} {apos cpos : Pos}
end
section
variable {X : Cx} {B : Bs} {W : WX} {a b c : Expr} {fa fb fc : EF} {pos : Pos}
end
end DL
namespace DL
open PySem PySem.Spec PyProof.Rows L2
section
variable {X : Cx} {B : Bs} {W : WX} {k c i : Nat} {f : Addr} {ps : List Str} {tails : List (List D)} {F : List D → R} {x y z : Str} {p p2 pos pos' pos2 : Pos}
end
end DL
namespace DL
open PySem PySem.Spec PyProof.Rows L2
section
variable {P : Program} {w : World} {A : Around} {E : Value → Shared → Prop} {s : Shared}
end
section
variable {X : Cx}
end
section
variable {X : Cx} {B : Bs} {W : WX} {e : Expr} {fa : EF} {p p2 pos pos2 : Pos}
end
end DL
namespace DL
open PySem PySem.Spec PyProof.Rows L2
inductive PN3 (H : Hp) : List Addr → List (NKy × Addr × V) → Prop
  | nil : PN3 H [] []
  | cons {t b : Addr} {k : NKy} {v : V} {ts : List Addr} {ps : List (NKy × Addr × V)} : H t = some (.tup [.ref b, v]) → KeyAt H b k → PN3 H ts ps → PN3 H (t :: ts) ((k, b, v) :: ps)
theorem PN3.mono {H H' : Hp} (e : Same H H') : ∀ {ts : List Addr} {ps : List (NKy × Addr × V)}, PN3 H ts ps → PN3 H' ts ps
  | _, _, .nil => .nil
  | _, _, .cons a b r => .cons (e _ _ a) (b.mono fun _ _ q => e _ _ q) (r.mono e)
section
variable {X : Cx} {pins : List (Addr × Obj)} {σ : L2.St} {H : Hp} {s : Shared}
end
end DL
namespace DL
open PySem PySem.Spec PyProof.Rows L2
section
variable {K : Fg} {Hs H : Hp} {p : Addr}
end
section
variable {K : Fg} {σ : L2.St} {Hs Hf : Hp}
end
section
variable {X : Cx} {B : Bs} {W : WX} {k i : Nat} {f : Addr} {fd : FuncData} {ps : List Str} {m : List Md} {tails : List (List D)} {F : List D → R} {dvs : List V} {dd : List D} {ds : List Value} {x : Str} {p pos : Pos} {e : Expr} {es : List Expr} {fa : AF}
end
end DL
set_option maxHeartbeats 2000000
namespace DL
open PySem PySem.Spec PyProof.Rows L2
section
variable {X : Cx} {B : Bs} {W : WX} {a b c e : Expr} {fa fb fc : EF} {pos : Pos}
end
section
variable {X : Cx} {B : Bs} {W : WX} {pos : Pos}
end
section
variable {X : Cx} {B : Bs} {W : WX} {i : Expr} {fi : EF} {p pos : Pos} {x : Str} {tbl : List (Int × Str)} {ty : TE}
end
end DL
set_option maxHeartbeats 2000000
namespace PySem
namespace DXR
open Builtin Builtin.ObjectAttr PySem.W PySem.Calls PyProof.Rows PySem.HandSPX PySem.DXM
section
variable {prog : Program} {w : World} {A : Around} {E : Value → Shared → Prop} {R : Result → Shared → Prop} {s : Shared} {K : Frag} {mg : Str → Option Value} {y qq : Str} {C fI : Addr}
end
end DXR
end PySem
namespace L2
open PySem PySem.Spec PyProof.Rows
end L2
namespace DXR
open PySem PySem.Spec PyProof.Rows L2 PySem.DXM PySem.DXR
section
variable {X : Cx} {C fI : Addr}
end
end DXR
namespace DXR
open PySem PySem.Spec PyProof.Rows L2 DL PySem.DXM PySem.DXR DXM
end DXR
set_option maxHeartbeats 2000000
namespace L2N
open PySem PySem.Spec PyProof.Rows L2
section
variable {X : Cx} {x n : Str} {c : Value} {i : Nat} {body suite : List Stmt} {b1 : Stmt} {np hp pos : Pos} {more : List ExceptHandler} {tb : WX → TS} {ts : Addr → Value → Option Addr → TS}
end
end L2N
namespace DXR
open PySem PySem.Spec PyProof.Rows L2 DL PySem.DXM PySem.DXR DXM
end DXR
set_option maxHeartbeats 2000000
namespace DXR
open PySem PySem.Spec PyProof.Rows L2 DL PySem.DXM PySem.DXR DXM
end DXR
set_option maxHeartbeats 2000000
namespace L2
open PySem PySem.Spec PyProof.Rows
section
variable {prog : Program} {w : World} {A : Around} {E : Value → Shared → Prop} {s : Shared} {l : Addr} {its : List Value} {ns : List Int} {Q : Value → Shared → Prop}
end
end L2
namespace DL
open PySem PySem.Spec PyProof.Rows L2
section
variable {X : Cx}
end
end DL
set_option maxHeartbeats 2000000
namespace DL
open PySem PySem.Spec PyProof.Rows L2
end DL
set_option maxHeartbeats 1000000
namespace DZT
open PySem DZ
abbrev TI1 (h : Heap) (it : Addr) (x : Str) (t : Tok) (k : Nat) : Prop := h.IsStrIter it (strIterType x) x t k
theorem TI1.ext {h h' : Heap} {p it : Addr} {x : Str} {t : Tok} {k : Nat} (i : TI1 h it x t k) (e : Heap.ExtBut p h h') (n : it ≠ p) : TI1 h' it x t k := Heap.IsStrIter.extBut i e n
theorem TI1.at {h h' : Heap} {it : Addr} {x : Str} {t : Tok} {k : Nat} (i : TI1 h it x t k) (f : ∀ o, h.get? it = some o → h'.get? it = some o) : TI1 h' it x t k := let ⟨o, ho, r⟩ := i; ⟨o, f o ho, r⟩
theorem TI1.there {h : Heap} {it : Addr} {x : Str} {t : Tok} {k : Nat} (i : TI1 h it x t k) : ∃ o, h.get? it = some o := let ⟨o, ho, _⟩ := i; ⟨o, ho⟩
section
variable {prog : Program} {w : World} {A : Around} {E : Value → Shared → Prop} {s : Shared}
theorem one_endT {it : Addr} {i : Nat} {x : Str} {t : Tok} {Q : Option Value → Shared → Prop} (hh : A.handled = none) (hi : TI1 s.heap it x t i) (hx : x.cps[i]? = none) (hle : i ≤ x.cps.size)
    (hQ : ∀ h', Heap.ExtBut it s.heap h' → Q none { s with heap := h' }) : wpAny (model prog w) A (Builtin.SmallTypes.nextOrEnd (.ref it)) Q E s := by
  unfold Builtin.SmallTypes.nextOrEnd
  refine wpAny_bind (wpAny_attempt ?_)
  have hi2 : i = x.cps.size := Nat.le_antisymm hle (Array.getElem?_eq_none_iff.mp hx)
  subst hi2
  refine (Draws.text hh it x t).done s _ _ hi fun h' e a c => ?_
  obtain ⟨o, ho, hc⟩ := c
  refine wpAny_bind (wpAny_isInstance (T := "StopIteration") (b := true) ⟨o, ho, hc⟩ isSubtype_stop ?_)
  exact wpAny_pure (hQ h' a)
end
section
variable {prog : Program} {w : World} {A : Around} {E : Value → Shared → Prop} {s : Shared} {b2 : Bool}
theorem end_in {z TI TO i1 i2 l2 : Addr} {k1 k2 : Nat} {zx : Str} {zt : Tok} {ys : Array Value} {a b : Value} {Q : Fin → Shared → Prop} (hh : A.handled = none) (D : ZipApart z TI TO i1 i2 l2 l2)
    (hz : ZipS s.heap z TI TO .none) (hTI : IsPair s.heap TI (.ref i1) (.ref i2)) (hTO : IsPair s.heap TO a b)
    (h1 : TI1 s.heap i1 zx zt k1) (h2 : ItK b2 s.heap i2 l2 k2) (hl2 : SqK b2 s.heap l2 ys) (hx : zx.cps[k1]? = none) (hle : k1 ≤ zx.cps.size) (hy : ys[k2]? = none)
    (hE : ∀ h' e, (∀ c o, c ≠ z → c ≠ TO → c ≠ i1 → c ≠ i2 → s.heap.get? c = some o → h'.get? c = some o) → (∃ o, h'.get? e = some o ∧ o.cls = .type "StopIteration") → E (.ref e) { s with heap := h' }) :
    wpAny (model prog w) A (Builtin.«zip.__next__» ⟨[.ref z], []⟩) Q E s := by
  show wpAny _ _ (field (.ref z) 2 >>= _) _ _ _
  refine wpAny_bind (wpAny_field hz rfl (x := .bool true) rfl ?_)
  show wpAny _ _ (field (.ref z) 3 >>= _) _ _ _
  refine wpAny_bind (wpAny_field hz rfl (x := .ref TI) rfl (wpAny_bind (wpAny_seqItems hTI rfl ?_)))
  show wpAny _ _ (Builtin.SmallTypes.ownedTupleIsFree (.ref z) >>= _) _ _ _
  refine wpAny_bind ?_
  unfold Builtin.SmallTypes.ownedTupleIsFree
  refine wpAny_bind (wpAny_field hz rfl (x := .none) rfl (wpAny_pure ?_))
  simp only [if_true]
  refine wpAny_bind (wpAny_rule (wpAny_bind (wpAny_field hz rfl (x := .ref TO) rfl ?_)))
  refine wpAny_bind (wpAny_setField_rec hz (by simp) fun h₁ hz₁ hs₁ => ?_)
  replace hz₁ : ZipS h₁ z TI TO .ellipsis := hz₁
  refine wpAny_bind ?_
  simp only [List.zipIdx_cons, List.zipIdx_nil, List.forIn_cons, List.forIn_nil]
  refine wpAny_bind (wpAny_bind (wpAny_onRaise ?_))
  show wpAny _ _ (Builtin.SmallTypes.nextOrEnd (.ref i1)) _ _ _
  refine one_endT hh (TI1.ext h1 hs₁.extBut D.i1z) hx hle fun h₂ hs₂ => ?_
  have hz₂ : ZipS h₂ z TI TO .ellipsis := hs₂ _ _ D.i1z.symm hz₁
  refine wpAny_bind (wpAny_setField_rec hz₂ (by simp) fun h₃ hz₃ hs₃ => wpAny_bind ?_)
  show wpAny _ _ (forIn (([Value.ref i1, Value.ref i2].drop 1).zipIdx 1) PUnit.unit _ >>= _) _ _ _
  simp only [List.drop_succ_cons, List.drop_zero, List.zipIdx_cons, List.zipIdx_nil, List.forIn_cons, List.forIn_nil]
  refine wpAny_bind (wpAny_bind (wpAny_bind ?_))
  have e2 : ItK b2 h₃ i2 l2 k2 := ((h2.ext hs₁.extBut D.i2z).ext hs₂ D.i12.symm).ext hs₃.extBut D.i2z
  have l2' : SqK b2 h₃ l2 ys := ((hl2.ext hs₁.extBut D.l2z).ext hs₂ D.l2i1).ext hs₃.extBut D.l2z
  refine one_end hh e2 l2' hy fun h₄ hs₄ => ?_
  refine wpAny_pure (wpAny_pure (wpAny_bind (wpAny_rule ?_)))
  exact stop_now hh fun h' e k he => hE h' e (fun c o n1 _ n3 n4 q => k c o (hs₄ _ _ n4 (hs₃.extBut _ _ n1 (hs₂ _ _ n3 (hs₁.extBut _ _ n1 q))))) he
theorem pyNext_end {z TI TO i1 i2 l2 : Addr} {k1 k2 : Nat} {zx : Str} {zt : Tok} {ys : Array Value} {a b : Value} {Q : Option Value → Shared → Prop} (hh : A.handled = none) (D : ZipApart z TI TO i1 i2 l2 l2)
    (hz : ZipS s.heap z TI TO .none) (hTI : IsPair s.heap TI (.ref i1) (.ref i2)) (hTO : IsPair s.heap TO a b)
    (h1 : TI1 s.heap i1 zx zt k1) (h2 : ItK b2 s.heap i2 l2 k2) (hl2 : SqK b2 s.heap l2 ys) (hx : zx.cps[k1]? = none) (hle : k1 ≤ zx.cps.size) (hy : ys[k2]? = none)
    (hQ : ∀ h', (∀ c o, c ≠ z → c ≠ TO → c ≠ i1 → c ≠ i2 → s.heap.get? c = some o → h'.get? c = some o) → Q none { s with heap := h' }) : wpAny (model prog w) A (pyNext (.ref z)) Q E s := by
  have hT : s.TypeIs (.ref z) "zip" := ⟨_, hz, rfl⟩
  unfold pyNext
  refine wpAny_bind (wpAny_attempt (wpAny_callSpecial?_slot (name := Str.ofString "__next__") hT F.slot_zip_next
    (wpAny_call_entry F.slot_zip_next hT F.entry_zip_next (end_in hh D hz hTI hTO h1 h2 hl2 hx hle hy fun h' e hk he => ?_) (F.args_zip_next_1 _))))
  obtain ⟨o, ho, hc⟩ := he
  exact wpAny_bind (wpAny_isInstance (T := "StopIteration") (b := true) ⟨o, ho, hc⟩ isSubtype_stop (wpAny_pure (hQ _ hk)))
end
end DZT
namespace DZT
open PySem PySem.Spec PyProof.Rows L2 DZ
end DZT
set_option maxHeartbeats 2000000
namespace DL
open PySem PySem.Spec PyProof.Rows L2
section
variable {X : Cx} {B : Bs} {W : WX} {e e2 : Expr} {fa fb fc : EF} {fr : AF} {p pos tpos : Pos} {elts : List Expr} {kk : Nat}
end
def hashes (w : World) : List DictEntry → List (Str × Str) → Prop
  | [], [] => True
  | e :: es, p :: ps => e.hash = PyData.keyHash w.params p.1 ∧ hashes w es ps
  | _, _ => False
structure SDic (K : Fg) (w : World) (mg : MG) (x : Str) (tbl : List (Str × Str)) : Prop where
  ex : ∃ (a : Addr) (o : Obj) (es : Array DictEntry) (ep : Nat), mg x = some (.ref a) ∧ K.lookup a = some o ∧ o.ExactDict ∧ o.data = .dict es ep ∧ (a == sysModules) = false ∧ rows2B es.toList tbl = true ∧ hashes w es.toList tbl
  nd : (tbl.map (·.1)).Nodup
theorem str_shape {x : Str} {v : Value} (h : Value.isStrOf x v = true) : ∃ t, v = .str x t := by
  rcases keyIs_shape (k := Sum.inr x) (v := v) h with ⟨_, _, z, _⟩ | ⟨y, t, z, e'⟩
  · cases z
  · cases z; exact ⟨t, e'⟩
theorem rows2_pairs {P : Program} {w : World} : ∀ {es : List DictEntry} {tbl : List (Str × Str)}, rows2B es tbl = true → hashes w es tbl → (∀ e ∈ es, ∃ k, (mixKind P w).is k e.key = true ∧ e.hash = (mixKind P w).hash k) ∧ ∃ vs : List (Key × Value), Pairs (mixKind P w) es vs ∧ vs.map (·.1) = tbl.map (fun p => Sum.inr p.1) ∧
    ∀ i, (match tbl.lookup i with
      | some z => ∃ t, valueAt vs (Sum.inr i) = some (.str z t)
      | none => valueAt vs (Sum.inr i) = none)
  | [], [], _, _ => ⟨fun e m => absurd m List.not_mem_nil, [], .nil, rfl, fun i => rfl⟩
  | e :: es, (k, x) :: tbl, h, hh => by
    obtain ⟨h1, h2⟩ := Bool.and_eq_true_iff.mp h
    obtain ⟨a1, a2⟩ := Bool.and_eq_true_iff.mp h1
    obtain ⟨g1, g2⟩ := hh
    obtain ⟨r1, vs, r2, r3, r4⟩ := rows2_pairs (P := P) (w := w) h2 g2
    have is : (mixKind P w).is (Sum.inr k) e.key = true := a1
    obtain ⟨t, et⟩ := str_shape a2
    refine ⟨fun y m => ?_, (Sum.inr k, e.val) :: vs, .cons is rfl r2, by rw [List.map_cons, r3]; rfl, fun j => ?_⟩
    · rcases List.mem_cons.mp m with rfl | m
      · exact ⟨_, is, g1⟩
      · exact r1 y m
    · by_cases q : j = k
      · subst q
        rw [List.lookup_cons_self]
        refine ⟨t, ?_⟩
        unfold valueAt
        rw [List.find?_cons_of_pos (by simp)]
        exact congrArg some et
      · have e1 : ((k, x) :: tbl).lookup j = tbl.lookup j := by rw [List.lookup_cons, show (j == k) = false from by simpa using q]
        have e2 : valueAt ((Sum.inr k, e.val) :: vs) (Sum.inr j) = valueAt vs (Sum.inr j) := by
          unfold valueAt
          rw [List.find?_cons_of_neg (by simp; exact fun z => q z.symm)]
        rw [e1, e2]
        exact r4 j
  | [], _ :: _, h, _ => by cases h
  | _ :: _, [], h, _ => by cases h
section
variable {X : Cx} {B : Bs} {W : WX} {i j : Expr} {fi fj : EF} {p pos apos : Pos} {x : Str} {tbl : List (Str × Str)} {ty tx : TE}
theorem SDic.at_ (G : SDic X.K X.w X.mg x tbl) {s : Shared} (hK : X.K.In s.heap) : ∃ a vs, X.mg x = some (.ref a) ∧ (a == sysModules) = false ∧ s.heap.DictOf (mixKind X.prog X.w) a vs ∧ (∃ o, s.heap.get? a = some o ∧ o.cls = .type "dict" ∧ o.dict = none) ∧
    ∀ i, (match tbl.lookup i with
      | some z => ∃ t, valueAt vs (Sum.inr i) = some (.str z t)
      | none => valueAt vs (Sum.inr i) = none) := by
  obtain ⟨a, o, es, ep, hm, hk, hx, hd, hs, hr, hh⟩ := G.ex
  have ho : s.heap.get? a = some o := hK a o hk
  obtain ⟨r1, vs, r2, r3, r4⟩ := rows2_pairs (P := X.prog) (w := X.w) hr hh
  refine ⟨a, vs, hm, hs, ⟨o, es, ep, ho, hx, hd, fun e m => r1 e (by simpa using m), r2, ?_⟩, ⟨o, ho, hx.1, hx.2.1⟩, r4⟩
  rw [r3]
  have := G.nd
  rw [show tbl.map (fun p => (Sum.inr p.1 : Key)) = (tbl.map (·.1)).map Sum.inr by rw [List.map_map]; rfl]
  exact List.Pairwise.map _ (fun _ _ n z => n (Sum.inr.inj z)) this
end
end DL
set_option maxHeartbeats 2000000
namespace PySem
namespace DXR
open Builtin Builtin.ObjectAttr PySem.W PySem.Calls PyProof.Rows PySem.HandSPX PySem.DXM
section
variable {prog : Program} {w : World} {A : Around} {E : Value → Shared → Prop} {R : Result → Shared → Prop} {s : Shared} {K : Frag} {mg : Str → Option Value} {y qq : Str} {C fI : Addr}
end
end DXR
end PySem
namespace DXR
open PySem PySem.Spec PyProof.Rows L2 PySem.DXM PySem.DXR
section
variable {X : Cx} {C fI : Addr}
end
end DXR
namespace DXR
open PySem PySem.Spec PyProof.Rows L2 DL PySem.DXM PySem.DXR DXM
end DXR
set_option maxHeartbeats 2000000
namespace DCE
open PySem PySem.Spec PyProof.Rows L2 L2N
section
variable {M : Model} {A : Around} {E : Value → Shared → Prop} {s : Shared} {env : Env} {outer : List Env} {base : Heap} {L e : Addr} {Z : Obj → Prop}
end
section
variable {X : Cx} {pins : List (Addr × Obj)} {σ : L2.St} {H3 : Hp} {s3 : Shared}
variable {s : Shared} {H : Hp}
end
end DCE
namespace DL
open PySem PySem.Spec PyProof.Rows L2
section
variable {X : Cx} {B : Bs} {W : WX} {elt tg iter : Expr} {ifs : List Expr} {scope : Scope} {own : List (Str × Nat)} {pos : Pos} {t : Tg} {src : En → O (List D)} {tt : BF} {fe : EF}
end
end DL
namespace DL
open PySem PySem.Spec PyProof.Rows L2
section
variable {X : Cx} {B : Bs} {W : WX} {fa : EF} {pos : Pos}
end
end DL
namespace DL
open PySem PySem.Spec PyProof.Rows L2
def lendS : DL.Slot → DL.Slot
  | .fn a => .fn a
  | s => match s.getT with
    | some d => .val d
    | none => .un
/-- all slots told as data -/
def lend (ρ : En) : En := ρ.map lendS
/-- a base: all that stands is stable -/
def lB (H : Hp) : Bs := ⟨H, H, fun _ => False, fun _ => False, fun _ => False, fun _ => none⟩
section
variable {K : Fg} {B : Bs} {Hs H Hs' H' : Hp} {σ σ' : L2.St} {ρ ρ' : En}
theorem lendS_mut (s : DL.Slot) : (lendS s).mut = false := by
  cases s <;> rfl
theorem lendS_ok (sl : Sl K B Hs H σ ρ) {i : Nat} {x : Option V} {s : DL.Slot} {B2 : Bs} (a : σ[i]? = some x) (b : ρ[i]? = some s) : SlotOk K B2 H H x (lendS s) := by
  have ok := sl.ok i x s a b
  have base : ∀ d, (∃ v, x = some v ∧ Vl.getT ρ (.at i) = some d) → lendS s = .val d → SlotOk K B2 H H x (lendS s) := fun d ⟨v, e1, e2⟩ e3 => by
    rw [e3]
    subst e1
    exact ⟨v, rfl, sl.lookT (x := .at i) a e2⟩
  have gt : ∀ d, s.getT = some d → Vl.getT ρ (.at i) = some d := fun d e => by
    show (ρ[i]?).bind Slot.getT = some d
    rw [b]; exact e
  cases s with
  | un => trivial
  | gho _ _ => trivial
  | tab _ => trivial
  | fn a => exact ok
  | val d => obtain ⟨v, rfl, _⟩ := ok; exact base d ⟨v, rfl, gt _ rfl⟩ rfl
  | own d => obtain ⟨p, rfl, _⟩ := ok; exact base d ⟨_, rfl, gt _ rfl⟩ rfl
  | arg d => obtain ⟨p, rfl, _⟩ := ok; exact base d ⟨_, rfl, gt _ rfl⟩ rfl
  | tre d => obtain ⟨p, f, rfl, _⟩ := ok; exact base _ ⟨_, rfl, gt _ rfl⟩ rfl
  | atr d => obtain ⟨p, f, rfl, _⟩ := ok; exact base _ ⟨_, rfl, gt _ rfl⟩ rfl
theorem Sl.lend (sl : Sl K B Hs H σ ρ) : Sl K (lB H) H H σ (DL.lend ρ) := by
  have key : ∀ (i : Nat) (x : Option V) (t : DL.Slot), σ[i]? = some x → (DL.lend ρ)[i]? = some t → SlotOk K (lB H) H H x t ∧ t.mut = false := fun i x t a b => by
    unfold DL.lend at b
    rw [List.getElem?_map] at b
    cases e : ρ[i]? with
    | none => rw [e] at b; cases b
    | some s =>
      rw [e] at b
      cases b
      exact ⟨lendS_ok sl a e, lendS_mut s⟩
  refine ⟨by unfold DL.lend; rw [List.length_map]; exact sl.len, fun i x s a b => (key i x s a b).1, .refl _, .refl _, fun a => ?_, fun a o e _ _ => e, fun a z => (z.elim id id).elim, fun _ => [], fun i x s a b => ?_, fun _ _ => rfl, fun _ _ _ _ m => by cases m⟩
  · cases e : H a with
    | none => exact .inl rfl
    | some o => exact .inr (.inl (by show H a ≠ none; rw [e]; simp))
  · have := (key i x s a b).2
    cases s <;> first | (cases this; done) | rfl
/-- what was evaluated so has laid new objects alone -/
theorem Sl.lent (i : Sl K (lB H) Hs' H' σ' ρ') : Grow H H Hs' H' where
  s := i.base
  h := fun a o e => i.keep a o e (fun z => z) (fun z => z)
  sub := i.sub
  new := fun a => by
    cases e : H a with
    | some o => exact .inr (.inl (by simp))
    | none =>
      rcases i.new a with z | z | z | ⟨xs, z⟩
      · exact .inl z
      · exact absurd e z
      · exact .inr (.inr (.inl rfl))
      · exact .inr (.inr (.inl rfl))
theorem growL (s : Same Hs H) (g : Grow H H Hs' H') : Grow Hs H (both Hs (tups Hs')) H' where
  s := both_l _ _
  h := g.h
  sub := both_sub (s.trans g.h) ((tups_same Hs').trans g.sub)
  new := fun b => by
    cases e : Hs b with
    | some o => exact .inr (.inl nofun)
    | none =>
      have e2 : both Hs (tups Hs') b = tups Hs' b := by unfold both; rw [e]
      rw [e2]
      cases e3 : tups Hs' b with
      | none => exact .inl rfl
      | some o =>
        obtain ⟨xs, rfl, e4⟩ := tups_at e3
        cases e5 : H b with
        | none => exact .inr (.inr (.inl rfl))
        | some u =>
          have e6 := g.h _ _ e5
          rw [g.sub _ _ e4] at e6
          cases e6
          exact .inr (.inr (.inr ⟨xs, e5⟩))
theorem tupL (s : Same Hs H) (g : Grow H H Hs' H') : ∀ a xs, Hs' a = some (.tup xs) → both Hs (tups Hs') a = some (.tup xs) := fun a xs h => by
  unfold both
  cases e : Hs a with
  | none => exact tups_of h
  | some o =>
    have e2 := g.h _ _ (s _ _ e)
    rw [g.sub _ _ h] at e2
    exact e2.symm ▸ rfl
def lfK (kvs : List (D × D)) : Bool := kvs.all fun kv => lf kv.2
theorem lfK_tail {kv : D × D} {kvs : List (D × D)} (h : lfK (kv :: kvs) = true) : lfK kvs = true := by
  unfold lfK at h
  rw [List.all_cons, Bool.and_eq_true] at h
  exact h.2
theorem RepK.lfm (t : ∀ a xs, H a = some (.tup xs) → H' a = some (.tup xs)) : ∀ {vs : List (Key × V)} {ds : List (D × D)}, RepK K H vs ds → lfK ds = true → RepK K H' vs ds
  | _, _, .nil, _ => .nil
  | _, _, .cons a b, h => by
    unfold lfK at h
    rw [List.all_cons, Bool.and_eq_true] at h
    exact .cons (a.lfm t h.1) (RepK.lfm t b h.2)
theorem RepT.lfm (t : ∀ a xs, H a = some (.tup xs) → H' a = some (.tup xs)) : ∀ {vs : List (List Key × V)} {ds : List (D × D)}, RepT K H vs ds → lfK ds = true → RepT K H' vs ds
  | _, _, .nil, _ => .nil
  | _, _, .cons a b, h => by
    unfold lfK at h
    rw [List.all_cons, Bool.and_eq_true] at h
    exact .cons (a.lfm t h.1) (RepT.lfm t b h.2)
theorem RepN.lfm (t : ∀ a xs, H a = some (.tup xs) → H' a = some (.tup xs)) : ∀ {vs : List NEnt} {ds : List (D × D)}, RepN K H vs ds → lfK ds = true → RepN K H' vs ds
  | _, _, .nil, _ => .nil
  | _, _, .cons q r a b, h => by
    unfold lfK at h
    rw [List.all_cons, Bool.and_eq_true] at h
    exact .cons (q.mono t) r (a.lfm t h.1) (RepN.lfm t b h.2)
/-- a new object that holds nothing of what was lent -/
def lfC : D → Bool
  | .list ds => lfA ds
  | .dict kvs => lfK kvs
  | _ => false
theorem Cont.lfm (t : ∀ a xs, Hs a = some (.tup xs) → Hs' a = some (.tup xs)) {p : Addr} {d : D} (c : Cont K Hs H p d) (h : lfC d = true) : Cont K Hs' H p d := by
  cases d with
  | list ds => obtain ⟨vs, a, b⟩ := c; exact ⟨vs, a, RepA.lfm t b h⟩
  | dict kvs =>
    have h : lfK kvs = true := h
    rcases c with ⟨ks, a, b⟩ | ⟨ks, es, rfl, a, b⟩ | ⟨ys, es, rfl, a, b⟩
    · exact .inl ⟨ks, a, b.lfm t h⟩
    · exact .inr (.inl ⟨ks, es, rfl, a, b.lfm t (lfK_tail h)⟩)
    · exact .inr (.inr ⟨ys, es, rfl, a, b.lfm t (lfK_tail h)⟩)
  | _ => cases h
theorem RepF.lfm (t : ∀ a xs, H a = some (.tup xs) → H' a = some (.tup xs)) : ∀ {vs : List (Str × V)} {ds : List (Str × D)}, RepF K H vs ds → (ds.all fun x => lf x.2) = true → RepF K H' vs ds
  | _, _, .nil, _ => .nil
  | _, _, .cons a b, h => by
    rw [List.all_cons, Bool.and_eq_true] at h
    exact .cons (a.lfm t h.1) (RepF.lfm t b h.2)
theorem ErOk.lfm {mg : MG} {e : Er} {cls : Value} {od : Option Addr} (t : ∀ a xs, Hs a = some (.tup xs) → Hs' a = some (.tup xs)) (h : ErOk K mg e cls od Hs H) (l : (e.fs.all fun x => lf x.2) = true) : ErOk K mg e cls od Hs' H := by
  obtain ⟨a, b⟩ := h
  refine ⟨a, b.imp id fun ⟨n, d, fs, e1, e2, r⟩ => ⟨n, d, fs, e1, e2, r.lfm t l⟩⟩
end
def lendE {α : Type} (ρ : En) : O α → O α
  | .ok a _ => .ok a ρ
  | .er e _ => if (e.fs.all fun x => lf x.2) = true then .er e ρ else .bad
  | .bad => .bad
def lfV : Vl → Bool
  | .st d => lf d
  | _ => false
def okIf {α : Type} (c : α → Bool) : O α → O α
  | .ok a r => if c a = true then .ok a r else .bad
  | o => o
def lendF (f : EF) : EF := fun ρ => okIf lfV (lendE ρ (f (lend ρ)))
def lendB (f : BF) : BF := fun ρ => lendE ρ (f (lend ρ))
section
variable {X : Cx} {B : Bs} {W : WX} {e : Expr} {f : EF} {fb : BF} {fc : CF}
theorem OP.lent {K : Fg} {mg : MG} {σ : L2.St} {Hs H : Hp} {ρ : En} {α : Type} {P P' : α → En → Hp → Hp → Prop} {c : α → Bool} {o : O α} (sl : Sl K B Hs H σ ρ) (q : OP K mg B W σ Hs P (okIf c (lendE ρ o)))
    (k : ∀ x ρ' Hs' H', o = .ok x ρ' → c x = true → Sl K (lB H) Hs' H' σ ρ' → Sl K B (both Hs (tups Hs')) H' σ ρ → P x ρ (both Hs (tups Hs')) H' → P' x ρ' Hs' H') : OP K mg (lB H) W σ H P' o := by
  cases o with
  | bad => exact q
  | ok x ρ' =>
    intro Hs' H' si e
    have g := si.lent
    have so := sl.grow (growL sl.sub g)
    have q : OP K mg B W σ Hs P (if c x = true then .ok x ρ else .bad) := q
    by_cases hc : c x = true
    · rw [if_pos hc] at q
      exact k x ρ' Hs' H' rfl hc si so (q _ _ so (both_l _ _))
    · rw [if_neg hc] at q; exact q.elim
  | er e ρ' =>
    intro cls od Hs' H' si s he
    have g := si.lent
    have so := sl.grow (growL sl.sub g)
    have q : OP K mg B W σ Hs P (okIf c (if (e.fs.all fun x => lf x.2) = true then .er e ρ else .bad)) := q
    by_cases hc : (e.fs.all fun x => lf x.2) = true
    · rw [if_pos hc] at q
      exact q cls od _ H' so (both_l _ _) (he.lfm (tupL sl.sub g) hc)
    · rw [if_neg hc] at q; exact q.elim
theorem pd_lend (h : ∀ B', PD X B' W e f) : PD X B W e (lendF f) := ⟨fun pins s σ H Q I ⟨Hs, ρ, sl, q⟩ => (h (lB H)).run pins s σ H Q I ⟨H, lend ρ, sl.lend, OP.lent sl q fun x ρ' Hs' H' _ hc si so p v hv => by
  cases x with
  | st d => exact p v (hv.lfm (tupL sl.sub si.lent) hc)
  | _ => cases hc⟩⟩
theorem pb_lend (h : ∀ B', PB X B' W e fb) : PB X B W e (lendB fb) := ⟨fun pins s σ H Q I ⟨Hs, ρ, sl, q⟩ => (h (lB H)).run pins s σ H Q I ⟨H, lend ρ, sl.lend, OP.lent (c := fun _ => true) sl (by
    unfold lendB at q
    have : okIf (fun _ => true) (lendE ρ (fb (lend ρ))) = lendE ρ (fb (lend ρ)) := by
      cases lendE ρ (fb (lend ρ)) <;> rfl
    rw [this]; exact q) fun x ρ' Hs' H' _ _ si so p => p⟩⟩
end
end DL
namespace DL
open PySem PySem.Spec PyProof.Rows L2
/-- the facts of a class: its fields' names are no attributes -/
structure ClsF (K : Fg) (c : Str) (fs : List Str) : Prop where
  cl : Cls K (He.ga K c)
  n : ∀ f ∈ fs, NoAttr K (He.ga K c) f
def lookI (f : Str) : List (D × D) → Option D
  | [] => none
  | (.str k, d) :: r => if (f == k) = true then some d else lookI f r
  | _ :: _ => none
def fldD (c f : Str) : D → Option D
  | .dict ((.none, .str c') :: kvs) => if c' = c then lookI f kvs else none
  | _ => none
section
variable {K : Fg} {H Hs : Hp}
theorem RepI.look {f : Str} : ∀ {fs : List (Str × V)} {kvs : List (D × D)}, RepI K H fs kvs → (∀ d, lookI f kvs = some d → ∃ v, fs.lookup f = some v ∧ Rep K H v d) ∧ (lookI f kvs = none → fs.lookup f = none)
  | _, _, .nil => ⟨fun _ h => (by simp [lookI] at h), fun _ => rfl⟩
  | _, _, .cons (k := k) (v := v) (ks := ks) a b => by
    obtain ⟨h1, h2⟩ := RepI.look (f := f) b
    cases e : (f == k) with
    | true =>
      refine ⟨fun d h => ⟨v, by rw [List.lookup_cons, e], ?_⟩, fun h => ?_⟩
      · unfold lookI at h
        rw [if_pos e] at h
        cases h
        exact a
      · unfold lookI at h
        rw [if_pos e] at h
        cases h
    | false =>
      refine ⟨fun d h => ?_, fun h => ?_⟩
      · unfold lookI at h
        rw [if_neg (by rw [e]; decide)] at h
        obtain ⟨u, x, y⟩ := h1 d h
        exact ⟨u, by rw [List.lookup_cons, e]; exact x, y⟩
      · unfold lookI at h
        rw [if_neg (by rw [e]; decide)] at h
        rw [List.lookup_cons, e]
        exact h2 h
/-- an instance told as data -/
theorem Shal.insD {v : V} {c : Str} {kvs : List (D × D)} (s : Shal K Hs H v (.dict ((.none, .str c) :: kvs))) (e : Same Hs H) : ∃ a dx fs, v = .ref a ∧ H a = some (.ins (He.ga K c) dx fs) ∧ RepI K Hs fs kvs := by
  rcases s with r | ⟨p, rfl, cn⟩
  · generalize hd : PyData.dict ((PyData.none, PyData.str c) :: kvs) = d at r
    cases r with
    | ins h t r => cases hd; exact ⟨_, _, _, rfl, e _ _ h, r⟩
    | dK _ r =>
      cases r with
      | nil => cases hd
      | @cons k _ _ _ _ _ _ => cases k <;> cases hd
    | dT _ _ => cases hd
    | dN _ _ => cases hd
    | _ => cases hd
  · rcases cn with ⟨ks, a, r⟩ | ⟨ks, es, ee, a, r⟩ | ⟨ys, es, ee, a, r⟩
    · generalize hd : ((PyData.none, PyData.str c) :: kvs) = d at r
      cases r with
      | nil => cases hd
      | @cons k _ _ _ _ _ _ => cases k <;> cases hd
    · cases ee
    · cases ee
end
theorem fldD_eq {c f : Str} {d y : D} (h : fldD c f d = some y) : ∃ kvs, d = .dict ((.none, .str c) :: kvs) ∧ lookI f kvs = some y := by
  unfold fldD at h
  split at h
  · rename_i c' kvs
    by_cases q : c' = c
    · rw [if_pos q] at h; subst q; exact ⟨kvs, rfl, h⟩
    · rw [if_neg q] at h; cases h
  · cases h
section
variable {X : Cx} {B : Bs} {W : WX} {e : Expr} {fe : EF} {c f : Str} {fs : List Str} {pos : Pos}
theorem pd_fld (T : ClsF X.K c fs) (hf : f ∈ fs) (h : PD X B W e fe) (hb : attributeBase e f X.env (eval e X.env) = eval e X.env := by rfl) : PD X B W (.Attribute e f pos) (op1 (fldD c f) fe) :=
  PE.imp (pe_fld h hb) fun σ H Q ⟨Hs, ρ, sl, q⟩ => by
  refine ⟨Hs, ρ, sl, OP.imp (OP.bind q) fun x ρ1 Hs1 H1 _ sl1 e1 q1 v hv => ?_⟩
  cases ex : x.get ρ1 with
  | none => rw [ex] at q1; exact q1.elim
  | some d =>
    rw [ex, Option.bind_some] at q1
    cases ed : fldD c f d with
    | none => rw [ed] at q1; exact q1.elim
    | some y =>
      rw [ed] at q1
      obtain ⟨kvs, rfl, l⟩ := fldD_eq ed
      obtain ⟨a, dx, fs', rfl, ea, r⟩ := (sl1.look hv ex).insD sl1.sub
      obtain ⟨u, l1, ru⟩ := (r.look (f := f)).1 y l
      exact ⟨a, _, dx, fs', u, rfl, ea, T.cl, T.n f hf, l1, q1 Hs1 H1 sl1 (.refl _) u ru⟩
end
end DL
namespace DL
open PySem PySem.Spec PyProof.Rows L2
section
variable {K : Fg} {P : Pin} {B : Bs} {Hs H Hs1 H1 : Hp} {σ : L2.St} {ρ : En} {F : Nat → List Addr}
/-- a place, the feet told -/
theorem Sl.focF {i : Nat} {s : DL.Slot} {d c : D} {path : List Nat} (sl : Sl K B Hs H σ ρ) (fe : FeetOk K B Hs H σ ρ F) (h : ρ[i]? = some s) (ht : s.tree = some d) (hc : getIn d path = some c) :
    ∃ p q fc, Foc K B Hs H σ ρ i s d path c p q (F i) fc ∧ FeetOk K B Hs H σ (ρ.set i .un) (fun j => if i = j then [] else F j) := by
  obtain ⟨p, ep, t, may, mk⟩ := tree_at sl fe h ht
  obtain ⟨q, fc, hv, tq, inF, nd, bk⟩ := Tre.focus path t.1 t.2.2 hc
  have un := fe.reslot (i := i) (s := .un) rfl
  refine ⟨p, q, fc, ⟨ep, hv, tq, nd, inF, fun a m => t.1.there a m, may.1, may.2, sl.reslot (fun _ _ => trivial) rfl, ⟨_, un, fun j a m z => ?_⟩, fun Hs' H' ρ' c' fc' sl' ⟨F', fe', n1, n2⟩ es st t' nd' dj => ?_, fun Hs' H' ρ' sl' ⟨F', fe', n1⟩ es st => ?_⟩, un⟩
  · by_cases e : i = j
    · rw [if_pos e] at z; cases z
    · rw [if_neg e] at z
      exact fe.dis i j e a m z
  · obtain ⟨f', t2, n2', in2⟩ := bk Hs' H' c' fc' es st t' nd' fun a m => (dj a m).imp id (·.1)
    have hpf : p ∈ f' := by
      obtain ⟨a, o, hh, g, e1, _, e2, _⟩ := t2.node
      cases e1
      rw [e2]
      exact List.mem_cons_self
    obtain ⟨ft, ok⟩ := mk Hs' H' (setIn d path c') f' ⟨t2, hpf, n2'⟩ fun a m => by
      rcases in2 a m with z | z
      · exact .inl z.1
      · rcases dj a z with y | y
        · exact .inl (inF a y)
        · exact .inr y.2
    refine (sl'.retell fe' ep ft ok fun j _ a m z => ?_).1
    rcases in2 a m with y | y
    · exact n1 j a y.1 z
    · exact n2 j a y z
  · have t' : TreP K B.pin Hs' H' p d (F i) := t.mono es (fun a m o e => (st a m).1 o e) fun a m _ => (st a m).2
    obtain ⟨ft, ok⟩ := mk Hs' H' d (F i) t' fun a m => .inl m
    rw [Slot.putT_self ht] at ft ok
    exact (sl'.retell fe' ep ft ok fun j _ a m z => n1 j a m z).1
theorem valAt_mono (e : Same H H1) : ∀ {path : List Nat} {v : V} {d : D} {w : V}, valAt H v d path = some w → valAt H1 v d path = some w
  | [], v, d, w, h => by cases v <;> exact h
  | k :: ks, v, d, w, h => by
    cases v <;> first | (cases h; done) | skip
    rename_i b
    unfold valAt at h ⊢
    cases e1 : H b with
    | none => rw [e1] at h; cases h
    | some ob =>
      rw [e1, Option.bind_some] at h
      rw [e _ _ e1, Option.bind_some]
      generalize (vals ob)[k]? = y at h ⊢
      cases y with
      | none => cases h
      | some x =>
        rw [Option.bind_some] at h ⊢
        generalize ((kids d)[k]?).bind unbox = y2 at h ⊢
        cases y2 with
        | none => cases h
        | some c2 => exact valAt_mono e (show valAt H x c2 ks = some w from h)
/-- an own instance -/
theorem Tre.insOf {q : Addr} {c : Str} {kvs : List (D × D)} {f : List Addr} (t : Tre K P Hs H (.ref q) (bx (.dict ((.none, .str c) :: kvs))) f) :
    ∃ dx fs g, H q = some (.ins (He.ga K c) dx fs) ∧ H dx = some (.own q) ∧ Hs q = none ∧ Hs dx = none ∧ f = q :: dx :: g ∧ TreI K P Hs H fs kvs g := by
  generalize e : bx (.dict ((.none, .str c) :: kvs)) = x at t
  cases t with
  | st r => subst e; exact (r.nobx).elim
  | lst h n r => unfold bx at e; cases e
  | dK h n r =>
    unfold bx at e
    injection e with e
    injection e with e _
    injection e with _ e
    injection e with e
    cases r with
    | nil => cases e
    | @cons k _ _ _ _ _ _ _ _ => cases k <;> cases e
  | dT h n r => unfold bx at e; cases e
  | ins h h2 n n2 r => unfold bx at e; cases e; exact ⟨_, _, _, h, h2, n, n2, rfl, r⟩
def putI (f : Str) (z : D) : List (D × D) → List (D × D)
  | [] => [(.str f, z)]
  | (.str k, x) :: r => if k = f then (.str k, z) :: r else (.str k, x) :: putI f z r
  | kv :: r => kv :: r
theorem TreI.put {f : Str} {v : V} {z : D} {fz : List Addr} (tv : Tre K P Hs H v z fz) (nz : fz.Nodup) : ∀ {fs : List (Str × V)} {kvs : List (D × D)} {g : List Addr}, TreI K P Hs H fs kvs g → g.Nodup → (∀ a ∈ fz, a ∉ g) →
    ∃ g', TreI K P Hs H (putF f v fs) (putI f z kvs) g' ∧ g'.Nodup ∧ ∀ a ∈ g', a ∈ g ∨ a ∈ fz
  | _, _, _, .nil, _, _ => ⟨fz ++ [], .cons tv .nil, by rw [List.append_nil]; exact nz, fun a m => .inr (by rwa [List.append_nil] at m)⟩
  | _, _, _, .cons (k := k) (f := fa) (g := ga) a b, nd, dj => by
    obtain ⟨n1, n2, n3⟩ := List.nodup_append.mp nd
    by_cases q : k = f
    · refine ⟨fz ++ ga, ?_, List.nodup_append.mpr ⟨nz, n2, fun x mx y my e => dj x mx (List.mem_append_right _ (by rw [e]; exact my))⟩, fun x m => (List.mem_append.mp m).elim .inr fun m => .inl (List.mem_append_right _ m)⟩
      unfold putF putI
      rw [if_pos q, if_pos q]
      exact .cons tv b
    · obtain ⟨g', t', nd', in'⟩ := b.put tv nz n2 fun x m z => dj x m (List.mem_append_right _ z)
      refine ⟨fa ++ g', ?_, List.nodup_append.mpr ⟨n1, nd', fun x mx y my e => ?_⟩, fun x m => (List.mem_append.mp m).elim (fun m => .inl (List.mem_append_left _ m)) fun m => (in' x m).imp (fun m => List.mem_append_right _ m) id⟩
      · unfold putF putI
        rw [if_neg q, if_neg q]
        exact .cons a t'
      · subst e
        rcases in' x my with z | z
        · exact n3 x mx x z rfl
        · exact dj x z (List.mem_append_left _ mx)
def fldIx (f : Str) : List (D × D) → Option Nat
  | [] => none
  | (.str k, _) :: r => if f = k then some 0 else (fldIx f r).map (· + 1)
  | _ :: _ => none
theorem TreI.ix {f : Str} : ∀ {fs : List (Str × V)} {kvs : List (D × D)} {g : List Addr} {j : Nat}, TreI K P Hs H fs kvs g → fldIx f kvs = some j → ∃ v, fs.lookup f = some v ∧ (fs.map (·.2))[j]? = some v
  | _, _, _, _, .nil, h => by cases h
  | _, _, _, j, .cons (k := k) (v := v) a b, h => by
    unfold fldIx at h
    by_cases q : f = k
    · rw [if_pos q] at h
      cases h
      refine ⟨v, ?_, rfl⟩
      rw [List.lookup_cons, q, beq_self_eq_true]
    · rw [if_neg q] at h
      cases e : fldIx f _ with
      | none => rw [e] at h; cases h
      | some j' =>
        rw [e] at h
        cases h
        obtain ⟨u, h1, h2⟩ := b.ix e
        refine ⟨u, ?_, by simpa using h2⟩
        rw [List.lookup_cons, beq_false_of_ne q]
        exact h1
theorem TreI.len : ∀ {fs : List (Str × V)} {kvs : List (D × D)} {g : List Addr}, TreI K P Hs H fs kvs g → fs.length = kvs.length
  | _, _, _, .nil => rfl
  | _, _, _, .cons _ b => congrArg Nat.succ b.len
end
/-- the place of a field's own object -/
def fldR (i : Nat) (c f : Str) (g : En → Option (List Nat)) : En → Option (List Nat) := fun ρ => (g ρ).bind fun path => ((ρ[i]?).bind Slot.tree).bind fun d => match getIn d path with
  | some (.dict ((.none, .str c') :: kvs)) => if c' = c then (fldIx f kvs).bind fun j => match ((kvs.map (·.2))[j]?).bind unbox with
    | some _ => some (path ++ [j])
    | none => none
    else none
  | _ => none
section
variable {X : Cx} {B : Bs} {W : WX} {a b e o value : Expr} {pos pos' : Pos} {h : En → Option D} {i : Nat} {g : En → Option (List Nat)} {fa : EF} {cf : CF} {c f : Str} {fs : List Str}
theorem prq_fld (T : ClsF X.K c fs) (hf : f ∈ fs) (ha : PRQ X B a i g) (hb : attributeBase a f X.env (eval a X.env) = eval a X.env := by rfl) : PRQ X B (.Attribute a f pos) i (fldR i c f g) :=
  PE.imp (pe_fld ha hb) fun σ H Q ⟨Hs, ρ, s, d, path', p, sl, es, et, ep, eg, q⟩ => by
  unfold fldR at eg
  cases e1 : g ρ with
  | none => rw [e1] at eg; cases eg
  | some path =>
    rw [e1, es, Option.bind_some, Option.bind_some, et, Option.bind_some] at eg
    cases e3 : getIn d path with
    | none => rw [e3] at eg; cases eg
    | some c0 =>
      rw [e3] at eg
      split at eg
      · rename_i c' kvs ec
        cases ec
        by_cases qc : c' = c
        case neg => rw [if_neg qc] at eg; cases eg
        rw [if_pos qc] at eg
        subst qc
        cases e4 : fldIx f kvs with
        | none => rw [e4] at eg; cases eg
        | some j =>
          rw [e4, Option.bind_some] at eg
          cases e5 : ((kvs.map (·.2))[j]?).bind unbox with
          | none => rw [e5] at eg; cases eg
          | some c1 =>
            rw [e5] at eg
            cases eg
            obtain ⟨p', qa, ff, fc, fo⟩ := sl.foc es et e3
            obtain rfl : p' = p := by have := fo.hp; rw [ep] at this; cases this; rfl
            obtain ⟨dx, fs', gg, hq, _, _, _, _, tI⟩ := fo.t.insOf
            obtain ⟨u, l1, l2⟩ := tI.ix e4
            obtain ⟨w1, w2⟩ := valAt_snoc path e3 fo.hv hq (j := j) (w := u) l2 e5
            refine ⟨Hs, ρ, s, d, path, p', sl, es, et, ep, e1, fun v hv => ?_⟩
            rw [fo.hv] at hv
            cases hv
            exact ⟨qa, _, dx, fs', u, rfl, hq, T.cl, T.n f hf, l1, q _ w1⟩
      · cases eg
/-- o.f = e, e data -/
def fldS (i : Nat) (c f : Str) (g : En → Option (List Nat)) (fa : EF) : SF := fun ρ => (fa ρ).then fun x ρ1 => match x, ρ1[i]?, g ρ1 with
  | .st z, some s, some path => (match s.tree with
    | some d => (match getIn d path with
      | some (.dict ((.none, .str c') :: kvs)) => if c' = c ∧ kvs.length < 1000 then .nx (ρ1.set i (s.putT (setIn d path (.dict ((.none, .str c) :: putI f z kvs))))) else .bad
      | _ => .bad)
    | none => .bad)
  | _, _, _ => .bad
theorem psd_fldS (T : ClsF X.K c fs) (hf : f ∈ fs) (ha : PRQ X B o i g) (hv : PD X B W value fa) (hs : swapsWith value (some (.Attribute o f pos')) pos.line X.env = pure false := by rfl) : PSD X B W (.Assign [.Attribute o f pos'] value pos) (fldS i c f g fa) :=
  PS.imp (ps_fld ha hv hs) fun D' σ H ⟨Hs, ρ, sl, q⟩ => by
  refine ⟨Hs, ρ, sl, OP.imp (OP.stm q) fun x ρ1 Hs1 H1 _ sl1 e1 q1 u hu => ?_⟩
  cases x <;> first | exact q1.elim | skip
  rename_i z ez
  clear ez
  cases e0 : ρ1[i]? with
  | none => rw [e0] at q1; exact q1.elim
  | some s =>
    cases e2 : g ρ1 with
    | none => rw [e0, e2] at q1; exact q1.elim
    | some path =>
      rw [e0, e2] at q1
      dsimp only at q1
      cases e3 : s.tree with
      | none => rw [e3] at q1; exact q1.elim
      | some d =>
        rw [e3] at q1
        dsimp only at q1
        cases e4 : getIn d path with
        | none => rw [e4] at q1; exact q1.elim
        | some c0 =>
          rw [e4] at q1
          split at q1
          · rename_i c' kvs ec
            cases ec
            by_cases qc : c' = c ∧ kvs.length < 1000
            case neg => rw [if_neg qc] at q1; exact q1.elim
            rw [if_pos qc] at q1
            obtain ⟨rfl, ql⟩ := qc
            obtain ⟨p, qa, ff, fc, fo⟩ := sl1.foc e0 e3 e4
            obtain ⟨dx, fs', gg, hq, hdx, nq, ndx, ef, tI⟩ := fo.t.insOf
            refine ⟨Hs1, ρ1, s, d, path, p, sl1, e0, e3, fo.hp, e2, fun v hv => ?_⟩
            rw [fo.hv] at hv
            cases hv
            refine ⟨qa, _, dx, fs', rfl, hq, T.cl, T.n f hf, by rw [tI.len]; exact ql, ?_⟩
            have nd := fo.nd
            rw [ef] at nd
            obtain ⟨na, nd2⟩ := List.nodup_cons.mp nd
            obtain ⟨nb, nd3⟩ := List.nodup_cons.mp nd2
            have inF : ∀ b ∈ qa :: dx :: gg, b ∈ ff := fun b m => fo.inF b (by rw [ef]; exact m)
            have tI2 : TreI X.K B.pin Hs1 (L2.upd H1 qa (.ins (He.ga X.K c') dx (putF f u fs'))) fs' kvs gg := tI.mono (.refl _) (fun _ _ z => z) (fun b m o e => by rw [L2.upd_ne (fun z => na (List.mem_cons_of_mem _ (by rw [← z]; exact m)))]; exact e) fun b m n => n
            obtain ⟨g', t', nd', in'⟩ := tI2.put (f := f) (Tre.st hu) (by simp) nd3 (fun b m => by cases m)
            have in2 : ∀ b ∈ g', b ∈ gg := fun b m => (in' b m).elim id fun z => by cases z
            have tN : Tre X.K B.pin Hs1 (L2.upd H1 qa (.ins (He.ga X.K c') dx (putF f u fs'))) (.ref qa) (bx (.dict ((.none, .str c') :: putI f z kvs))) (qa :: dx :: g') :=
              .ins L2.upd_same (by rw [L2.upd_ne (fun z => na (by rw [← z]; exact List.mem_cons_self))]; exact hdx) nq ndx t'
            have ndN : (qa :: dx :: g').Nodup := List.nodup_cons.mpr ⟨fun z => na ((List.mem_cons.mp z).elim (fun z => by rw [z]; exact List.mem_cons_self) fun z => List.mem_cons_of_mem _ (in2 _ z)), List.nodup_cons.mpr ⟨fun z => nb (in2 _ z), nd'⟩⟩
            have sub : ∀ b ∈ qa :: dx :: g', b ∈ fc := fun b m => by
              rw [ef]
              rcases List.mem_cons.mp m with rfl | m
              · exact List.mem_cons_self
              · rcases List.mem_cons.mp m with rfl | m
                · exact List.mem_cons_of_mem _ List.mem_cons_self
                · exact List.mem_cons_of_mem _ (List.mem_cons_of_mem _ (in2 _ m))
            obtain ⟨F1, fe1, nf1⟩ := fo.feet
            have sl2 := fo.write fo.hid ⟨F1, fe1, nf1, fun j a m => nf1 j a (fo.inF a (sub a m))⟩ (.refl _) (fun a m => ⟨fun _ e => e, (fo.th a m).2⟩) (by rw [ef]; exact List.mem_cons_self) tN ndN fun a m => .inl (sub a m)
            rw [List.set_set] at sl2
            exact q1 σ Hs1 _ sl2 (.refl _)
          · exact q1.elim
end
end DL
namespace DL
open PySem PySem.Spec PyProof.Rows L2
/-- o.f = e, e a new object -/
def fldT (i : Nat) (c f : Str) (g : En → Option (List Nat)) (cf : CF) : SF := fun ρ => (cf ρ).then fun y ρ1 => match ρ1[i]?, g ρ1 with
  | some s, some path => (match s.tree with
    | some d => (match getIn d path with
      | some (.dict ((.none, .str c') :: kvs)) => if c' = c ∧ kvs.length < 1000 then .nx (ρ1.set i (s.putT (setIn d path (.dict ((.none, .str c) :: putI f (bx y) kvs))))) else .bad
      | _ => .bad)
    | none => .bad)
  | _, _ => .bad
section
variable {X : Cx} {B : Bs} {W : WX} {a b e o value : Expr} {pos pos' : Pos} {h : En → Option D} {i : Nat} {g : En → Option (List Nat)} {fa : EF} {cf : CF} {c f : Str} {fs : List Str}
theorem psd_fldT (T : ClsF X.K c fs) (hf : f ∈ fs) (ha : PRQ X B o i g) (hv : PT' X B W value cf) (hs : swapsWith value (some (.Attribute o f pos')) pos.line X.env = pure false := by rfl) : PSD X B W (.Assign [.Attribute o f pos'] value pos) (fldT i c f g cf) :=
  PS.imp (ps_fld ha hv hs) fun D' σ H ⟨Hs, ρ, sl, q⟩ => by
  refine ⟨Hs, ρ, sl, OP.imp (OP.stm q) fun z ρ1 Hs1 H1 _ sl1 e1 q1 pz fz tz nwz ⟨F, fe, nF⟩ => ?_⟩
  cases e0 : ρ1[i]? with
  | none => rw [e0] at q1; exact q1.elim
  | some s =>
    cases e2 : g ρ1 with
    | none => rw [e0, e2] at q1; exact q1.elim
    | some path =>
      rw [e0, e2] at q1
      dsimp only at q1
      cases e3 : s.tree with
      | none => rw [e3] at q1; exact q1.elim
      | some d =>
        rw [e3] at q1
        dsimp only at q1
        cases e4 : getIn d path with
        | none => rw [e4] at q1; exact q1.elim
        | some c0 =>
          rw [e4] at q1
          split at q1
          · rename_i c' kvs ec
            cases ec
            by_cases qc : c' = c ∧ kvs.length < 1000
            case neg => rw [if_neg qc] at q1; exact q1.elim
            rw [if_pos qc] at q1
            obtain ⟨rfl, ql⟩ := qc
            obtain ⟨p, qa, fc, fo, fe1⟩ := sl1.focF fe e0 e3 e4
            obtain ⟨dx, fs', gg, hq, hdx, nq, ndx, ef, tI⟩ := fo.t.insOf
            refine ⟨Hs1, ρ1, s, d, path, p, sl1, e0, e3, fo.hp, e2, fun v hv => ?_⟩
            rw [fo.hv] at hv
            cases hv
            refine ⟨qa, _, dx, fs', rfl, hq, T.cl, T.n f hf, by rw [tI.len]; exact ql, ?_⟩
            have nd := fo.nd
            rw [ef] at nd
            obtain ⟨na, nd2⟩ := List.nodup_cons.mp nd
            obtain ⟨nb, nd3⟩ := List.nodup_cons.mp nd2
            have inF : ∀ b ∈ qa :: dx :: gg, b ∈ F i := fun b m => fo.inF b (by rw [ef]; exact m)
            have offz : ∀ b ∈ fz, b ∉ F i := fun b m => nF i b m
            have qaz : qa ∉ fz := fun m => offz _ m (inF _ List.mem_cons_self)
            have off : ∀ b, b ≠ qa → ∀ o u, H1 b = some o → L2.upd H1 qa u b = some o := fun b n o u e => by rw [L2.upd_ne n]; exact e
            have tI2 : TreI X.K B.pin Hs1 (L2.upd H1 qa (.ins (He.ga X.K c') dx (putF f (.ref pz) fs'))) fs' kvs gg := tI.mono (.refl _) (fun _ _ z => z) (fun b m o e => off b (fun z => na (List.mem_cons_of_mem _ (by rw [← z]; exact m))) o _ e) fun b m n => n
            have tz2 : Tre X.K B.pin Hs1 (L2.upd H1 qa (.ins (He.ga X.K c') dx (putF f (.ref pz) fs'))) (.ref pz) (bx z) fz := tz.1.mono (.refl _) (fun _ _ z => z) (fun b m o e => off b (fun z => qaz (by rw [← z]; exact m)) o _ e) fun b m n => n
            obtain ⟨g', t', nd', in'⟩ := tI2.put (f := f) tz2 tz.2.2 nd3 (fun b m z => offz b m (inF b (List.mem_cons_of_mem _ (List.mem_cons_of_mem _ z))))
            have tN : Tre X.K B.pin Hs1 (L2.upd H1 qa (.ins (He.ga X.K c') dx (putF f (.ref pz) fs'))) (.ref qa) (bx (.dict ((.none, .str c') :: putI f (bx z) kvs))) (qa :: dx :: g') :=
              .ins L2.upd_same (off dx (fun z => na (by rw [← z]; exact List.mem_cons_self)) _ _ hdx) nq ndx t'
            have nin : ∀ b, b ∈ [qa, dx] → b ∉ g' := fun b m z => by
              rcases in' b z with y | y
              · rcases List.mem_cons.mp m with rfl | m
                · exact na (List.mem_cons_of_mem _ y)
                · rw [List.mem_singleton] at m; subst m; exact nb y
              · exact offz b y (inF b (by
                  rcases List.mem_cons.mp m with rfl | m
                  · exact List.mem_cons_self
                  · rw [List.mem_singleton] at m; subst m; exact List.mem_cons_of_mem _ List.mem_cons_self))
            have ndN : (qa :: dx :: g').Nodup := List.nodup_cons.mpr ⟨fun z => (List.mem_cons.mp z).elim (fun z => na (by rw [z]; exact List.mem_cons_self)) (nin _ List.mem_cons_self), List.nodup_cons.mpr ⟨nin _ (List.mem_cons_of_mem _ List.mem_cons_self), nd'⟩⟩
            have sub : ∀ b ∈ qa :: dx :: g', b ∈ fc ∨ b ∈ fz := fun b m => by
              rw [ef]
              rcases List.mem_cons.mp m with rfl | m
              · exact .inl List.mem_cons_self
              · rcases List.mem_cons.mp m with rfl | m
                · exact .inl (List.mem_cons_of_mem _ List.mem_cons_self)
                · exact (in' b m).imp (fun m => List.mem_cons_of_mem _ (List.mem_cons_of_mem _ m)) id
            have nf1 : ∀ j, ∀ a ∈ F i, a ∉ (fun j => if i = j then [] else F j) j := fun j a m z => by
              dsimp only at z
              by_cases e : i = j
              · rw [if_pos e] at z; cases z
              · rw [if_neg e] at z
                exact fe.dis i j e a m z
            have nf2 : ∀ j, ∀ a ∈ fz, a ∉ (fun j => if i = j then [] else F j) j := fun j a m z => by
              dsimp only at z
              by_cases e : i = j
              · rw [if_pos e] at z; cases z
              · rw [if_neg e] at z
                exact nF j a m z
            have sl2 := fo.write fo.hid ⟨_, fe1, nf1, fun j a m => (sub a m).elim (fun m => nf1 j a (fo.inF a m)) (nf2 j a)⟩ (.refl _) (fun a m => ⟨fun _ e => e, (fo.th a m).2⟩) (by rw [ef]; exact List.mem_cons_self) tN ndN fun a m => (sub a m).imp id fun m => ⟨offz a m, nwz a m⟩
            rw [List.set_set] at sl2
            exact q1 σ Hs1 _ sl2 (.refl _)
          · exact q1.elim
end
/-- no own objects within -/
def flatT (c : D) : Bool := (kids c).all fun d => (unbox d).isNone
section
variable {K : Fg} {P : Pin} {B : Bs} {Hs H Hs1 H1 : Hp} {σ : L2.St} {ρ ρ1 : En}
theorem Tre.flat {v : V} {d : D} {f : List Addr} (t : Tre K P Hs H v d f) (n : unbox d = none) : f = [] ∧ Rep K Hs v d := by
  cases t with
  | st r => exact ⟨rfl, r⟩
  | lst _ _ _ => cases n
  | dK _ _ _ => cases n
  | dT _ _ _ => cases n
  | ins _ _ _ _ _ => cases n
theorem TreA.flat : ∀ {vs : List V} {ds : List D} {f : List Addr}, TreA K P Hs H vs ds f → (ds.all fun d => (unbox d).isNone) = true → f = [] ∧ RepA K Hs vs ds
  | _, _, _, .nil, _ => ⟨rfl, .nil⟩
  | _, _, _, .cons a b, h => by
    rw [List.all_cons, Bool.and_eq_true] at h
    obtain ⟨rfl, r1⟩ := a.flat (Option.isNone_iff_eq_none.mp h.1)
    obtain ⟨rfl, r2⟩ := b.flat h.2
    exact ⟨rfl, .cons r1 r2⟩
theorem TreK.flat : ∀ {vs : List (Key × V)} {ds : List (D × D)} {f : List Addr}, TreK K P Hs H vs ds f → ((ds.map (·.2)).all fun d => (unbox d).isNone) = true → f = [] ∧ RepK K Hs vs ds
  | _, _, _, .nil, _ => ⟨rfl, .nil⟩
  | _, _, _, .cons a b, h => by
    rw [List.map_cons, List.all_cons, Bool.and_eq_true] at h
    obtain ⟨rfl, r1⟩ := a.flat (Option.isNone_iff_eq_none.mp h.1)
    obtain ⟨rfl, r2⟩ := b.flat h.2
    exact ⟨rfl, .cons r1 r2⟩
theorem TreT.flat : ∀ {vs : List (List Key × V)} {ds : List (D × D)} {f : List Addr}, TreT K P Hs H vs ds f → ((ds.map (·.2)).all fun d => (unbox d).isNone) = true → f = [] ∧ RepT K Hs vs ds
  | _, _, _, .nil, _ => ⟨rfl, .nil⟩
  | _, _, _, .cons a b, h => by
    rw [List.map_cons, List.all_cons, Bool.and_eq_true] at h
    obtain ⟨rfl, r1⟩ := a.flat (Option.isNone_iff_eq_none.mp h.1)
    obtain ⟨rfl, r2⟩ := b.flat h.2
    exact ⟨rfl, .cons r1 r2⟩
/-- a flat list or dict of a tree, as an own one -/
def isInsD : D → Bool
  | .dict ((.none, _) :: _) => true
  | _ => false
theorem Tre.cont {q : Addr} {c : D} {f : List Addr} (t : Tre K P Hs H (.ref q) (bx c) f) (fl : flatT c = true) (ni : isInsD c = false) : f = [q] ∧ Hs q = none ∧ Cont K Hs H q c := by
  unfold flatT at fl
  generalize e : bx c = x at t
  cases t with
  | st r => subst e; exact (r.nobx).elim
  | lst h n r =>
    unfold bx at e; cases e
    obtain ⟨rfl, r2⟩ := r.flat fl
    exact ⟨rfl, n, _, h, r2⟩
  | dK h n r =>
    unfold bx at e; cases e
    rw [r.nokey.1] at fl
    obtain ⟨rfl, r2⟩ := r.flat fl
    exact ⟨rfl, n, .inl ⟨_, h, r2⟩⟩
  | dT h n r =>
    unfold bx at e; cases e
    obtain ⟨rfl, r2⟩ := r.flat fl
    exact ⟨rfl, n, .inr (.inl ⟨_, _, rfl, h, r2⟩)⟩
  | ins h h2 n n2 r => unfold bx at e; cases e; cases ni
/-- the object at a flat place is written -/
theorem Foc.writeC {i : Nat} {s : DL.Slot} {d c c' : D} {path : List Nat} {p q : Addr} {f fc : List Addr} {o : HO} (fo : Foc K B Hs H σ ρ i s d path c p q f fc) (fl : flatT c = true) (ni : isInsD c = false) (cn : Cont K Hs (L2.upd H q o) q c') (nn : isN c' = false) :
    Sl K B Hs (L2.upd H q o) σ (ρ.set i (s.putT (setIn d path c'))) := by
  obtain ⟨ef, nq, _⟩ := fo.t.cont fl ni
  have t := cn.tree (P := B.pin) nn nq
  obtain ⟨F1, fe1, nf1⟩ := fo.feet
  have sl2 := fo.write fo.hid ⟨F1, fe1, nf1, fun j a m => nf1 j a (fo.inF a (by rw [ef]; exact m))⟩ (.refl _) (fun a m => ⟨fun _ e => e, (fo.th a m).2⟩) (by rw [ef]; exact List.mem_singleton_self q) t.1 t.2.2 fun a m => .inl (by rw [ef]; exact m)
  rwa [List.set_set] at sl2
end
/-- recv[k] = e: the key told while all is lent -/
def dputR (i : Nat) (g : En → Option (List Nat)) (fk fv : EF) : SF := fun ρ => (fv ρ).then fun x ρ1 => match x, ρ1[i]?, g ρ1 with
  | .st v, some s, some path => (match s.tree with
    | some d => (match getIn d path with
      | some c => if flatT c = true ∧ isInsD c = false then (match fk (lend ρ1) with
        | .ok (.st k) _ => (match dputD c k v with
          | some c' => if lf k = true ∧ isN c' = false then .nx (ρ1.set i (s.putT (setIn d path c'))) else .bad
          | none => .bad)
        | _ => .bad) else .bad
      | none => .bad)
    | none => .bad)
  | _, _, _ => .bad
section
variable {X : Cx} {B : Bs} {W : WX} {a b e o value : Expr} {pos pos' ps : Pos} {h : En → Option D} {i : Nat} {g : En → Option (List Nat)} {fk fv : EF}
theorem psd_dputR (hu : X.A.units + 64 < cLine) (ho : PRQ X B a i g) (hk : ∀ B', PD X B' W b fk) (hv : PD X B W value fv) (hs : swapsWith value (some (.Subscript a b ps)) pos.line X.env = pure false := by rfl) :
    PSD X B W (.Assign [.Subscript a b ps] value pos) (dputR i g fk fv) := PS.imp (ps_dput (by omega) ho (pdA hk) hv hs) fun D' σ H ⟨Hs, ρ, sl, q⟩ => by
  refine ⟨Hs, ρ, sl, OP.imp (OP.stm q) fun x ρ1 Hs1 H1 _ sl1 e1 q1 u hu => ?_⟩
  cases x <;> first | exact q1.elim | skip
  rename_i v ex0
  clear ex0
  cases e0 : ρ1[i]? with
  | none => rw [e0] at q1; exact q1.elim
  | some s =>
    cases e2 : g ρ1 with
    | none => rw [e0, e2] at q1; exact q1.elim
    | some path =>
      rw [e0, e2] at q1
      dsimp only at q1
      cases e3 : s.tree with
      | none => rw [e3] at q1; exact q1.elim
      | some d =>
        rw [e3] at q1
        dsimp only at q1
        cases e4 : getIn d path with
        | none => rw [e4] at q1; exact q1.elim
        | some c =>
          rw [e4] at q1
          dsimp only at q1
          by_cases fl : flatT c = true ∧ isInsD c = false
          case neg => rw [if_neg fl] at q1; exact q1.elim
          rw [if_pos fl] at q1
          obtain ⟨p, qa, ff, fc, fo⟩ := sl1.foc e0 e3 e4
          refine ⟨Hs1, ρ1, s, d, path, p, sl1, e0, e3, fo.hp, e2, fun w hw => ?_⟩
          rw [fo.hv] at hw
          cases hw
          refine ⟨lB H1, H1, lend ρ1, sl1.lend, ?_⟩
          cases ek : fk (lend ρ1) with
          | bad => rw [ek] at q1; exact q1.elim
          | er z r => rw [ek] at q1; exact q1.elim
          | ok y r =>
            rw [ek] at q1
            cases y <;> first | exact q1.elim | skip
            rename_i k
            dsimp only at q1
            cases ed : dputD c k v with
            | none => rw [ed] at q1; exact q1.elim
            | some c' =>
              rw [ed] at q1
              dsimp only at q1
              by_cases nn : lf k = true ∧ isN c' = false
              case neg => rw [if_neg nn] at q1; exact q1.elim
              rw [if_pos nn] at q1
              obtain ⟨lk, nn⟩ := nn
              intro Hs2 H2 si es w hw
              have gr := growL sl1.sub si.lent
              have sl2 := sl1.grow gr
              obtain ⟨p2, q2, ff2, fc2, fo2⟩ := sl2.foc e0 e3 e4
              obtain rfl : p2 = p := by have := fo2.hp; rw [fo.hp] at this; cases this; rfl
              obtain rfl : q2 = qa := by
                have h1 := valAt_mono si.lent.h fo.hv
                rw [fo2.hv] at h1
                cases h1
                rfl
              obtain ⟨ef, nq, cn⟩ := fo2.t.cont fl.1 fl.2
              have hw2 : Shal X.K (both Hs1 (tups Hs2)) H2 w k := .inl (Rep.lfm (tupL sl1.sub si.lent) (show Rep X.K Hs2 w k from hw) lk)
              obtain ⟨o, gg, cn'⟩ := put_at sl2.sub nq cn hw2 (Rep.mono gr.s hu) ed
              exact ⟨q2, _, rfl, gg, q1 σ _ _ (fo2.writeC fl.1 fl.2 cn' nn) gr.s⟩
end
end DL
namespace DL
open PySem PySem.Spec PyProof.Rows L2
/-- behind a method that has changed its own tree at p -/
structure AftT (K : Fg) (P : Pin) (Hs H Hs' H' : Hp) (p : Addr) (c : D) (f f' : List Addr) : Prop where
  s : Same Hs Hs'
  sub : Same Hs' H'
  new : ∀ a, Hs' a = none ∨ Hs a ≠ none ∨ (H a = none ∨ TupAt H' a)
  keep : ∀ a o, H a = some o → a ∉ f → H' a = some o
  there : ∀ a ∈ f, ∃ o, H' a = some o
  t : TreP K P Hs' H' p c f'
  ff : ∀ a ∈ f', a ∈ f ∨ H a = none
def spT (K : Fg) (mg : MG) (m : List Md) (F : D → List D → R) : Sp := fun vs H Q E => ∃ P Hs p c f vs' ds, vs = .ref p :: vs' ∧ Same Hs H ∧ TreP K P Hs H p c f ∧ ArgsOk K Hs m vs' ds ∧ match F c ds with
  | .ok d fr c' => ∀ r Hs' H' f', AftT K P Hs H Hs' H' p c' f f' → RetOk K Hs' H' (fun p => H p = none) fr r d → Q r H'
  | .er e c' => ∀ cls od Hs' H' f', AftT K P Hs H Hs' H' p c' f f' → ErOk K mg e cls od Hs' H' → E cls od H'
  | .bad => False
def out0T (ρ : En) (k : D → R) : R := match ρ with
  | .atr c :: _ => k c
  | _ => .bad
def runT (m : List Md) (n : Nat) (body : SF) (c : D) (ds : List D) : R := match body (.atr c :: slots0 m ds ++ List.replicate (n - (m.length + 1)) .un) with
  | .nx ρ => out0T ρ fun c' => .ok .none false c'
  | .rt d fr ρ => out0T ρ fun c' => .ok d fr c'
  | .er e ρ => out0T ρ fun c' => .er e c'
  | _ => .bad
theorem spT.imp {K : Fg} {mg : MG} {m : List Md} {F F' : D → List D → R} (h : ∀ c ds, F' c ds ≠ .bad → F c ds = F' c ds) : ∀ vs H Q E, spT K mg m F' vs H Q E → spT K mg m F vs H Q E := fun vs H Q E ⟨P, Hs, p, c, f, vs', ds, e0, s, t, a, q⟩ => by
  refine ⟨P, Hs, p, c, f, vs', ds, e0, s, t, a, ?_⟩
  rw [h c ds (fun e => by rw [e] at q; exact q)]
  exact q
section
variable {P : Program} {w : World} {K : Fg} {mg : MG} {base : Heap}
def bT (Hs H : Hp) (f : List Addr) (p : Addr) (P : Pin) : Bs := ⟨Hs, H, fun a => a ∈ f, fun _ => False, fun a => a = p, P⟩
theorem sl_startT {Q : Pin} {Hs H : Hp} {m : List Md} {vs : List V} {ds : List D} {N : List Str} {p : Addr} {c : D} {f : List Addr} (s : Same Hs H) (t : TreP K Q Hs H p c f) (a : ArgsOk K Hs m vs ds) (hn : m.length + 1 ≤ N.length) :
    Sl K (bT Hs H f p Q) Hs H (start N (.ref p :: vs)) (.atr c :: slots0 m ds ++ List.replicate (N.length - (m.length + 1)) .un) := by
  obtain ⟨l1, l2⟩ := a.len
  have l3 := slots0_len l2
  have own : ∀ a ∈ f, (bT Hs H f p Q).nw a ∨ (bT Hs H f p Q).own0 a := fun a m => .inr m
  have key : ∀ (i : Nat) (x : Option V) (u : DL.Slot), (start N (.ref p :: vs))[i]? = some x → (.atr c :: slots0 m ds ++ List.replicate (N.length - (m.length + 1)) Slot.un)[i]? = some u → SlotOk K (bT Hs H f p Q) Hs H x u ∧ (u.mut = true → i = 0) := fun i x u a1 b1 => by
    unfold L2.start at a1
    cases i with
    | zero =>
      simp at a1 b1
      subst a1 b1
      exact ⟨⟨p, f, rfl, t, rfl, own⟩, fun _ => rfl⟩
    | succ i =>
      rw [List.map_cons, List.cons_append, List.getElem?_cons_succ] at a1
      rw [List.cons_append, List.getElem?_cons_succ] at b1
      rcases app_get b1 with ⟨h, b2⟩ | ⟨h, b2⟩
      · rcases app_get a1 with ⟨h', a2⟩ | ⟨h', a2⟩
        · have := slots0_ok (B := bT Hs H f p Q) (H := H) a i x u a2 b2
          exact ⟨this.1, fun z => by rw [this.2] at z; cases z⟩
        · rw [List.length_map] at h'
          omega
      · rw [List.getElem?_replicate] at b2
        split at b2
        · cases b2; exact ⟨trivial, fun z => by cases z⟩
        · cases b2
  refine ⟨?_, fun i x t a1 b1 => (key i x t a1 b1).1, s, .refl _, fun b => ?_, fun b o e _ _ => e, fun b z => ?_, fun i => if i = 0 then f else [], fun i x s a b => ?_, fun i a => ?_, fun i j hij a m m2 => ?_⟩
  · unfold L2.start
    simp
    omega
  · cases e : Hs b with
    | none => exact .inl rfl
    | some o => exact .inr (.inl (by show Hs b ≠ none; rw [e]; simp))
  · rcases z with z | z
    · exact (t.1.there b z).1.some
    · exact z.elim
  · by_cases e : i = 0
    · subst e
      rw [if_pos rfl]
      unfold L2.start at a
      simp at a b
      subst a b
      exact ⟨p, rfl, t, rfl, own⟩
    · rw [if_neg e]
      have := (key i _ s a b).2
      cases s <;> first | rfl | exact absurd (this rfl) e
  · by_cases e : i = 0
    · subst e
      cases a
    · exact if_neg e
  · by_cases e : i = 0
    · by_cases e2 : j = 0
      · omega
      · rw [if_neg e2] at m2; cases m2
    · rw [if_neg e] at m; cases m
theorem Sl.aftT {Q : Pin} {Hs H Hs' H' : Hp} {σ : L2.St} {r : En} {p : Addr} {c : D} {f : List Addr} (sl : Sl K (bT Hs H f p Q) Hs' H' σ (.atr c :: r)) : ∃ f', AftT K Q Hs H Hs' H' p c f f' := by
  obtain ⟨x, ex⟩ := sl_var (i := 0) (s := .atr c) sl rfl
  obtain ⟨q, f', e1, t, rt, w⟩ := sl.ok 0 _ _ ex rfl
  have rt : q = p := rt
  subst rt
  refine ⟨f', sl.base, sl.sub, fun a => (sl.new a).imp id (fun z => z.imp id fun z => z.elim (fun z => .inl (nw_false z)) .inr), fun a o e ne => sl.keep a o e ne (fun z => z), fun a m => sl.there a (.inl m), t, fun a m => ?_⟩
  rcases w a m with z | z
  · exact .inr (nw_false z)
  · exact .inl z
/-- THE RULE for a method: its body as a term of rules -/
theorem defT {x qual : Str} {st : Stmt} {dvs : List V} {kws : List (Str × V)} {f : Addr} {fd : FuncData} {N ps : List Str} {k : Nat} {body : SF} (F : FunD K x qual (defArgs st) (defBody st) (defScope st) dvs kws f fd) (S : FnScope N ps (defScope st)) (m : List Md) (hm : m.length + 1 = ps.length)
    (der : ∀ (cdv : Value) (A : Around) (outer : List Env) (s : Shared) (H : Hp) (E : XK) (B : Bs) (W : WX), Room k (A.deeper (envOfC qual (defScope st) s.heap.objs.size f cdv)) → L2N.Takes (cxOf (L2N.CX P w) P w K mg base N qual (defScope st) f cdv A outer s H E) W →
      PSsD (cxOf (L2N.CX P w) P w K mg base N qual (defScope st) f cdv A outer s H E) B W (defBody st) body) : FnOk P w K mg base (L2N.CX P w) (k + 1) f fd ps (spT K mg m (runT m N.length body)) := by
  have hn : m.length + 1 ≤ N.length := by
    have h := congrArg List.length S.pre
    rw [List.length_take] at h
    omega
  refine F.ok S (fun vs H Q E h => ?_) (fun cdv A outer s H vs Q E hr h => ?_)
  · obtain ⟨_, Hs, p, c, _, vs', ds, rfl, _, _, a, _⟩ := h
    rw [List.length_cons, a.len.1, hm]
  · obtain ⟨Pn, Hs, p, c, ff, vs', ds, rfl, sm, t, a, q⟩ := h
    refine ⟨_, der cdv A outer s H E (bT Hs H ff p Pn) (fun cls d _ H' => E cls d H') hr (L2N.takes_of rfl rfl rfl rfl), Hs, _, sl_startT sm t a hn, ?_⟩
    unfold runT at q
    show SQ K mg _ _ _ _ _
    have split : ∀ {r : En} {kk : D → R}, out0T r kk = .bad ∨ ∃ c' r', r = .atr c' :: r' := fun {r kk} => by
      cases r with
      | nil => exact .inl rfl
      | cons s r' => cases s <;> first | exact .inl rfl | exact .inr ⟨_, _, rfl⟩
    cases e : body (.atr c :: slots0 m ds ++ List.replicate (N.length - (m.length + 1)) .un) with
    | nx r =>
      rw [e] at q
      dsimp only at q
      rcases (split (r := r) (kk := fun c' => R.ok .none false c')) with z | ⟨c', r', rfl⟩
      · rw [z] at q; exact q.elim
      · intro σ' Hs' H' sl _
        obtain ⟨f', af⟩ := sl.aftT
        exact q _ _ _ f' af .non
    | rt d fr r =>
      rw [e] at q
      dsimp only at q
      rcases (split (r := r) (kk := fun c' => R.ok d fr c')) with z | ⟨c', r', rfl⟩
      · rw [z] at q; exact q.elim
      · intro σ' Hs' H' v sl _ ro
        obtain ⟨f', af⟩ := sl.aftT
        exact q _ _ _ f' af ro.fin
    | er z r =>
      rw [e] at q
      dsimp only at q
      rcases (split (r := r) (kk := fun c' => R.er z c')) with y | ⟨c', r', rfl⟩
      · rw [y] at q; exact q.elim
      · intro cls od σ' Hs' H' sl _ eo
        obtain ⟨f', af⟩ := sl.aftT
        exact q cls od Hs' H' f' af eo
    | bk r => rw [e] at q; exact q.elim
    | ct r => rw [e] at q; exact q.elim
    | bad => rw [e] at q; exact q.elim
end
/-- a method as it stands: its function, its promise -/
structure MethOk (P : Program) (w : World) (K : Fg) (mg : MG) (base : Heap) (k : Nat) (c m : Str) (f : Addr) (ps : List Str) (tails : List (List D)) (sp : Sp) : Prop where
  ex : ∃ fd, Meth K (He.ga K c) m f ∧ FnOk P w K mg base (L2N.CX P w) k f fd ps sp ∧ ∀ dd ∈ tails, ∃ (dvs : List V) (ds : List Value), Vals dvs ds ∧ (∀ H, RepA K H dvs dd) ∧ Binds K fd ps ds
/-- a class whose __init__ is f -/
structure MakeOk (P : Program) (w : World) (K : Fg) (mg : MG) (base : Heap) (k : Nat) (c : Str) (f : Addr) (ps : List Str) (tails : List (List D)) (sp : Sp) : Prop where
  ex : ∃ fd, mg c = some (.ref (He.ga K c)) ∧ Mk K (He.ga K c) f ∧ FnOk P w K mg base (L2N.CX P w) k f fd ps sp ∧ ∀ dd ∈ tails, ∃ (dvs : List V) (ds : List Value), Vals dvs ds ∧ (∀ H, RepA K H dvs dd) ∧ Binds K fd ps ds
/-- what stands at the top of a method -/
structure MethK (K : Fg) (c m qual : Str) (f : Addr) (st : Stmt) (ps : List Str) (tails : List (List D)) : Prop where
  ex : ∃ fd dvs kws, FunD K m qual (defArgs st) (defBody st) (defScope st) dvs kws f fd ∧ Meth K (He.ga K c) m f ∧
    ∀ dd ∈ tails, ∃ (dvs : List V) (ds : List Value), Vals dvs ds ∧ (∀ H, RepA K H dvs dd) ∧ Binds K fd ps ds
structure MakeK (K : Fg) (mg : MG) (c qual : Str) (f : Addr) (st : Stmt) (ps : List Str) (tails : List (List D)) : Prop where
  ex : ∃ fd dvs kws, FunD K "__init__" qual (defArgs st) (defBody st) (defScope st) dvs kws f fd ∧ mg c = some (.ref (He.ga K c)) ∧ Mk K (He.ga K c) f ∧
    ∀ dd ∈ tails, ∃ (dvs : List V) (ds : List Value), Vals dvs ds ∧ (∀ H, RepA K H dvs dd) ∧ Binds K fd ps ds
section
variable {P : Program} {w : World} {K : Fg} {mg : MG} {base : Heap} {c x qual : Str} {f : Addr} {st : Stmt} {ps N : List Str} {tails : List (List D)} {k : Nat} {body : SF} {m : List Md}
theorem MethK.of (G : MethK K c x qual f st ps tails) (S : FnScope N ps (defScope st)) (hm : m.length = ps.length)
    (der : ∀ (cdv : Value) (A : Around) (outer : List Env) (s : Shared) (H : Hp) (E : XK) (B : Bs) (W : WX), Room k (A.deeper (envOfC qual (defScope st) s.heap.objs.size f cdv)) → L2N.Takes (cxOf (L2N.CX P w) P w K mg base N qual (defScope st) f cdv A outer s H E) W →
      PSsD (cxOf (L2N.CX P w) P w K mg base N qual (defScope st) f cdv A outer s H E) B W (defBody st) body) : MethOk P w K mg base (k + 1) c x f ps tails (spD K mg m (runD m N.length body)) := by
  obtain ⟨fd, dvs, kws, F, g, b⟩ := G.ex
  exact ⟨fd, g, defD F S m hm der, b⟩
theorem MethK.ofT (G : MethK K c x qual f st ps tails) (S : FnScope N ps (defScope st)) (hm : m.length + 1 = ps.length)
    (der : ∀ (cdv : Value) (A : Around) (outer : List Env) (s : Shared) (H : Hp) (E : XK) (B : Bs) (W : WX), Room k (A.deeper (envOfC qual (defScope st) s.heap.objs.size f cdv)) → L2N.Takes (cxOf (L2N.CX P w) P w K mg base N qual (defScope st) f cdv A outer s H E) W →
      PSsD (cxOf (L2N.CX P w) P w K mg base N qual (defScope st) f cdv A outer s H E) B W (defBody st) body) : MethOk P w K mg base (k + 1) c x f ps tails (spT K mg m (runT m N.length body)) := by
  obtain ⟨fd, dvs, kws, F, g, b⟩ := G.ex
  exact ⟨fd, g, defT F S m hm der, b⟩
theorem MakeK.of (G : MakeK K mg c qual f st ps tails) (S : FnScope N ps (defScope st)) (hm : m.length + 1 = ps.length)
    (der : ∀ (cdv : Value) (A : Around) (outer : List Env) (s : Shared) (H : Hp) (E : XK) (B : Bs) (W : WX), Room k (A.deeper (envOfC qual (defScope st) s.heap.objs.size f cdv)) → L2N.Takes (cxOf (L2N.CX P w) P w K mg base N qual (defScope st) f cdv A outer s H E) W →
      PSsD (cxOf (L2N.CX P w) P w K mg base N qual (defScope st) f cdv A outer s H E) B W (defBody st) body) : MakeOk P w K mg base (k + 1) c f ps tails (spT K mg m (runT m N.length body)) := by
  obtain ⟨fd, dvs, kws, F, g, mk, b⟩ := G.ex
  exact ⟨fd, g, mk, defT F S m hm der, b⟩
end
end DL
namespace L2
open PySem PySem.Spec PyProof.Rows
section
variable {X : Cx} {CX : CXT} {k : Nat} {f C : Addr} {fd : FuncData} {ps : List Str} {sp : Sp} {dvs : List V} {ds : List Value} {E : L2.St → XK} {x m : Str} {p pos apos : Pos} {e o : Expr} {es : List Expr} {ta : TE} {t : TA}
def tMethSD (C : Addr) (m : Str) (sp : Sp) (dvs : List V) (E : L2.St → XK) (ta : TE) (t : TA) : TE := fun σ H Q => ta σ H fun x H1 => ∃ a dx fs, x = .ref a ∧ H1 a = some (.ins C dx fs) ∧ fs.lookup m = none ∧
  t σ H1 fun vs H2 => sp (x :: (vs ++ dvs)) H2 Q (E σ)
theorem pe_methSD {pl : Sem Bool} (he : PE X o ta) (c : Cls X.K C) (hm : Meth X.K C m f) (F : FnOk X.prog X.w X.K X.mg X.base CX k f fd ps sp) (hr : Room k X.A) (hb : Binds X.K fd ps ds) (hd : Vals dvs ds) (hx : ∀ σ, PassesAt CX X σ (E σ)) (ha : PA X (e :: es) t)
    (hst : starEach (e :: es) X.env = (false, eval e X.env) :: starEach es X.env := by rfl) (hpl : (backTo pos (starEach es X.env)).any (·.1) = false := by rfl)
    (ht : eval (.Call (.Attribute o m apos) (e :: es) [] pos) X.env = (do
      let ov ← eval o X.env
      standAt apos.atName
      let (f, first) ← holding [ov] (getMethod ov m pl)
      callWith pos f first (backTo pos (starEach (e :: es) X.env)) (backToKw pos (keywordEach [] X.env))) := by rfl) :
    PE X (.Call (.Attribute o m apos) (e :: es) [] pos) (tMethSD C m sp dvs E ta t) := by
  refine ⟨fun pins s σ H Q I h => ?_⟩
  refine PySem.W.methodCall_KW (pl := pl) (thn (he.run pins s σ H _ I h) fun u s1 ⟨x, H1, I1, rx, a, dx, fs, ex, ea, l, q⟩ => ?_) ht
  subst ex
  obtain rfl : u = Value.ref a := rx
  refine getmeth_ok I1 ea c hm l ?_
  refine PySem.W.callWith_K (first := [.ref a]) (h₀ := X.base) I.ok.mod.kin hm.kp (thn (ha.run pos pins s1 σ H1 _ I1 q) fun us s2 ⟨vs, H2, I2, r, q2⟩ => ⟨I2.kIn, ?_⟩) hst hpl
  exact run_fnSD (us := .ref a :: us) (vs := .ref a :: vs) F hr hb hd (hx σ) I2 (.cons rfl r) q2
theorem pe_meth0SD {pl : Sem Bool} (he : PE X o ta) (c : Cls X.K C) (hm : Meth X.K C m f) (F : FnOk X.prog X.w X.K X.mg X.base CX k f fd ps sp) (hr : Room k X.A) (hb : Binds X.K fd ps ds) (hd : Vals dvs ds) (hx : ∀ σ, PassesAt CX X σ (E σ))
    (ht : eval (.Call (.Attribute o m apos) [] [] pos) X.env = (do
      let ov ← eval o X.env
      standAt apos.atName
      let (f, first) ← holding [ov] (getMethod ov m pl)
      callWith pos f first (backTo pos (starEach [] X.env)) (backToKw pos (keywordEach [] X.env))) := by rfl) :
    PE X (.Call (.Attribute o m apos) [] [] pos) (tMethSD C m sp dvs E ta tNil) := by
  refine ⟨fun pins s σ H Q I h => ?_⟩
  refine PySem.W.methodCall_KW (pl := pl) (thn (he.run pins s σ H _ I h) fun u s1 ⟨x, H1, I1, rx, a, dx, fs, ex, ea, l, q⟩ => ?_) ht
  subst ex
  obtain rfl : u = Value.ref a := rx
  refine getmeth_ok I1 ea c hm l ?_
  exact PySem.W.callWith_K0 (first := [.ref a]) I1.kIn hm.kp (run_fnSD (us := [.ref a]) (vs := [.ref a]) F hr hb hd (hx σ) I1 (.cons rfl .nil) q)
def tMakeSD (C : Addr) (sp : Sp) (dvs : List V) (E : L2.St → XK) (t : TA) : TE := fun σ H Q => t σ H fun vs H1 => ∀ x dx, H1 x = none → H1 dx = none → dx ≠ x →
  sp (.ref x :: (vs ++ dvs)) (upd (upd H1 dx (.own x)) x (.ins C dx [])) (fun v H2 => v = .non ∧ Q (.ref x) H2) (E σ)
theorem run_makeSD {pins : List (Addr × Obj)} {σ : L2.St} {H : Hp} {s : Shared} {Q : VK} {us : List Value} {vs : List V} (M : Mk X.K C f) (F : FnOk X.prog X.w X.K X.mg X.base CX k f fd ps sp) (hr : Room (k + 1) X.A) (hb : Binds X.K fd ps ds) (hd : Vals dvs ds)
    (hx : PassesAt CX X σ (E σ)) (I : Inv X pins σ H s) (r : Vals vs us)
    (h : ∀ x dx, H x = none → H dx = none → dx ≠ x → sp (.ref x :: (vs ++ dvs)) (upd (upd H dx (.own x)) x (.ins C dx [])) (fun v H2 => v = .non ∧ Q (.ref x) H2) (E σ)) :
    wpAny (model X.prog X.w) X.A (call (.ref C) us) (EP X pins σ Q) X.xe s := by
  have hq := h (s.heap.objs.size + 1) s.heap.objs.size (I.hok.fresh (Nat.le_succ _)) (I.hok.fresh (Nat.le_refl _)) (Nat.ne_of_lt (Nat.lt_succ_self _))
  have I2 := Inv.made (C := C) I
  have r2 : Vals (V.ref (s.heap.objs.size + 1) :: (vs ++ dvs)) (Value.ref (s.heap.objs.size + 1) :: (us ++ ds)) := .cons rfl (r.append hd)
  have hl : (Value.ref (s.heap.objs.size + 1) :: us ++ ds).length = ps.length := by
    have e := r2.length
    rw [F.len _ _ _ _ hq] at e
    exact e.symm
  refine wpAny_call (make_map (f := f) I.kIn M.makes M.init (beq_iff_eq.mp M.fn) (codeAny_mono (F.run _ X.stack _ _ ⟨Value.ref (s.heap.objs.size + 1) :: us, []⟩ (Value.ref (s.heap.objs.size + 1) :: (us ++ ds)) _ _ (E σ) (hr.make C us [])
    (I2.env0.make C us []) (hb _ (Value.ref (s.heap.objs.size + 1) :: us) I2.kIn hl) r2 hq) fun r s' hq' => ?_))
  cases r with
  | error e => exact hx pins _ _ e s' I2 hq'
  | ok fl =>
    cases fl with
    | ret u =>
      obtain ⟨v, H', I3, rv, ev, q3⟩ := I2.after hq'
      subst ev
      exact ⟨rv, ⟨V.ref (s.heap.objs.size + 1), H', I3, rfl, q3⟩⟩
    | next => exact False.elim hq'
    | brk => exact False.elim hq'
    | cont => exact False.elim hq'
theorem pe_makeSD (M : Mk X.K C f) (F : FnOk X.prog X.w X.K X.mg X.base CX k f fd ps sp) (hr : Room (k + 1) X.A) (hg : Gl X x) (hm : X.mg x = some (.ref C)) (hb : Binds X.K fd ps ds) (hd : Vals dvs ds) (hx : ∀ σ, PassesAt CX X σ (E σ))
    (ha : PA X (e :: es) t) (hdb : (x == ("__debug__" : Str)) = false := by decide) (he : starEach (e :: es) X.env = (false, eval e X.env) :: starEach es X.env := by rfl) (hpl : (backTo pos (starEach es X.env)).any (·.1) = false := by rfl) :
    PE X (.Call (.Name x p) (e :: es) [] pos) (tMakeSD C sp dvs E t) := by
  refine ⟨fun pins s σ H Q I h => ?_⟩
  refine wpAny_Call_Name_kw (ld_glob I hg hm ?_ hdb)
  refine PySem.W.callWith_K (h₀ := X.base) I.ok.mod.kin M.kp (thn (ha.run pos pins s σ H _ I h) fun us s1 ⟨vs, H1, I1, r, q⟩ => ⟨I1.kIn, ?_⟩) he hpl
  exact run_makeSD M F hr hb hd (hx σ) I1 r q
end
end L2
namespace DL
open PySem PySem.Spec PyProof.Rows L2
section
variable {K : Fg} {P : Pin} {B : Bs} {Hs H Hs' H' : Hp} {σ : L2.St} {ρ : En} {F : Nat → List Addr}
theorem TreI.no {f : Str} : ∀ {fs : List (Str × V)} {kvs : List (D × D)} {g : List Addr}, TreI K P Hs H fs kvs g → fldIx f kvs = none → fs.lookup f = none
  | _, _, _, .nil, _ => rfl
  | _, _, _, .cons (k := k) a b, h => by
    unfold fldIx at h
    by_cases q : f = k
    · rw [if_pos q] at h; cases h
    · rw [if_neg q] at h
      rw [List.lookup_cons, beq_false_of_ne q]
      exact b.no (Option.map_eq_none_iff.mp h)
/-- behind a method of the i-th slot's tree -/
theorem Sl.afterT {i : Nat} {s : DL.Slot} {d d' : D} {p : Addr} {f' : List Addr} (sl : Sl K B Hs H σ ρ) (fe : FeetOk K B Hs H σ ρ F) (h : ρ[i]? = some s) (ht : s.tree = some d) (hp : σ[i]? = some (some (.ref p))) (af : AftT K B.pin Hs H Hs' H' p d' (F i) f') :
    Sl K B Hs' H' σ (ρ.set i (s.putT d')) := by
  obtain ⟨p2, ep, t, may, mk⟩ := tree_at sl fe h ht
  obtain rfl : p2 = p := by rw [ep] at hp; cases hp; rfl
  have stay : ∀ j, i ≠ j → ∀ a ∈ F j, ∀ o, H a = some o → H' a = some o := fun j ij a m o e => af.keep a o e fun z => fe.dis i j ij a z m
  have un := fe.reslot (i := i) (s := .un) rfl
  have hid := sl.reslot (i := i) (s := .un) (fun _ _ => trivial) rfl
  have hF : ∀ j a, a ∈ (fun j => if i = j then [] else F j) j → i ≠ j ∧ a ∈ F j := fun j a m => by
    dsimp only at m
    by_cases e : i = j
    · rw [if_pos e] at m; cases m
    · rw [if_neg e] at m; exact ⟨e, m⟩
  have own : ∀ j (x : Option V) (u : DL.Slot), σ[j]? = some x → (ρ.set i .un)[j]? = some u → ∀ a ∈ (fun j => if i = j then [] else F j) j, (∀ o, H a = some o → H' a = some o) ∧ (Hs a = none → Hs' a = none) := fun j x u a1 b1 a m => by
    obtain ⟨ij, mF⟩ := hF j a m
    obtain ⟨⟨o, e, nt⟩, n⟩ := (un.at_ j x u a1 b1).there (hid.ok j x u a1 b1) a m
    refine ⟨fun o e => stay j ij a mF o e, fun n => ?_⟩
    rcases af.new a with z | z | z | ⟨xs, z⟩
    · exact z
    · exact absurd n z
    · rw [e] at z; cases z
    · rw [stay j ij a mF o e] at z
      cases z
      exact absurd rfl (nt xs)
  have sl0 : Sl K B Hs' H' σ (ρ.set i .un) := by
    refine ⟨hid.len, fun j x u a b => (hid.ok j x u a b).stays (un.at_ j x u a b) af.s (fun c m o e => (own j x u a b c m).1 o e) fun c m n => (own j x u a b c m).2 n, af.sub, sl.base.trans af.s, fun a => ?_, fun a o e w w1 => ?_, fun a w => ?_, _, fun j x u a b => (un.at_ j x u a b).mono af.s (fun c m o e => (own j x u a b c m).1 o e) fun c m n => (own j x u a b c m).2 n, un.out, un.dis⟩
    · rcases af.new a with z | z | z | z
      · exact .inl z
      · rcases sl.new a with y | y | y | ⟨xs, y⟩
        · exact absurd y z
        · exact .inr (.inl y)
        · exact .inr (.inr (.inl y))
        · refine .inr (.inr (.inr ⟨xs, af.keep a _ y fun m => ?_⟩))
          exact (t.1.there a m).1.notup ⟨xs, y⟩
      · exact .inr (.inr (.inl (sl.nw_of z)))
      · exact .inr (.inr (.inr z))
    · refine af.keep a o (sl.keep a o e w w1) fun m => ?_
      rcases may.1 a m with (z | z) | z
      · rw [e] at z; cases z
      · exact w1 z
      · exact w z
    · obtain ⟨o, e⟩ := sl.there a w
      by_cases m : a ∈ F i
      · exact af.there a m
      · exact ⟨o, af.keep a o e m⟩
  have fe0 : FeetOk K B Hs' H' σ (ρ.set i .un) (fun j => if i = j then [] else F j) := ⟨fun j x u a b => (un.at_ j x u a b).mono af.s (fun c m o e => (own j x u a b c m).1 o e) fun c m n => (own j x u a b c m).2 n, un.out, un.dis⟩
  obtain ⟨ft, ok⟩ := mk Hs' H' d' f' af.t fun a m => (af.ff a m).imp id sl.nw_of
  have r := (sl0.retell fe0 ep ft ok fun j ij a m z => by
    obtain ⟨_, mF⟩ := hF j a z
    rcases af.ff a m with y | y
    · exact fe.dis i j ij a y mF
    · cases ej : ρ[j]? with
      | none => rw [fe.out j ej] at mF; cases mF
      | some u =>
        obtain ⟨x, ex⟩ := sl_var sl ej
        obtain ⟨⟨o, e, _⟩, _⟩ := (fe.at_ j x u ex ej).there (sl.ok j x u ex ej) a mF
        rw [y] at e; cases e).1
  rwa [List.set_set] at r
end
section
variable {X : Cx} {B : Bs} {W : WX} {k i : Nat} {f : Addr} {fd : FuncData} {ps : List Str} {md : List Md} {tails : List (List D)} {FT : D → List D → R} {F : List D → R} {c m x : Str} {p pos apos : Pos} {e o : Expr} {es : List Expr} {fa : AF} {fo : EF} {flds : List Str}
end
def callM (c m : Str) (md : List Md) (F : List D → R) (dd : List D) (fo : EF) (fa : AF) : EF := fun ρ => (fo ρ).bind fun x ρ0 => match x with
  | .st (.dict ((.none, .str c') :: kvs)) => if c' = c ∧ lookI m kvs = none then (fa ρ0).bind fun xs ρ1 => (match argD md (xs ++ dd.map Vl.st) with
    | some ds => (match F (.dict ((.none, .str c') :: kvs) :: ds) with
      | .ok d _ _ => .ok (.st d) ρ1
      | .er e _ => .er e ρ1
      | .bad => .bad)
    | none => .bad) else .bad
  | _ => .bad
section
variable {X : Cx} {B : Bs} {W : WX} {k i : Nat} {f : Addr} {fd : FuncData} {ps : List Str} {md : List Md} {tails : List (List D)} {F : List D → R} {c m x : Str} {p pos apos : Pos} {e o : Expr} {es : List Expr} {fa : AF} {fo : EF} {flds : List Str}
theorem meth_read {dvs : List V} {dd : List D} {to : TE} {t : TA} (hdd : ∀ H, RepA X.K H dvs dd) {σ : L2.St} {H : Hp} {Q : VK} (hto : ∀ σ H Q, tD X.K X.mg B W fo σ H Q → to σ H Q) (ht : ∀ σ H (Q : List V → Hp → Prop), tAD X.K X.mg B W fa σ H Q → t σ H Q) (h : tD X.K X.mg B W (callM c m md F dd fo fa) σ H Q) :
    tMethSD (He.ga X.K c) m (spD X.K X.mg (.p :: md) F) dvs (WE W) to t σ H Q := by
  obtain ⟨Hs, ρ, sl, q⟩ := h
  refine hto _ _ _ ⟨Hs, ρ, sl, OP.imp (OP.bind q) fun x ρ0 Hs0 H0 _ sl0 e0 q0 v hv => ?_⟩
  split at q0
  · rename_i c' kvs _
    by_cases hc : c' = c ∧ lookI m kvs = none
    case neg => rw [if_neg hc] at q0; exact q0.elim
    rw [if_pos hc] at q0
    obtain ⟨rfl, hn⟩ := hc
    have rv : Rep X.K Hs0 v (.dict ((.none, .str c') :: kvs)) := hv
    obtain ⟨a, dx, fs, rfl, ea, ri⟩ := Shal.insD (H := H0) (.inl rv) sl0.sub
    refine ⟨a, dx, fs, rfl, ea, (ri.look (f := m)).2 hn, ht _ _ _ ⟨Hs0, ρ0, sl0, OP.imp (OP.bind q0) fun xs ρ1 Hs1 H1 _ sl1 e1 q1 vs hvs => ?_⟩⟩
    cases ea : argD md (xs ++ dd.map Vl.st) with
    | none => rw [ea] at q1; exact q1.elim
    | some ds =>
    rw [ea] at q1
    dsimp only at q1
    refine ⟨Hs1, .dict ((.none, .str c') :: kvs) :: ds, sl1.sub, .p (rv.mono e1) (argD_ok (hvs.app (hdd Hs1)) ea), ?_⟩
    cases eF : F (.dict ((.none, .str c') :: kvs) :: ds) with
    | bad => rw [eF] at q1; exact q1.elim
    | er z c2 => rw [eF] at q1; exact fun cls od Hs' H' g eo => q1 cls od Hs' H' (sl1.grow g) g.s eo
    | ok d fr c2 =>
      rw [eF] at q1
      intro r Hs' H' g ro
      have sl2 := sl1.grow g
      cases fr with
      | false => exact q1 Hs' H' sl2 g.s r ro
      | true =>
        obtain ⟨pp, rfl, n, n0, cn⟩ := ro
        obtain ⟨o, eo⟩ := cn.there
        obtain ⟨f1, f2, f3⟩ := sl1.fresh n0
        exact q1 _ H' (sl2.take eo n f2 (f3.grow sl1 g)) (g.s.trans (same_upd n)) _ (cn.frozen eo n)
  · exact q0.elim
theorem pd_meth (dd : List D) (G : MethOk X.prog X.w X.K X.mg X.base k c m f ps tails (spD X.K X.mg (.p :: md) F)) (hdd : dd ∈ tails) (T : ClsF X.K c flds) (tk : L2N.Takes X W) (hr : Room k X.A) (ho : PD X B W o fo) (ha : PAD X B W (e :: es) fa) {pl : Sem Bool}
    (hst : starEach (e :: es) X.env = (false, eval e X.env) :: starEach es X.env := by rfl) (hpl : (backTo pos (starEach es X.env)).any (·.1) = false := by rfl)
    (ht : eval (.Call (.Attribute o m apos) (e :: es) [] pos) X.env = (do
      let ov ← eval o X.env
      standAt apos.atName
      let (f, first) ← holding [ov] (getMethod ov m pl)
      callWith pos f first (backTo pos (starEach (e :: es) X.env)) (backToKw pos (keywordEach [] X.env))) := by rfl) :
    PD X B W (.Call (.Attribute o m apos) (e :: es) [] pos) (callM c m md F dd fo fa) := by
  obtain ⟨fd, hm, F, hb⟩ := G.ex
  obtain ⟨dvs, dsv, h1, h2, h3⟩ := hb dd hdd
  exact PE.imp (pe_methSD (E := WE W) (pl := pl) ho T.cl hm F hr h3 h1 (fun σ => L2N.passAt tk σ) ha hst hpl ht) fun σ H Q h => meth_read h2 (fun _ _ _ z => z) (fun _ _ _ z => z) h
theorem pd_meth0 (dd : List D) (G : MethOk X.prog X.w X.K X.mg X.base k c m f ps tails (spD X.K X.mg (.p :: md) F)) (hdd : dd ∈ tails) (T : ClsF X.K c flds) (tk : L2N.Takes X W) (hr : Room k X.A) (ho : PD X B W o fo) {pl : Sem Bool}
    (ht : eval (.Call (.Attribute o m apos) [] [] pos) X.env = (do
      let ov ← eval o X.env
      standAt apos.atName
      let (f, first) ← holding [ov] (getMethod ov m pl)
      callWith pos f first (backTo pos (starEach [] X.env)) (backToKw pos (keywordEach [] X.env))) := by rfl) :
    PD X B W (.Call (.Attribute o m apos) [] [] pos) (callM c m md F dd fo nilF) := by
  obtain ⟨fd, hm, F, hb⟩ := G.ex
  obtain ⟨dvs, dsv, h1, h2, h3⟩ := hb dd hdd
  exact PE.imp (pe_meth0SD (E := WE W) (pl := pl) ho T.cl hm F hr h3 h1 (fun σ => L2N.passAt tk σ) ht) fun σ H Q h => meth_read h2 (fun _ _ _ z => z) (fun σ H Q ⟨Hs, ρ, sl, q⟩ => q Hs H sl (.refl _) [] .nil) h
end
def mkT (c : Str) (md : List Md) (F : D → List D → R) (dd : List D) (fa : AF) : CF := fun ρ => (fa ρ).bind fun xs ρ1 => match argD md (xs ++ dd.map Vl.st) with
  | some ds => (match F (.dict [(.none, .str c)]) ds with
    | .ok .none false c' => .ok c' ρ1
    | .er e _ => .er e ρ1
    | _ => .bad)
  | none => .bad
theorem Tre.pins {K : Fg} {P P' : Pin} {Hs H : Hp} (e : ∀ n a, P n = some a → P' n = some a) {v : V} {d : D} {f : List Addr} (t : Tre K P Hs H v d f) : Tre K P' Hs H v d f := t.mono (.refl _) e (fun _ _ _ z => z) fun _ _ z => z
section
variable {X : Cx} {B : Bs} {W : WX} {k i : Nat} {f : Addr} {fd : FuncData} {ps : List Str} {md : List Md} {tails : List (List D)} {FT : D → List D → R} {c : Str} {p pos : Pos} {e : Expr} {es : List Expr} {fa : AF}
/-- a new tree handed out as data for good -/
def frzC (cf : CF) : EF := fun ρ => (cf ρ).bind fun d ρ1 => .ok (.st (strip (bx d))) ρ1
theorem pd_ft {cf : CF} (h : PT' X B W e cf) : PD X B W e (frzC cf) := PE.imp h fun σ H Q ⟨Hs, ρ, sl, q⟩ => ⟨Hs, ρ, sl, OP.imp (OP.bind q) fun d ρ1 Hs1 H1 _ sl1 e1 q1 p f tp nw nb => by
  have th : ∀ a ∈ f, Hs1 a = none := fun a m => (tp.1.there a m).2
  exact q1 _ H1 (sl1.takes th nw nb) (frz_same th) _ (tp.1.frozen (frz_same th) fun a m o e => by rw [frz_in m]; exact e)⟩
end
end DL
set_option maxHeartbeats 2000000
namespace DL
open PySem PySem.Spec PyProof.Rows L2
abbrev GV := L2.St → Hp → Option V
def tG (g : GV) : TE := fun σ H Q => ∃ v, g σ H = some v ∧ Q v H
structure PV (X : Cx) (e : Expr) (h : En → Option D) (g : GV) : Prop where
  run : PE X e (tG g)
  link : ∀ {B : Bs} {H : Hp} {σ : L2.St} {ρ : En} {z : D}, Sl X.K B H H σ ρ → h ρ = some z → ∃ v, g σ H = some v ∧ Rep X.K H v z
  lock : ∀ {H : Hp} {σ : L2.St} {p : Addr} {u : HO} {od : Obj} {v : V}, H p = some u → IsDct u → g σ H = some v → g σ (L2.upd H p (.frz od u)) = some v
section
variable {X : Cx} {a b e : Expr} {pos : Pos} {h : En → Option D} {g : GV} {i : Nat} {c f : Str} {fs : List Str}
theorem pv_v (he : PE X e (tVar i)) : PV X e (vrQ i) (fun σ _ => (σ[i]?).bind id) := by
  refine ⟨PE.imp he fun σ H Q ⟨v, e, q⟩ => ?_, fun {B H σ ρ z} sl e => ?_, fun _ _ e => e⟩
  · have e : (σ[i]?).bind id = some v := e
    cases es : σ[i]? with
    | none => rw [es] at e; cases e
    | some x =>
      rw [es] at e
      have e : x = some v := e
      subst e
      exact ⟨v, es, q⟩
  · unfold vrQ at e
    cases es : ρ[i]? with
    | none => rw [es] at e; cases e
    | some s =>
      rw [es] at e
      cases s <;> first | (cases e; done) | skip
      rename_i d
      cases e
      obtain ⟨x, ex⟩ := sl_var sl es
      obtain ⟨v, rfl, r⟩ := sl.ok i x _ ex es
      exact ⟨v, by rw [ex]; rfl, r⟩
def fldG (c : Addr) (f : Str) (g : GV) : GV := fun σ H => match g σ H with
  | some (.ref a) => (match H a with
    | some (.ins c' _ fs) => if c' = c then fs.lookup f else none
    | _ => none)
  | _ => none
theorem pv_fld (T : ClsF X.K c fs) (hf : f ∈ fs) (h1 : PV X a h g) (hb : attributeBase a f X.env (eval a X.env) = eval a X.env := by rfl) : PV X (.Attribute a f pos) (fun ρ => (h ρ).bind (fldD c f)) (fldG (He.ga X.K c) f g) := by
  refine ⟨PE.imp (pe_fld h1.run hb) fun σ H Q ⟨v, e, q⟩ => ?_, fun {B H σ ρ z} sl e => ?_, fun {H σ p u od v} hp hu e => ?_⟩
  · unfold fldG at e
    split at e
    · rename_i a' eg
      split at e
      · rename_i c' dx fs' eh
        by_cases qc : c' = He.ga X.K c
        · rw [if_pos qc] at e
          subst qc
          exact ⟨.ref a', eg, a', _, dx, fs', v, rfl, eh, T.cl, T.n f hf, e, q⟩
        · rw [if_neg qc] at e; cases e
      · cases e
    · cases e
  · cases eh : h ρ with
    | none => rw [eh] at e; cases e
    | some d =>
      rw [eh, Option.bind_some] at e
      obtain ⟨kvs, rfl, l⟩ := fldD_eq e
      obtain ⟨v, eg, r⟩ := h1.link sl eh
      obtain ⟨a', dx, fs', rfl, ea, ri⟩ := Shal.insD (H := H) (.inl r) (.refl _)
      obtain ⟨u, l1, ru⟩ := (ri.look (f := f)).1 z l
      refine ⟨u, ?_, ru⟩
      unfold fldG
      rw [eg]
      dsimp only
      rw [ea]
      dsimp only
      rw [if_pos rfl]
      exact l1
  · unfold fldG at e ⊢
    split at e
    · rename_i a' eg
      rw [h1.lock hp hu eg]
      dsimp only
      split at e
      · rename_i c' dx fs' eh
        have ne : a' ≠ p := fun z => by
          rw [z, hp] at eh
          cases eh
          rcases hu with ⟨_, y⟩ | ⟨_, y⟩ <;> cases y
        rw [L2.upd_ne ne, eh]
        exact e
      · cases e
    · cases e
end
section
variable {K : Fg} {B : Bs} {Hs H H2 Hs' H' : Hp} {σ : L2.St} {ρ : En} {p : Addr} {u : HO}
theorem lend_flat (ρ : En) : (lend ρ).all Slot.flat = true := List.all_eq_true.mpr fun s m => by
  obtain ⟨t, _, rfl⟩ := List.mem_map.mp m
  cases t <;> rfl
theorem lB_alt (a : Alt p u H H2) : BAlt p H2 H2 (lB H) (lB H2) := by
  refine ⟨rfl, rfl, rfl, rfl, a.ne, a.ne, fun _ => ?_, ?_, fun o e => e, fun o e _ _ => e⟩
  · show H2 p ≠ none
    rcases a.b with z | ⟨_, z⟩ <;> (rw [z]; simp)
  · show H2 p = none ↔ H p = none
    constructor
    · intro z; rcases a.b with y | ⟨_, y⟩ <;> (rw [y] at z; cases z)
    · intro z; rcases a.a with y | ⟨_, y⟩ <;> (rw [y] at z; cases z)
theorem growX (hu : IsDct u) (s : Same Hs H) (a : Alt p u H H2) (hp : H p = some u) (g : Grow H2 H2 Hs' H') : Grow Hs H (both Hs (tups Hs')) (L2.upd H' p u) := by
  have nt : ∀ xs, H' p ≠ some (.tup xs) := fun xs e => by
    rcases a.b with z | ⟨_, z⟩
    · rw [g.h _ _ z] at e; cases e; rcases hu with ⟨_, y⟩ | ⟨_, y⟩ <;> cases y
    · rw [g.h _ _ z] at e; cases e
  have hh : Same H (L2.upd H' p u) := fun b o e => by
    by_cases q : b = p
    · subst q; rw [L2.upd_same]; rw [hp] at e; exact e
    · rw [L2.upd_ne q]; exact g.h _ _ ((a.ne b q).trans e)
  refine ⟨both_l _ _, hh, both_sub (s.trans hh) fun b o e => ?_, fun b => ?_⟩
  · obtain ⟨xs, rfl, e2⟩ := tups_at e
    have e3 := g.sub _ _ e2
    rw [L2.upd_ne (fun q => nt xs (by rw [← q]; exact e3))]
    exact e3
  · cases e : Hs b with
    | some o => exact .inr (.inl nofun)
    | none =>
      have e2 : both Hs (tups Hs') b = tups Hs' b := by unfold both; rw [e]
      rw [e2]
      cases e3 : tups Hs' b with
      | none => exact .inl rfl
      | some o =>
        obtain ⟨xs, rfl, e4⟩ := tups_at e3
        cases e5 : H b with
        | none => exact .inr (.inr (.inl rfl))
        | some v =>
          have e6 := hh _ _ e5
          have e7 := g.sub _ _ e4
          rw [L2.upd_ne (fun q => nt xs (by rw [← q]; exact e7)), e7] at e6
          cases e6
          exact .inr (.inr (.inr ⟨xs, e5⟩))
theorem tupX (hu : IsDct u) (s : Same Hs H) (a : Alt p u H H2) (g : Grow H2 H2 Hs' H') : ∀ b xs, Hs' b = some (.tup xs) → both Hs (tups Hs') b = some (.tup xs) := fun b xs h => by
  unfold both
  cases e : Hs b with
  | none => exact tups_of h
  | some o =>
    have eh := s _ _ e
    have e7 := g.sub _ _ h
    by_cases q : b = p
    · subst q
      rcases a.b with z | ⟨_, z⟩
      · rw [g.h _ _ z] at e7; cases e7; rcases hu with ⟨_, y⟩ | ⟨_, y⟩ <;> cases y
      · rw [g.h _ _ z] at e7; cases e7
    · rw [g.h _ _ ((a.ne b q).trans eh)] at e7
      cases e7
      rfl
end
/-- [.. for t in d ..], d the dict at a plain place -/
def compX (t : Tg) (vs : List Nat) (h : En → Option D) (tt : BF) (fe : EF) : CF := fun ρ => match h (lend ρ) with
  | some (.dict kvs) => if isN (.dict kvs) = true ∨ isInsD (.dict kvs) = true then .bad else
    (match compLoop t vs tt fe (keysOf (.dict kvs)) (wipeE (lend ρ) vs) with
      | .ok zs _ => if short zs = true ∧ lfA zs = true then .ok (.list zs) ρ else .bad
      | _ => .bad)
  | _ => .bad
theorem pe_either {X : Cx} {e : Expr} {t : TE} (h : PE X e t) : PE X e (fun σ H Q => tLockE t σ H Q ∨ t σ H Q) := ⟨fun pins s σ H Q I hw => hw.elim ((pe_lock h).run pins s σ H Q I) (h.run pins s σ H Q I)⟩
section
variable {X : Cx} {B : Bs} {W : WX} {elt tg iter : Expr} {ifs : List Expr} {scope : Scope} {own : List (Str × Nat)} {pos : Pos} {t : Tg} {tt : BF} {fe : EF} {h : En → Option D} {g : GV}
theorem compX_read {σ : L2.St} {H : Hp} {Q : VK} {vs : List Nat} (pv : PV X iter h g) (hv : ∀ i ∈ t.at, i ∈ vs) (q0 : tC' X.K X.mg B W (compX t vs h tt fe) σ H Q) :
    tLockE (tLc (iKeys (tG g)) (tgA X.K t) (tTA X.K X.mg tt) (tDA X.K X.mg fe) vs) σ H Q ∨ tLc (iKeys (tG g)) (tgA X.K t) (tTA X.K X.mg tt) (tDA X.K X.mg fe) vs σ H Q := by
  obtain ⟨Hs, ρ, sl, q⟩ := q0
  unfold compX at q
  cases eh : h (lend ρ) with
  | none => rw [eh] at q; exact q.elim
  | some d =>
  rw [eh] at q
  cases d <;> first | exact q.elim | skip
  rename_i kvs
  dsimp only at q
  by_cases bad : isN (.dict kvs) = true ∨ isInsD (.dict kvs) = true
  case pos => rw [if_pos bad] at q; exact q.elim
  rw [if_neg bad] at q
  obtain ⟨v, ev, rv⟩ := pv.link sl.lend eh
  cases ec : compLoop t vs tt fe (keysOf (.dict kvs)) (wipeE (lend ρ) vs) with
  | er e r => rw [ec] at q; exact q.elim
  | bad => rw [ec] at q; exact q.elim
  | ok zs ρ2 =>
  rw [ec] at q
  dsimp only at q
  by_cases c2 : short zs = true ∧ lfA zs = true
  case neg => rw [if_neg c2] at q; exact q.elim
  rw [if_pos c2] at q
  obtain ⟨c2, lz⟩ := c2
  have nz : zs.length ≤ 100000 := of_decide_eq_true c2
  -- the end, from a heap in which the dict stands as H2 says
  have fin : ∀ {p : Addr} {u : HO} {H2 Hs' H' : Hp} {a : Addr}, IsDct u → Alt p u H H2 → H p = some u → Grow H2 H2 Hs' H' → H2 a = none → Hs' a = none → Cont X.K Hs' H' a (.list zs) → Q (.ref a) (L2.upd H' p u) := fun {p u H2 Hs' H' a} hu al hp gr na n1 cn => by
    have ap : a ≠ p := fun z => by
      rw [z] at na
      rcases al.b with y | ⟨_, y⟩ <;> (rw [y] at na; cases na)
    have na' : H a = none := (al.ne a ap).symm.trans na
    obtain ⟨f1, f2, f3⟩ := sl.fresh na'
    have gX := growX hu sl.sub al hp gr
    refine q _ _ (sl.grow gX) gX.s a ?_ f2 (f3.grow sl gX) ?_
    · unfold both
      rw [f1]
      cases e3 : tups Hs' a with
      | none => rfl
      | some o =>
        obtain ⟨xs, rfl, e4⟩ := tups_at e3
        rw [n1] at e4; cases e4
    · obtain ⟨vs2, x, y⟩ := cn
      exact ⟨vs2, (L2.upd_ne ap).trans x, RepA.lfm (tupX hu sl.sub al gr) y lz⟩
  have fin2 : ∀ {Hs' H' : Hp} {a : Addr}, Grow H H Hs' H' → H a = none → Hs' a = none → Cont X.K Hs' H' a (.list zs) → Q (.ref a) H' := fun {Hs' H' a} gr na n1 cn => by
    obtain ⟨f1, f2, f3⟩ := sl.fresh na
    have gX := growL sl.sub gr
    refine q _ _ (sl.grow gX) gX.s a ?_ f2 (f3.grow sl gX) ?_
    · unfold both
      rw [f1]
      cases e3 : tups Hs' a with
      | none => rfl
      | some o =>
        obtain ⟨xs, rfl, e4⟩ := tups_at e3
        rw [n1] at e4; cases e4
    · obtain ⟨vs2, x, y⟩ := cn
      exact ⟨vs2, x, RepA.lfm (tupL sl.sub gr) y lz⟩
  have body : ∀ {p : Addr} {u : HO} {H2 : Hp} {J : It}, IsDct u → Alt p u H H2 → WalkD X.K J H2 (keysOf (.dict kvs)) → ∀ Q' : VK, (∀ Hs' H' a, Grow H2 H2 Hs' H' → H2 a = none → Hs' a = none → Cont X.K Hs' H' a (.list zs) → Q' (.ref a) H') → tLc (fun _ _ R => R J H2) (tgA X.K t) (tTA X.K X.mg tt) (tDA X.K X.mg fe) vs σ H2 Q' := fun {p u H2 J} hu al wk Q' hQ => by
    have sl2 : Sl X.K (lB H2) H2 H2 σ (lend ρ) := sl.lend.alt (lend_flat ρ) hu al al rfl (lB_alt al)
    refine comp_core (X := X) (B := lB H2) (ρ1 := lend ρ) hv sl2 wk ?_
    rw [ec]
    exact ⟨nz, fun Hs' H' a si _ n1 n2 _ cn => hQ Hs' H' a si.lent (n2.elim id fun z => z.elim) n1 cn⟩
  have core : ∀ {p : Addr} {u : HO}, v = .ref p → IsDct u → Rd H p u → (∀ od H2, H2 p = some (.frz od u) → ∃ J, WalkD X.K J H2 (keysOf (.dict kvs)) ∧
      ∀ R : It → Hp → Prop, R J H2 → (∃ kvs, H2 p = some (.frz od (.dK kvs)) ∧ R (Itk p od kvs) H2) ∨ ∃ kvs, H2 p = some (.frz od (.dT kvs)) ∧ R (Itkt p od kvs) H2) →
      tLockE (tLc (iKeys (tG g)) (tgA X.K t) (tTA X.K X.mg tt) (tDA X.K X.mg fe) vs) σ H Q ∨ tLc (iKeys (tG g)) (tgA X.K t) (tTA X.K X.mg tt) (tDA X.K X.mg fe) vs σ H Q := fun {p u} ev2 hu rd mk => by
    subst ev2
    rcases rd with hp | ⟨od, hp⟩
    · refine .inl ⟨p, u, hp, ?_, fun od => ?_⟩
      · rcases hu with ⟨_, rfl⟩ | ⟨_, rfl⟩ <;> exact True.intro
      · obtain ⟨J, wk, it⟩ := mk od (L2.upd H p (.frz od u)) L2.upd_same
        have al : Alt p u H (L2.upd H p (.frz od u)) := ⟨fun a n => L2.upd_ne n, .inl hp, .inr ⟨od, L2.upd_same⟩⟩
        have b := body hu al wk (fun v H' => H' p = some (.frz od u) ∧ Q v (L2.upd H' p u)) fun Hs' H' a gr na n1 cn => ⟨gr.h _ _ L2.upd_same, fin hu al hp gr na n1 cn⟩
        exact ⟨_, pv.lock hp hu ev, p, od, rfl, it (fun J H1 => tLc (fun _ _ R => R J H1) (tgA X.K t) (tTA X.K X.mg tt) (tDA X.K X.mg fe) vs σ H1 (fun v H' => H' p = some (.frz od u) ∧ Q v (L2.upd H' p u))) b⟩
    · refine .inr ?_
      obtain ⟨J, wk, it⟩ := mk od H hp
      have al : Alt p u H H := ⟨fun a _ => rfl, .inr ⟨od, hp⟩, .inr ⟨od, hp⟩⟩
      have b := body hu al wk Q fun Hs' H' a gr na n1 cn => fin2 gr na n1 cn
      exact ⟨_, ev, p, od, rfl, it (fun J H1 => tLc (fun _ _ R => R J H1) (tgA X.K t) (tTA X.K X.mg tt) (tDA X.K X.mg fe) vs σ H1 Q) b⟩
  generalize hd : PyData.dict kvs = d at rv
  cases rv with
  | @dK a ks kvs2 rd rk =>
    cases hd
    refine core rfl (.inl ⟨_, rfl⟩) rd fun od H2 h2 => ⟨_, ?_, fun R r => .inl ⟨ks, h2, r⟩⟩
    have ek : keysOf (.dict kvs) = ks.map fun kv => keyD kv.1 := by
      rw [← rk.keysD]
      cases rk with
      | nil => rfl
      | @cons k _ _ _ _ _ _ => cases k <;> rfl
    rw [ek]
    exact walk_keysK h2
  | @dT a ks es rd rk =>
    cases hd
    refine core rfl (.inr ⟨_, rfl⟩) rd fun od H2 h2 => ⟨_, ?_, fun R r => .inr ⟨ks, h2, r⟩⟩
    have ek : keysOf (.dict (tagT :: es)) = ks.map fun kv => .tuple (kv.1.map keyD) := by
      rw [← rk.keysD]
      rfl
    rw [ek]
    exact walk_keysT h2
  | ins _ _ _ => cases hd; exact absurd (.inr rfl) bad
  | dN _ _ => cases hd; exact absurd (.inl rfl) bad
  | _ => cases hd
theorem pc_lcX (hc : X.calm = true) (hN : X.N.Nodup) (pv : PV X iter h g) (ok : BlkOk X.N X.env.scope scope own)
    (hg : ∀ (s : Shared) (H : Hp) (C : Addr) (cl : List (Str × Addr)) (fp : List Addr) (B : Bs), PG (X.blk s H scope (compEnvC scope cl C X.env) fp) tg (gD X.K B t))
    (ht : ∀ (s : Shared) (H : Hp) (C : Addr) (cl : List (Str × Addr)) (fp : List Addr) (B : Bs), PTs (X.blk s H scope (compEnvC scope cl C X.env) fp) ifs (tTD X.K X.mg B W0 tt))
    (he : ∀ (s : Shared) (H : Hp) (C : Addr) (cl : List (Str × Addr)) (fp : List Addr) (B : Bs), PD (X.blk s H scope (compEnvC scope cl C X.env) fp) B W0 elt fe)
    (hv : ∀ i ∈ t.at, i ∈ own.map (·.2) := by decide) (hs : ∀ x, foldedSetIterable iter X.env x = pure x := by intro _; rfl) : PC' X B W (.ListComp elt [⟨tg, iter, ifs, 0⟩] scope pos) (compX t (own.map (·.2)) h tt fe) :=
  PE.imp (pe_either (pe_lc (g := tgA X.K t) (tt := tTA X.K X.mg tt) (te := tDA X.K X.mg fe) hc hN (pi_keys pv.run) ok (fun s H C cl fp => ⟨fun pins s' σ H' v u Q I r ⟨B, q⟩ => (hg s H C cl fp B).run pins s' σ H' v u Q I r q⟩)
    (fun s H C cl fp => ⟨fun pins s' σ H' Q I ⟨B, q⟩ => (ht s H C cl fp B).run pins s' σ H' Q I q⟩) (fun s H C cl fp => ⟨fun pins s' σ H' Q I ⟨B, q⟩ => (he s H C cl fp B).run pins s' σ H' Q I q⟩) hs)) fun σ H Q h => compX_read pv hv h
end
end DL
set_option maxHeartbeats 2000000
namespace L2
open PySem PySem.Spec PyProof.Rows
end L2
namespace DL
open PySem PySem.Spec PyProof.Rows L2
section
variable {K : Fg} {B : Bs} {Hs H : Hp} {σ : L2.St} {ρ : En} {i : Nat} {s : DL.Slot} {d z : D} {kvs : List (D × D)} {path : List Nat} {c f : Str} {u : V}
end
section
variable {X : Cx} {B : Bs} {W : WX} {e o : Expr} {x : Str} {i j k : Nat} {c f : Str} {fs : List Str} {fe : EF} {pos pos1 pos2 pos3 : Pos}
end
end DL
set_option maxHeartbeats 2000000
namespace DL
open PySem PySem.Spec PyProof.Rows L2
structure AftI (K : Fg) (P : Pin) (Hs H Hs' H' : Hp) (p : Addr) (c : D) (f f' : List Addr) : Prop where
  s : Same Hs Hs'
  sub : Same Hs' H'
  new : ∀ a, Hs' a = none ∨ Hs a ≠ none ∨ (H a = none ∨ a ∈ f ∨ TupAt H' a)
  keep : ∀ a o, H a = some o → a ∉ f → H' a = some o
  t : TreP K P Hs' H' p c f'
  ff : ∀ a ∈ f', a ∈ f ∨ H a = none
def spI (K : Fg) (mg : MG) (m : List Md) (F : D → List D → R) : Sp := fun vs H Q E => ∃ P Hs p c f vs' ds, vs = .ref p :: vs' ∧ Same Hs H ∧ TreP K P Hs H p c f ∧ ArgsOk K Hs m vs' ds ∧ match F c ds with
  | .ok d fr c' => fr = false ∧ ∀ r Hs' H' f', AftI K P Hs H Hs' H' p c' f f' → Rep K Hs' r d → Q r H'
  | .er e c' => ∀ cls od Hs' H' f', AftI K P Hs H Hs' H' p c' f f' → ErOk K mg e cls od Hs' H' → E cls od H'
  | .bad => False
section
variable {P : Program} {w : World} {K : Fg} {mg : MG} {base : Heap}
def bI (Hs H : Hp) (f : List Addr) (p : Addr) (P : Pin) : Bs := ⟨Hs, H, fun _ => False, fun a => a ∈ f, fun a => a = p, P⟩
theorem sl_startI {Q : Pin} {Hs H : Hp} {m : List Md} {vs : List V} {ds : List D} {N : List Str} {p : Addr} {c : D} {f : List Addr} (s : Same Hs H) (t : TreP K Q Hs H p c f) (a : ArgsOk K Hs m vs ds) (hn : m.length + 1 ≤ N.length) :
    Sl K (bI Hs H f p Q) Hs H (start N (.ref p :: vs)) (.atr c :: slots0 m ds ++ List.replicate (N.length - (m.length + 1)) .un) := by
  obtain ⟨l1, l2⟩ := a.len
  have l3 := slots0_len l2
  have own : ∀ a ∈ f, (bI Hs H f p Q).nw a ∨ (bI Hs H f p Q).own0 a := fun a m => .inl (.inr m)
  have key : ∀ (i : Nat) (x : Option V) (u : DL.Slot), (start N (.ref p :: vs))[i]? = some x → (.atr c :: slots0 m ds ++ List.replicate (N.length - (m.length + 1)) Slot.un)[i]? = some u → SlotOk K (bI Hs H f p Q) Hs H x u ∧ (u.mut = true → i = 0) := fun i x u a1 b1 => by
    unfold L2.start at a1
    cases i with
    | zero =>
      simp at a1 b1
      subst a1 b1
      exact ⟨⟨p, f, rfl, t, rfl, own⟩, fun _ => rfl⟩
    | succ i =>
      rw [List.map_cons, List.cons_append, List.getElem?_cons_succ] at a1
      rw [List.cons_append, List.getElem?_cons_succ] at b1
      rcases app_get b1 with ⟨h, b2⟩ | ⟨h, b2⟩
      · rcases app_get a1 with ⟨h', a2⟩ | ⟨h', a2⟩
        · have := slots0_ok (B := bI Hs H f p Q) (H := H) a i x u a2 b2
          exact ⟨this.1, fun z => by rw [this.2] at z; cases z⟩
        · rw [List.length_map] at h'
          omega
      · rw [List.getElem?_replicate] at b2
        split at b2
        · cases b2; exact ⟨trivial, fun z => by cases z⟩
        · cases b2
  refine ⟨?_, fun i x t a1 b1 => (key i x t a1 b1).1, s, .refl _, fun b => ?_, fun b o e _ _ => e, fun b z => ?_, fun i => if i = 0 then f else [], fun i x s a b => ?_, fun i a => ?_, fun i j hij a m m2 => ?_⟩
  · unfold L2.start
    simp
    omega
  · cases e : Hs b with
    | none => exact .inl rfl
    | some o => exact .inr (.inl (by show Hs b ≠ none; rw [e]; simp))
  · rcases z with z | z
    · exact z.elim
    · exact (t.1.there b z).1.some
  · by_cases e : i = 0
    · subst e
      rw [if_pos rfl]
      unfold L2.start at a
      simp at a b
      subst a b
      exact ⟨p, rfl, t, rfl, own⟩
    · rw [if_neg e]
      have := (key i _ s a b).2
      cases s <;> first | rfl | exact absurd (this rfl) e
  · by_cases e : i = 0
    · subst e
      cases a
    · exact if_neg e
  · by_cases e : i = 0
    · by_cases e2 : j = 0
      · omega
      · rw [if_neg e2] at m2; cases m2
    · rw [if_neg e] at m; cases m
theorem Sl.aftI {Q : Pin} {Hs H Hs' H' : Hp} {σ : L2.St} {r : En} {p : Addr} {c : D} {f : List Addr} (sl : Sl K (bI Hs H f p Q) Hs' H' σ (.atr c :: r)) : ∃ f', AftI K Q Hs H Hs' H' p c f f' := by
  obtain ⟨x, ex⟩ := sl_var (i := 0) (s := .atr c) sl rfl
  obtain ⟨q, f', e1, t, rt, w⟩ := sl.ok 0 _ _ ex rfl
  have rt : q = p := rt
  subst rt
  have nw : ∀ a, (bI Hs H f q Q).nw a → H a = none ∨ a ∈ f := fun a z => z
  refine ⟨f', sl.base, sl.sub, fun a => (sl.new a).imp id (fun z => z.imp id fun z => z.elim (fun z => (nw a z).imp id .inl) fun z => .inr (.inr z)), fun a o e ne => sl.keep a o e (fun z => z) (fun z => ne z), t, fun a m => ?_⟩
  rcases w a m with z | z
  · exact (nw a z).symm
  · exact z.elim
/-- THE RULE for a constructor: its body as a term of rules -/
theorem defI {x qual : Str} {st : Stmt} {dvs : List V} {kws : List (Str × V)} {f : Addr} {fd : FuncData} {N ps : List Str} {k : Nat} {body : SF} (F : FunD K x qual (defArgs st) (defBody st) (defScope st) dvs kws f fd) (S : FnScope N ps (defScope st)) (m : List Md) (hm : m.length + 1 = ps.length)
    (der : ∀ (cdv : Value) (A : Around) (outer : List Env) (s : Shared) (H : Hp) (E : XK) (B : Bs) (W : WX), (∀ a, ¬ B.own0 a) → Room k (A.deeper (envOfC qual (defScope st) s.heap.objs.size f cdv)) → L2N.Takes (cxOf (L2N.CX P w) P w K mg base N qual (defScope st) f cdv A outer s H E) W →
      PSsD (cxOf (L2N.CX P w) P w K mg base N qual (defScope st) f cdv A outer s H E) B W (defBody st) body) : FnOk P w K mg base (L2N.CX P w) (k + 1) f fd ps (spI K mg m (runT m N.length body)) := by
  have hn : m.length + 1 ≤ N.length := by
    have h := congrArg List.length S.pre
    rw [List.length_take] at h
    omega
  refine F.ok S (fun vs H Q E h => ?_) (fun cdv A outer s H vs Q E hr h => ?_)
  · obtain ⟨_, Hs, p, c, _, vs', ds, rfl, _, _, a, _⟩ := h
    rw [List.length_cons, a.len.1, hm]
  · obtain ⟨Pn, Hs, p, c, ff, vs', ds, rfl, sm, t, a, q⟩ := h
    refine ⟨_, der cdv A outer s H E (bI Hs H ff p Pn) (fun cls d _ H' => E cls d H') (fun _ z => z) hr (L2N.takes_of rfl rfl rfl rfl), Hs, _, sl_startI sm t a hn, ?_⟩
    unfold runT at q
    show SQ K mg _ _ _ _ _
    have split : ∀ {r : En} {kk : D → R}, out0T r kk = .bad ∨ ∃ c' r', r = .atr c' :: r' := fun {r kk} => by
      cases r with
      | nil => exact .inl rfl
      | cons s r' => cases s <;> first | exact .inl rfl | exact .inr ⟨_, _, rfl⟩
    cases e : body (.atr c :: slots0 m ds ++ List.replicate (N.length - (m.length + 1)) .un) with
    | nx r =>
      rw [e] at q
      dsimp only at q
      rcases (split (r := r) (kk := fun c' => R.ok .none false c')) with z | ⟨c', r', rfl⟩
      · rw [z] at q; exact q.elim
      · intro σ' Hs' H' sl _
        obtain ⟨f', af⟩ := sl.aftI
        exact q.2 _ _ _ f' af .non
    | rt d fr r =>
      rw [e] at q
      dsimp only at q
      rcases (split (r := r) (kk := fun c' => R.ok d fr c')) with z | ⟨c', r', rfl⟩
      · rw [z] at q; exact q.elim
      · obtain ⟨rfl, q⟩ := q
        intro σ' Hs' H' v sl _ ro
        obtain ⟨f', af⟩ := sl.aftI
        exact q _ _ _ f' af ro
    | er z r =>
      rw [e] at q
      dsimp only at q
      rcases (split (r := r) (kk := fun c' => R.er z c')) with y | ⟨c', r', rfl⟩
      · rw [y] at q; exact q.elim
      · intro cls od σ' Hs' H' sl _ eo
        obtain ⟨f', af⟩ := sl.aftI
        exact q cls od Hs' H' f' af eo
    | bk r => rw [e] at q; exact q.elim
    | ct r => rw [e] at q; exact q.elim
    | bad => rw [e] at q; exact q.elim
end
section
variable {P : Program} {w : World} {K : Fg} {mg : MG} {base : Heap} {c x qual : Str} {f : Addr} {st : Stmt} {ps N : List Str} {tails : List (List D)} {k : Nat} {body : SF} {m : List Md}
theorem MakeK.ofI (G : MakeK K mg c qual f st ps tails) (S : FnScope N ps (defScope st)) (hm : m.length + 1 = ps.length)
    (der : ∀ (cdv : Value) (A : Around) (outer : List Env) (s : Shared) (H : Hp) (E : XK) (B : Bs) (W : WX), (∀ a, ¬ B.own0 a) → Room k (A.deeper (envOfC qual (defScope st) s.heap.objs.size f cdv)) → L2N.Takes (cxOf (L2N.CX P w) P w K mg base N qual (defScope st) f cdv A outer s H E) W →
      PSsD (cxOf (L2N.CX P w) P w K mg base N qual (defScope st) f cdv A outer s H E) B W (defBody st) body) : MakeOk P w K mg base (k + 1) c f ps tails (spI K mg m (runT m N.length body)) := by
  obtain ⟨fd, dvs, kws, F, g, mk, b⟩ := G.ex
  exact ⟨fd, g, mk, defI F S m hm der, b⟩
end
section
variable {X : Cx} {B : Bs} {W : WX} {k i : Nat} {f : Addr} {fd : FuncData} {ps : List Str} {md : List Md} {tails : List (List D)} {FT : D → List D → R} {c : Str} {p pos : Pos} {e : Expr} {es : List Expr} {fa : AF}
theorem make_read {dvs : List V} {dd : List D} {t : TA} (h2 : ∀ H, RepA X.K H dvs dd) {σ : L2.St} {H : Hp} {Q : VK} (ht : ∀ σ H (Q : List V → Hp → Prop), tAD X.K X.mg B W fa σ H Q → t σ H Q) (h : tT X.K X.mg B W (mkT c md FT dd fa) σ H Q) :
    tMakeSD (He.ga X.K c) (spI X.K X.mg md FT) dvs (WE W) t σ H Q := by
  obtain ⟨Hs, ρ, sl, q⟩ := h
  refine ht _ _ _ ⟨Hs, ρ, sl, OP.imp (OP.bind q) fun xs ρ1 Hs1 H1 _ sl1 e1 q1 vs hvs x dx nx ndx ne => ?_⟩
  cases ea : argD md (xs ++ dd.map Vl.st) with
  | none => rw [ea] at q1; exact q1.elim
  | some ds =>
  rw [ea] at q1
  dsimp only at q1
  have sx : Hs1 x = none := sl1.sub.free nx
  have sdx : Hs1 dx = none := sl1.sub.free ndx
  have g0 : Same H1 (L2.upd (L2.upd H1 dx (.own x)) x (.ins (He.ga X.K c) dx [])) := (same_upd ndx).trans (same_upd (by rw [L2.upd_ne ne.symm]; exact nx))
  have t0 : TreP X.K B.pin Hs1 (L2.upd (L2.upd H1 dx (.own x)) x (.ins (He.ga X.K c) dx [])) x (.dict [(.none, .str c)]) [x, dx] :=
    ⟨.ins L2.upd_same (by rw [L2.upd_ne ne]; exact L2.upd_same) sx sdx .nil, List.mem_cons_self, by simp [ne.symm]⟩
  refine ⟨B.pin, Hs1, x, _, [x, dx], vs ++ dvs, ds, rfl, sl1.sub.trans g0, t0, argD_ok (hvs.app (h2 Hs1)) ea, ?_⟩
  have mem : ∀ a ∈ [x, dx], H1 a = none := fun a m => by
    rcases List.mem_cons.mp m with rfl | m
    · exact nx
    · rw [List.mem_singleton] at m; subst m; exact ndx
  have back : ∀ {Hs' H' c' f'}, AftI X.K B.pin Hs1 (L2.upd (L2.upd H1 dx (.own x)) x (.ins (He.ga X.K c) dx [])) Hs' H' x c' [x, dx] f' → Grow Hs1 H1 Hs' H' := fun {Hs' H' c' f'} af => by
    have kp : ∀ a o, H1 a = some o → H' a = some o := fun a o e => af.keep a o (g0 _ _ e) fun m => by
      rw [mem a m] at e; cases e
    refine ⟨af.s, kp, af.sub, fun a => ?_⟩
    rcases af.new a with z | z | z | z | z
    · exact .inl z
    · exact .inr (.inl z)
    · exact .inr (.inr (.inl (g0.free z)))
    · exact .inr (.inr (.inl (mem a z)))
    · exact .inr (.inr (tup_back z fun o e => kp a o e))
  have nwf : ∀ {Hs' H' c' f'}, AftI X.K B.pin Hs1 (L2.upd (L2.upd H1 dx (.own x)) x (.ins (He.ga X.K c) dx [])) Hs' H' x c' [x, dx] f' → ∀ a ∈ f', H1 a = none := fun {Hs' H' c' f'} af a m => by
    rcases af.ff a m with z | z
    · exact mem a z
    · exact g0.free z
  cases eF : FT (.dict [(.none, .str c)]) ds with
  | bad => rw [eF] at q1; exact q1.elim
  | er z c2 =>
    rw [eF] at q1
    intro cls od Hs' H' f' af eo
    exact q1 cls od Hs' H' (sl1.grow (back af)) af.s eo
  | ok d fr c2 =>
    rw [eF] at q1
    cases fr with
    | true => cases d <;> exact q1.elim
    | false =>
      cases d <;> first | exact q1.elim | skip
      refine ⟨rfl, fun r Hs' H' f' af ro => ?_⟩
      have rn : r = .non := Shal.non (K := X.K) (Hs := Hs') (H := H') (.inl ro)
      refine ⟨rn, ?_⟩
      have g := back af
      obtain ⟨F1, fe1⟩ := sl1.feet
      refine q1 Hs' H' (sl1.grow g) g.s x f' af.t (fun a m => sl1.nw_of (nwf af a m)) ⟨F1, fe1.grow sl1 g, fun j a m z => ?_⟩
      cases ej : ρ1[j]? with
      | none => rw [fe1.out j ej] at z; cases z
      | some u =>
        obtain ⟨y, ey⟩ := sl_var sl1 ej
        obtain ⟨⟨o, e, _⟩, _⟩ := (fe1.at_ j y u ey ej).there (sl1.ok j y u ey ej) a z
        rw [nwf af a m] at e; cases e
theorem pt_makeI (dd : List D) (G : MakeOk X.prog X.w X.K X.mg X.base k c f ps tails (spI X.K X.mg md FT)) (hdd : dd ∈ tails) (tk : L2N.Takes X W) (hr : Room (k + 1) X.A) (hg : Gl X c) (ha : PAD X B W (e :: es) fa)
    (hdb : (c == ("__debug__" : Str)) = false := by decide) (he : starEach (e :: es) X.env = (false, eval e X.env) :: starEach es X.env := by rfl) (hpl : (backTo pos (starEach es X.env)).any (·.1) = false := by rfl) :
    PT' X B W (.Call (.Name c p) (e :: es) [] pos) (mkT c md FT dd fa) := by
  obtain ⟨fd, hm, M, F, hb⟩ := G.ex
  obtain ⟨dvs, dsv, h1, h2, h3⟩ := hb dd hdd
  exact PE.imp (pe_makeSD (E := WE W) M F hr hg hm h3 h1 (fun σ => L2N.passAt tk σ) ha hdb he hpl) fun σ H Q h => make_read h2 (fun _ _ _ z => z) h
end
section
variable {K : Fg} {mg : MG} {B : Bs} {Hs H : Hp} {σ : L2.St} {ρ : En}
end
end DL
set_option maxHeartbeats 2000000
namespace DL
open PySem PySem.Spec PyProof.Rows L2
section
variable {X : Cx} {B : Bs} {W : WX} {o e tg : Expr} {t : Tg} {pos fpos : Pos} {body : List Stmt} {fb : SF} {i : Nat} {c f : Str} {fs : List Str}
end
end DL
set_option maxHeartbeats 2000000
namespace DL
open PySem PySem.Spec PyProof.Rows L2
def mulL : D → D → Option D
  | .list ds, .int k => if 0 ≤ k ∧ k ≤ 1000 ∧ ds.length ≤ 1000 then some (.list (List.replicate k.toNat ds).flatten) else none
  | _, _ => none
theorem on_mulL {X : Cx} : OpN X (binaryOp .Mult) mulL := fun pins s σ H x y v u Q I rx ry q => by
  obtain ⟨Hs, d, e, z, sb, sx, sy, ez, q⟩ := q
  cases d <;> cases e <;> first | (cases ez; done) | skip
  rename_i ds k
  unfold mulL at ez
  dsimp only at ez
  by_cases c : 0 ≤ k ∧ k ≤ 1000 ∧ ds.length ≤ 1000
  · rw [if_pos c] at ez; cases ez
    obtain ⟨p, vs, e1, h1, r1⟩ := sx.lst sb
    refine op_rep pins s σ H x y v u Q I rx ry ⟨p, k, vs, e1, sy.int, h1, by omega, by omega, ?_, fun p3 np => ?_⟩
    · have h2 : (1000000 : Nat) ≤ sizeLine := by decide
      have h3 : vs.length * k.toNat ≤ 1000 * 1000 := Nat.mul_le_mul (by rw [r1.length]; omega) (by omega)
      omega
    · exact q p3 _ np (.loose sb np) ⟨_, upd_same, r1.rep _⟩
  · rw [if_neg c] at ez; cases ez

section
variable {K : Fg} {Hs H : Hp}
theorem RepK.drop {k : Key} : ∀ {ks : List (Key × V)} {kvs : List (D × D)}, RepK K H ks kvs → RepK K H (dropK ks k) (kvs.filter fun kv => !keq kv.1 (keyD k))
  | _, _, .nil => .nil
  | _, _, .cons (k := j) (v := v) (d := d) a b => by
    have ih := RepK.drop (k := k) b
    unfold dropK at ih ⊢
    rw [List.filter_cons, List.filter_cons, keq_k]
    by_cases e : j = k
    · rw [if_neg (by rw [decide_eq_false (not_not_intro e)]; decide), if_neg (by rw [decide_eq_true e]; decide)]
      exact ih
    · rw [if_pos (decide_eq_true e), if_pos (by rw [decide_eq_false e]; rfl)]
      exact .cons a ih
end
section
variable {X : Cx} {B : Bs} {W : WX} {a b e o value : Expr} {pos apos cpos pos' ps : Pos} {h : En → Option D} {i : Nat} {g : En → Option (List Nat)}
end
section
variable {K : Fg} {P : Pin} {B : Bs} {Hs H : Hp} {σ : L2.St} {ρ : En}
theorem TreI.look {f : Str} {n : Int} : ∀ {fs : List (Str × V)} {kvs : List (D × D)} {g : List Addr}, TreI K P Hs H fs kvs g → lookI f kvs = some (.int n) → fs.lookup f = some (.int n)
  | _, _, _, .nil, h => by cases h
  | _, _, _, .cons (k := k) (v := v) (ks := ks) (d := d) (kvs := kvs) a b, h => by
    unfold lookI at h
    rw [List.lookup_cons]
    by_cases e : (f == k) = true
    · rw [if_pos e] at h
      cases h
      rw [e]
      obtain ⟨_, r⟩ := a.flat rfl
      rw [Shal.int (H := Hs) (.inl r)]
    · rw [if_neg e] at h
      have e' : (f == k) = false := by
        cases q : (f == k) with
        | true => exact absurd q e
        | false => rfl
      rw [e']
      exact b.look h
/-- a field of an own instance written with data -/
theorem fld_write {i : Nat} {s : DL.Slot} {d : D} {path : List Nat} {c : Str} {kvs : List (D × D)} (sl1 : Sl K B Hs H σ ρ) (e0 : ρ[i]? = some s) (e3 : s.tree = some d) (e4 : getIn d path = some (.dict ((.none, .str c) :: kvs))) :
    ∃ p qa dx fs, valAt H (.ref p) d path = some (.ref qa) ∧ σ[i]? = some (some (.ref p)) ∧ H qa = some (.ins (He.ga K c) dx fs) ∧ fs.length = kvs.length ∧ (∀ f n, lookI f kvs = some (.int n) → fs.lookup f = some (.int n)) ∧
      ∀ f u z, Rep K Hs u z → Sl K B Hs (L2.upd H qa (.ins (He.ga K c) dx (putF f u fs))) σ (ρ.set i (s.putT (setIn d path (.dict ((.none, .str c) :: putI f z kvs))))) := by
  obtain ⟨p, qa, ff, fc, fo⟩ := sl1.foc e0 e3 e4
  obtain ⟨dx, fs', gg, hq, hdx, nq, ndx, ef, tI⟩ := fo.t.insOf
  refine ⟨p, qa, dx, fs', fo.hv, fo.hp, hq, tI.len, fun f n h => tI.look h, fun f u z hu => ?_⟩
  have nd := fo.nd
  rw [ef] at nd
  obtain ⟨na, nd2⟩ := List.nodup_cons.mp nd
  obtain ⟨nb, nd3⟩ := List.nodup_cons.mp nd2
  have tI2 : TreI K B.pin Hs (L2.upd H qa (.ins (He.ga K c) dx (putF f u fs'))) fs' kvs gg := tI.mono (.refl _) (fun _ _ z => z) (fun b m o e => by rw [L2.upd_ne (fun z => na (List.mem_cons_of_mem _ (by rw [← z]; exact m)))]; exact e) fun b m n => n
  obtain ⟨g', t', nd', in'⟩ := tI2.put (f := f) (Tre.st hu) (by simp) nd3 (fun b m => by cases m)
  have in2 : ∀ b ∈ g', b ∈ gg := fun b m => (in' b m).elim id fun z => by cases z
  have tN : Tre K B.pin Hs (L2.upd H qa (.ins (He.ga K c) dx (putF f u fs'))) (.ref qa) (bx (.dict ((.none, .str c) :: putI f z kvs))) (qa :: dx :: g') :=
    .ins L2.upd_same (by rw [L2.upd_ne (fun z => na (by rw [← z]; exact List.mem_cons_self))]; exact hdx) nq ndx t'
  have ndN : (qa :: dx :: g').Nodup := List.nodup_cons.mpr ⟨fun z => na ((List.mem_cons.mp z).elim (fun z => by rw [z]; exact List.mem_cons_self) fun z => List.mem_cons_of_mem _ (in2 _ z)), List.nodup_cons.mpr ⟨fun z => nb (in2 _ z), nd'⟩⟩
  have sub : ∀ b ∈ qa :: dx :: g', b ∈ fc := fun b m => by
    rw [ef]
    rcases List.mem_cons.mp m with rfl | m
    · exact List.mem_cons_self
    · rcases List.mem_cons.mp m with rfl | m
      · exact List.mem_cons_of_mem _ List.mem_cons_self
      · exact List.mem_cons_of_mem _ (List.mem_cons_of_mem _ (in2 _ m))
  obtain ⟨F1, fe1, nf1⟩ := fo.feet
  have sl2 := fo.write fo.hid ⟨F1, fe1, nf1, fun j a m => nf1 j a (fo.inF a (sub a m))⟩ (.refl _) (fun a m => ⟨fun _ e => e, (fo.th a m).2⟩) (by rw [ef]; exact List.mem_cons_self) tN ndN fun a m => .inl (sub a m)
  rwa [List.set_set] at sl2
end
def fldA (i : Nat) (c f : Str) (g : En → Option (List Nat)) (k : Int) : SF := fun ρ => match ρ[i]?, g ρ with
  | some s, some path => (match s.tree with
    | some d => (match getIn d path with
      | some (.dict ((.none, .str c') :: kvs)) => if c' = c ∧ kvs.length < 1000 then (match lookI f kvs with
        | some (.int n) => .nx (ρ.set i (s.putT (setIn d path (.dict ((.none, .str c) :: putI f (.int (n + k)) kvs)))))
        | _ => .bad) else .bad
      | _ => .bad)
    | none => .bad)
  | _, _ => .bad
section
variable {X : Cx} {B : Bs} {W : WX} {o : Expr} {c f : Str} {fs : List Str} {pos tpos vpos : Pos} {i j : Nat} {g : En → Option (List Nat)} {k : Int}
theorem psd_fldA (T : ClsF X.K c fs) (hf : f ∈ fs) (ha : PRQ X B o i g) : PSD X B W (.AugAssign (.Attribute o f tpos) .Add (.Constant (.int k) j vpos) pos) (fldA i c f g k) :=
  PS.imp (ps_fldaug ha pe_int in_add) fun D' σ H ⟨Hs, ρ, sl, q⟩ => by
  unfold fldA at q
  cases e0 : ρ[i]? with
  | none => rw [e0] at q; exact q.elim
  | some s =>
    cases e2 : g ρ with
    | none => rw [e0, e2] at q; exact q.elim
    | some path =>
      rw [e0, e2] at q
      dsimp only at q
      cases e3 : s.tree with
      | none => rw [e3] at q; exact q.elim
      | some d =>
        rw [e3] at q
        dsimp only at q
        cases e4 : getIn d path with
        | none => rw [e4] at q; exact q.elim
        | some c0 =>
          rw [e4] at q
          split at q
          · rename_i c' kvs ec
            cases ec
            by_cases qc : c' = c ∧ kvs.length < 1000
            case neg => rw [if_neg qc] at q; exact q.elim
            rw [if_pos qc] at q
            obtain ⟨rfl, ql⟩ := qc
            obtain ⟨p, qa, dx, fs', hv, hp, hq, len, lk, wr⟩ := fld_write sl e0 e3 e4
            split at q
            · rename_i n en
              refine ⟨Hs, ρ, s, d, path, p, sl, e0, e3, hp, e2, fun v hv' => ?_⟩
              rw [hv] at hv'
              cases hv'
              exact ⟨qa, _, dx, fs', .int n, rfl, hq, T.cl, T.n f hf, lk f n en, n, k, rfl, rfl, dx, fs', hq, by rw [len]; exact ql, q σ Hs _ (wr f _ _ (.int (n + k))) (.refl _)⟩
            · exact q.elim
          · exact q.elim
end
end DL
set_option maxHeartbeats 2000000
namespace DL
open PySem PySem.Spec PyProof.Rows L2
end DL
set_option maxHeartbeats 2000000
namespace DL
open PySem PySem.Spec PyProof.Rows L2
section
variable {K : Fg} {P : Pin} {Hs H Hs' H' : Hp}
theorem AftT.up {p q : Addr} {path : List Nat} {d c c' : D} {f fc f' : List Addr} (t : TreP K P Hs H p d f) (tq : Tre K P Hs H (.ref q) (bx c) fc) (inF : ∀ a ∈ fc, a ∈ f)
    (bk : ∀ Hs' H' c' fc', Same Hs Hs' → (∀ a ∈ f, a ∉ fc → (∀ o, H a = some o → H' a = some o) ∧ Hs' a = none) → Tre K P Hs' H' (.ref q) (bx c') fc' → fc'.Nodup → (∀ a ∈ fc', a ∈ fc ∨ a ∉ f) → ∃ f', Tre K P Hs' H' (.ref p) (bx (setIn d path c')) f' ∧ f'.Nodup ∧ ∀ a ∈ f', (a ∈ f ∧ a ∉ fc) ∨ a ∈ fc')
    (af : AftT K P Hs H Hs' H' q c' fc f') : ∃ f2, AftT K P Hs H Hs' H' p (setIn d path c') f f2 := by
  have th : ∀ a ∈ f, OwnAt H a ∧ Hs a = none := fun a m => t.1.there a m
  obtain ⟨f2, t2, nd2, in2⟩ := bk Hs' H' c' f' af.s (fun a m n => ⟨fun o e => af.keep a o e n, by
    obtain ⟨⟨o, e, nt⟩, hn⟩ := th a m
    rcases af.new a with z | z | z | ⟨xs, z⟩
    · exact z
    · exact absurd hn z
    · rw [e] at z; cases z
    · rw [af.keep a o e n] at z
      cases z
      exact absurd rfl (nt xs)⟩) af.t.1 af.t.2.2 fun a m => (af.ff a m).imp id fun z y => by
        obtain ⟨⟨o, e, _⟩, _⟩ := th a y
        rw [e] at z
        cases z
  have hpf : p ∈ f2 := by
    obtain ⟨a, o, hh, g, e1, _, e2, _⟩ := t2.node
    cases e1
    rw [e2]
    exact List.mem_cons_self
  refine ⟨f2, af.s, af.sub, af.new, fun a o e n => af.keep a o e fun z => n (inF a z), fun a m => ?_, ⟨t2, hpf, nd2⟩, fun a m => ?_⟩
  · by_cases z : a ∈ fc
    · exact af.there a z
    · obtain ⟨⟨o, e, _⟩, _⟩ := th a m
      exact ⟨o, af.keep a o e z⟩
  · rcases in2 a m with y | y
    · exact .inl y.1
    · exact (af.ff a y).imp (inF a) id
end
/-- arguments that change nothing -/
def nilQ : En → Option (List D) := fun _ => some []
def consQ (h : En → Option D) (hs : En → Option (List D)) : En → Option (List D) := fun ρ => (h ρ).bind fun z => (hs ρ).map (z :: ·)
def tAQ (K : Fg) (B : Bs) (hs : En → Option (List D)) : TA := fun σ H Q => ∃ Hs ρ zs, Sl K B Hs H σ ρ ∧ hs ρ = some zs ∧ ∀ vs, RepA K Hs vs zs → Q vs H
abbrev PAQ (X : Cx) (B : Bs) (es : List Expr) (hs : En → Option (List D)) : Prop := PA X es (tAQ X.K B hs)
section
variable {X : Cx} {B : Bs} {e : Expr} {es : List Expr} {h : En → Option D} {hs : En → Option (List D)}
theorem paq_nil : PAQ X B [] nilQ := PA.imp pa_nil fun σ H Q ⟨Hs, ρ, zs, sl, ez, q⟩ => by
  cases ez
  exact q [] .nil
theorem paq_cons (h1 : PQ X B e h) (h2 : PAQ X B es hs) (hst : starEach (e :: es) X.env = (false, eval e X.env) :: starEach es X.env := by rfl) : PAQ X B (e :: es) (consQ h hs) := PA.imp (pa_cons h1 h2 hst) fun σ H Q ⟨Hs, ρ, zs, sl, ez, q⟩ => by
  unfold consQ at ez
  obtain ⟨z, e1, e2⟩ := Option.bind_eq_some_iff.mp ez
  obtain ⟨ys, e3, rfl⟩ := Option.map_eq_some_iff.mp e2
  exact ⟨Hs, ρ, z, sl, e1, fun v hv => ⟨Hs, ρ, ys, sl, e3, fun vs hvs => q _ (.cons hv hvs)⟩⟩
end
theorem qlen_nil : ∀ ρ zs, nilQ ρ = some zs → zs.length = 0 := fun ρ zs h => by cases h; rfl
theorem qlen_cons {h : En → Option D} {hs : En → Option (List D)} {n : Nat} (q : ∀ ρ zs, hs ρ = some zs → zs.length = n) : ∀ ρ zs, consQ h hs ρ = some zs → zs.length = n + 1 := fun ρ zs ez => by
  unfold consQ at ez
  obtain ⟨z, e1, e2⟩ := Option.bind_eq_some_iff.mp ez
  obtain ⟨ys, e3, rfl⟩ := Option.map_eq_some_iff.mp e2
  rw [List.length_cons, q ρ ys e3]
/-- a method on a place within a tree: it changes the tree, its answer is no new object -/
def callMP (i : Nat) (g : En → Option (List Nat)) (c m : Str) (F : D → List D → R) (dd : List D) (hs : En → Option (List D)) : EF := fun ρ => match ρ[i]?, g ρ, hs ρ with
  | some s, some path, some zs => (match s.tree with
    | some d => (match getIn d path with
      | some (.dict ((.none, .str c') :: kvs)) => if c' = c ∧ fldIx m kvs = none then (match F (.dict ((.none, .str c') :: kvs)) (zs ++ dd) with
          | .ok y false c1 => .ok (.st y) (ρ.set i (s.putT (setIn d path c1)))
          | .er z c1 => .er z (ρ.set i (s.putT (setIn d path c1)))
          | _ => .bad)
        else .bad
      | _ => .bad)
    | none => .bad)
  | _, _, _ => .bad
section
variable {X : Cx} {B : Bs} {W : WX} {i : Nat} {g : En → Option (List Nat)} {c m : Str} {md : List Md} {FT : D → List D → R} {hs : En → Option (List D)} {o e : Expr} {es : List Expr} {k : Nat} {f : Addr} {ps : List Str} {tails : List (List D)} {flds : List Str} {apos pos : Pos}
theorem argsP {K : Fg} {Hs : Hp} : ∀ {md : List Md} {vs : List V} {ds : List D}, (∀ x ∈ md, x = .p) → md.length = ds.length → RepA K Hs vs ds → ArgsOk K Hs md vs ds
  | [], _, _, _, hl, .nil => .nil
  | [], _, _, _, hl, .cons _ _ => by cases hl
  | _ :: _, _, _, _, hl, .nil => by cases hl
  | x :: md, _, _, h, hl, .cons a b => by
    obtain rfl := h x List.mem_cons_self
    exact .p a (argsP (fun y m => h y (List.mem_cons_of_mem _ m)) (Nat.succ.inj hl) b)
theorem methP_read {dvs : List V} {dd : List D} {t : TA} (hmd : ∀ x ∈ md, x = .p) (hdd : ∀ H, RepA X.K H dvs dd) {σ : L2.St} {H : Hp} {Q : VK} (ht : ∀ σ H (Q : List V → Hp → Prop), tAQ X.K B hs σ H Q → t σ H Q) (hlen : ∀ ρ zs, hs ρ = some zs → md.length = (zs ++ dd).length) (h : tD X.K X.mg B W (callMP i g c m FT dd hs) σ H Q) :
    tMethSD (He.ga X.K c) m (spT X.K X.mg md FT) dvs (WE W) (tRQ X.K B i g) t σ H Q := by
  obtain ⟨Hs, ρ, sl, q⟩ := h
  unfold callMP at q
  cases e0 : ρ[i]? with
  | none => rw [e0] at q; exact q.elim
  | some s =>
  cases eg : g ρ with
  | none => rw [e0, eg] at q; exact q.elim
  | some path =>
  cases eh : hs ρ with
  | none => rw [e0, eg, eh] at q; exact q.elim
  | some zs =>
  rw [e0, eg, eh] at q
  dsimp only at q
  cases e1 : s.tree with
  | none => rw [e1] at q; exact q.elim
  | some d =>
  rw [e1] at q
  dsimp only at q
  cases e2 : getIn d path with
  | none => rw [e2] at q; exact q.elim
  | some c0 =>
  rw [e2] at q
  split at q
  · rename_i c' kvs ec
    cases ec
    by_cases hc : c' = c ∧ fldIx m kvs = none
    case neg => rw [if_neg hc] at q; exact q.elim
    rw [if_pos hc] at q
    obtain ⟨rfl, hn⟩ := hc
    obtain ⟨F1, fe1⟩ := sl.feet
    obtain ⟨p, ep, tp, _, _⟩ := tree_at sl fe1 e0 e1
    obtain ⟨qa, fc, hv, tq, inF, nd, bk⟩ := Tre.focus path tp.1 tp.2.2 e2
    obtain ⟨dx, fs', gg, hq, _, _, _, ef, tI⟩ := tq.insOf
    refine ⟨Hs, ρ, s, d, path, p, sl, e0, e1, ep, eg, fun v hv' => ?_⟩
    rw [hv] at hv'
    cases hv'
    refine ⟨qa, dx, fs', rfl, hq, tI.no hn, ht _ _ _ ⟨Hs, ρ, zs, sl, eh, fun vs hvs => ?_⟩⟩
    have tqP : TreP X.K B.pin Hs H qa (.dict ((.none, .str c') :: kvs)) fc := ⟨tq, by rw [ef]; exact List.mem_cons_self, nd⟩
    refine ⟨B.pin, Hs, qa, .dict ((.none, .str c') :: kvs), fc, vs ++ dvs, zs ++ dd, rfl, sl.sub, tqP, argsP hmd (hlen ρ zs eh) (hvs.append (hdd Hs)), ?_⟩
    cases eF : FT (.dict ((.none, .str c') :: kvs)) (zs ++ dd) with
    | bad => rw [eF] at q; exact q.elim
    | er z c2 =>
      rw [eF] at q
      intro cls od Hs' H' f' af eo
      obtain ⟨f2, af2⟩ := AftT.up tp tq inF bk af
      exact q cls od Hs' H' (sl.afterT fe1 e0 e1 ep af2) af.s eo
    | ok y fr c2 =>
      rw [eF] at q
      cases fr with
      | false =>
        intro r Hs' H' f' af ro
        obtain ⟨f2, af2⟩ := AftT.up tp tq inF bk af
        exact q Hs' H' (sl.afterT fe1 e0 e1 ep af2) af.s r ro
      | true => exact q.elim
  · exact q.elim
theorem pd_methP (dd : List D) (G : MethOk X.prog X.w X.K X.mg X.base k c m f ps tails (spT X.K X.mg md FT)) (hdd : dd ∈ tails) (T : ClsF X.K c flds) (tk : L2N.Takes X W) (hr : Room k X.A) (ho : PRQ X B o i g) (ha : PAQ X B (e :: es) hs) (hmd : ∀ x ∈ md, x = .p) {n : Nat} (hq : ∀ ρ zs, hs ρ = some zs → zs.length = n) (hl : md.length = n + dd.length) {pl : Sem Bool}
    (hst : starEach (e :: es) X.env = (false, eval e X.env) :: starEach es X.env := by rfl) (hpl : (backTo pos (starEach es X.env)).any (·.1) = false := by rfl)
    (ht : eval (.Call (.Attribute o m apos) (e :: es) [] pos) X.env = (do
      let ov ← eval o X.env
      standAt apos.atName
      let (f, first) ← holding [ov] (getMethod ov m pl)
      callWith pos f first (backTo pos (starEach (e :: es) X.env)) (backToKw pos (keywordEach [] X.env))) := by rfl) :
    PD X B W (.Call (.Attribute o m apos) (e :: es) [] pos) (callMP i g c m FT dd hs) := by
  obtain ⟨fd, hm, F, hb⟩ := G.ex
  obtain ⟨dvs, dsv, h1, h2, h3⟩ := hb dd hdd
  exact PE.imp (pe_methSD (E := WE W) (pl := pl) ho T.cl hm F hr h3 h1 (fun σ => L2N.passAt tk σ) ha hst hpl ht) fun σ H Q h => methP_read hmd h2 (fun _ _ _ z => z) (fun ρ zs e => by rw [List.length_append, hq ρ zs e, hl]) h
end
end DL
set_option maxHeartbeats 2000000
namespace DL
open PySem PySem.Spec PyProof.Rows L2
theorem Shal.insR {K : Fg} {Hs H : Hp} {v : V} {c' : Str} {kvs : List (D × D)} (sh : Shal K Hs H v (.dict ((.none, .str c') :: kvs))) : Rep K Hs v (.dict ((.none, .str c') :: kvs)) := by
  rcases sh with r | ⟨p, ep, cn⟩
  · exact r
  · exfalso
    rcases cn with ⟨ks, _, r⟩ | ⟨ks, es, ee, _⟩ | ⟨ys, es, ee, _⟩
    · generalize hd : ((PyData.none, PyData.str c') :: kvs) = d at r
      cases r with
      | nil => cases hd
      | @cons k _ _ _ _ _ _ => cases k <;> cases hd
    · cases ee
    · cases ee
def eqOD (c : Str) (F : List D → R) : D → D → Option D := fun d e => match d, e with
  | .dict ((.none, .str c1) :: k1), .dict ((.none, .str c2) :: k2) => if c1 = c ∧ c2 = c then (match F [.dict ((.none, .str c1) :: k1), .dict ((.none, .str c2) :: k2)] with
    | .ok (.bool b) false _ => some (.bool b)
    | _ => none) else none
  | _, _ => none
theorem ox_eqO {X : Cx} {c : Str} {f : Addr} {ps : List Str} {tails : List (List D)} {k : Nat} {F : List D → R} (G : MethOk X.prog X.w X.K X.mg X.base k c "__eq__" f ps tails (spD X.K X.mg [.p, .p] F)) (hdd : [] ∈ tails) (hr : Room k X.A) :
    OpX X (compareOp .Eq) (eqOD c F) := fun pins s σ H x y v u Q I rx ry q => by
  obtain ⟨Hs, d, e, z, sm, sx, sy, eg, q⟩ := q
  obtain ⟨fd, hm, FN, hb⟩ := G.ex
  obtain ⟨dvs, dsv, h1, h2, h3⟩ := hb [] hdd
  have h2' := h2 Hs
  cases h2'
  cases h1
  unfold eqOD at eg
  split at eg
  · rename_i c1 k1 c2 k2
    by_cases hc : c1 = c ∧ c2 = c
    case neg => rw [if_neg hc] at eg; cases eg
    rw [if_pos hc] at eg
    obtain ⟨rfl, rfl⟩ := hc
    obtain ⟨a, dx, fs, rfl, ea, ri⟩ := sx.insD sm
    obtain ⟨b, dy, gs, rfl, eb, rj⟩ := sy.insD sm
    obtain rfl : v = Value.ref a := rx
    obtain rfl : u = Value.ref b := ry
    cases eF : F [.dict ((.none, .str c2) :: k1), .dict ((.none, .str c2) :: k2)] with
    | bad => rw [eF] at eg; cases eg
    | er z c3 => rw [eF] at eg; cases eg
    | ok d fr c3 =>
      rw [eF] at eg
      split at eg
      · rename_i n _ e1
        cases e1
        cases eg
        have hsp : spD X.K X.mg [.p, .p] F [.ref a, .ref b] H (fun w H' => ∃ Hs', w = .bl n ∧ Grow Hs H Hs' H') (fun _ _ _ => False) := by
          refine ⟨Hs, [.dict ((.none, .str c2) :: k1), .dict ((.none, .str c2) :: k2)], sm, .p sx.insR (.p sy.insR .nil), ?_⟩
          rw [eF]
          intro w Hs' H' g ro
          exact ⟨Hs', Shal.bl (H := H') (.inl ro), g⟩
        obtain ⟨mA, J, _⟩ := ins_get I.hok ea
        obtain ⟨mB, J', _⟩ := ins_get I.hok eb
        obtain ⟨od, J, _⟩ := J.look
        obtain ⟨od', J', _⟩ := J'.look
        obtain ⟨m, hF⟩ := I.fr
        show wpAny (model X.prog X.w) X.A (richCompare .Eq (.ref a) (.ref b)) (EP X pins σ Q) X.xe s
        refine PySem.W.cmp_K (op := .Eq) (tb := .ref (He.ga X.K c2)) hr.units0 hF I.ok.mod.kin J J'.type (by simp [PySem.W.notFirst]) hm.at_ hm.fn ?_
        have e0 : Env0 X.prog X.w X.K X.mg X.base X.A X.stack s H := I.env0
        have hx : PassesAt (L2N.CX X.prog X.w) X σ (fun _ _ _ => False) := L2N.passAt (W := fun _ _ _ _ => False) DH.takes0N σ
        refine wpAny_call (codeAny_mono (FN.run X.A X.stack s H ⟨[.ref a, .ref b], []⟩ [.ref a, .ref b] [.ref a, .ref b] _ _ hr e0 (by
          have := h3 s [.ref a, .ref b] I.kIn (by simpa using FN.len _ _ _ _ hsp)
          simpa using this) (.cons rfl (.cons rfl .nil)) hsp) fun r s' hq => ?_)
        cases r with
        | error e => exact hx pins H s e s' I hq
        | ok fl =>
          cases fl with
          | next => exact False.elim hq
          | brk => exact False.elim hq
          | cont => exact False.elim hq
          | ret u =>
            obtain ⟨w, H', I', rw', Hs', rfl, g⟩ := I.after hq
            cases rw'
            exact ⟨.bl n, H', I', rfl, q _ Hs' H' g (.bl n)⟩
      · cases eg
  · cases eg
end DL
set_option maxHeartbeats 2000000
namespace DL
open PySem PySem.Spec PyProof.Rows L2
section
variable {X : Cx} {B : Bs} {W : WX} {fa : EF}
theorem RepA.del {K : Fg} {H : Hp} : ∀ {vs : List V} {ds : List D} (k : Nat), RepA K H vs ds → RepA K H (vs.eraseIdx k) (ds.eraseIdx k)
  | _, _, _, .nil => .nil
  | _, _, 0, .cons a b => b
  | _, _, k + 1, .cons a b => .cons a (b.del k)
def popE (i : Nat) (fa : EF) : EF := fun ρ => match (ρ[i]?).bind Slot.lst with
  | some _ => (fa ρ).bind fun x ρ1 => (match x, ρ1[i]? with
    | .st (.int k), some s1 => (match s1.lst with
      | some ds => if 0 ≤ k ∧ k.toNat < ds.length ∧ ds.length ≤ 100000 then (match ds[k.toNat]? with
        | some d => .ok (.st d) (ρ1.set i (s1.put (.list (ds.eraseIdx k.toNat))))
        | none => .bad) else .bad
      | none => .bad)
    | _, _ => .bad)
  | none => .bad
theorem pd_popE {i : Nat} {c : Expr} (h : PE X c (tBM X.K "list" rPopAt (tVar i) (tCons (tD X.K X.mg B W fa) tNil))) : PD X B W c (popE i fa) := PE.imp h fun σ H Q ⟨Hs, ρ, sl, q⟩ => by
  unfold popE at q
  cases e0 : ρ[i]? with
  | none => rw [e0] at q; exact q.elim
  | some s0 =>
    rw [e0, Option.bind_some] at q
    cases hl : s0.lst with
    | none => rw [hl] at q; exact q.elim
    | some ds0 =>
      rw [hl] at q
      dsimp only at q
      obtain ⟨pp, ep, _, ⟨vs0, hv0, _⟩, _⟩ := own_at sl e0 (Slot.lst_cont hl)
      refine ⟨_, ep, .inl ⟨rfl, _, .inl (.inl hv0)⟩, Hs, ρ, sl, OP.imp (OP.bind q) fun x ρ1 Hs1 H1 _ sl1 e1 q1 u hu => ?_⟩
      cases x <;> first | exact q1.elim | skip
      rename_i d0 ex0
      clear ex0
      cases d0 <;> first | exact q1.elim | skip
      rename_i k
      cases e2 : ρ1[i]? with
      | none => rw [e2] at q1; exact q1.elim
      | some s1 =>
        rw [e2] at q1
        dsimp only at q1
        cases hc1 : s1.lst with
        | none => rw [hc1] at q1; exact q1.elim
        | some ds =>
          rw [hc1] at q1
          dsimp only at q1
          by_cases hz : 0 ≤ k ∧ k.toNat < ds.length ∧ ds.length ≤ 100000
          case neg => rw [if_neg hz] at q1; exact q1.elim
          rw [if_pos hz] at q1
          obtain ⟨hk0, hk1, hk2⟩ := hz
          cases ed : ds[k.toNat]? with
          | none => rw [ed] at q1; exact q1.elim
          | some d =>
            rw [ed] at q1
            obtain ⟨p2, ep2, n2, ⟨vs, hv, rv⟩, _⟩ := own_at sl1 e2 (Slot.lst_cont hc1)
            rw [ep] at ep2
            cases ep2
            obtain ⟨v, ev, rd⟩ := rv.get ed
            have ek : u = .int k := Shal.int (H := H1) (.inl hu)
            have hsi : seqIndex? k vs.length = some k.toNat := by
              have := seq_nat (k := k.toNat) (n := vs.length) (by rw [rv.length]; exact hk1)
              rwa [Int.toNat_of_nonneg hk0] at this
            refine ⟨pp, vs, k, k.toNat, v, rfl, by rw [ek], hv, by omega, by omega, hsi, ev, ?_⟩
            exact q1 Hs1 _ (sl1.upd e2 (Slot.lst_cont hc1) ep n2 ⟨_, upd_same, rv.del _⟩) (.refl _) v rd
end
end DL
set_option maxHeartbeats 2000000
namespace DL
open PySem PySem.Spec PyProof.Rows L2
structure InsF (K : Fg) (mg : MG) (c : Str) : Prop where
  g : mg c = some (.ref (He.ga K c))
  ha : PySem.W.findIn K (.ref (He.ga K c)) "__class__" = some (some (.builtin "object.__class__"))
  hn : PySem.W.specialIn K (.builtin "object.__class__") "__get__" = some (some (.builtin "getset_descriptor.__get__"))
  htk : PySem.W.takesIn K (.builtin "object.__class__") = some true
  hm : PySem.W.mroIn K (He.ga K c) (.type "object") = some true
theorem isnB_ok {K : Fg} {mg : MG} {c : Str} (h : isnB c K = true) (g : mg c = some (.ref (He.ga K c))) : InsF K mg c := by
  obtain ⟨h1, h⟩ := He.ba h
  obtain ⟨h2, h⟩ := He.ba h
  obtain ⟨h3, h4⟩ := He.ba h
  exact ⟨g, He.eqO_ok h1, He.eqO_ok h2, of_decide_eq_true h3, of_decide_eq_true h4⟩
def isiOD (c : Str) : D → Option D := fun d => match d with
  | .dict ((.none, .str c') :: _) => if c' = c then some (.bool true) else none
  | _ => none
section
variable {X : Cx} {B : Bs} {W : WX} {c : Expr} {fa : EF} {cn : Str} {fs : List Str}
theorem pd_isiO (T : ClsF X.K cn fs) (I : InsF X.K X.mg cn) (h : PE X c (tCB (rIsi X.K) (tCons (tD X.K X.mg B W fa) (tCons (tC (.ref (He.ga X.K cn))) tNil)))) : PD X B W c (op1 (isiOD cn) fa) := PE.imp h fun σ H Q ⟨Hs, ρ, sl, q⟩ => by
  refine ⟨Hs, ρ, sl, OP.imp (OP.bind q) fun x ρ1 Hs1 H1 _ sl1 e1 q1 v hv => ?_⟩
  cases ex : x.get ρ1 with
  | none => rw [ex] at q1; exact q1.elim
  | some d =>
    rw [ex, Option.bind_some] at q1
    cases ei : isiOD cn d with
    | none => rw [ei] at q1; exact q1.elim
    | some z =>
      rw [ei] at q1
      unfold isiOD at ei
      split at ei
      · rename_i c' kvs
        by_cases hc : c' = cn
        case neg => rw [if_neg hc] at ei; cases ei
        rw [if_pos hc] at ei
        cases ei
        subst hc
        obtain ⟨a, dx, gs, rfl, ea, ri⟩ := (sl1.look hv ex).insD sl1.sub
        refine ⟨.ref a, .ref (He.ga X.K c'), .ref (He.ga X.K c'), .ref (He.ga X.K c'), true, rfl, .own _, .base (.ins ea T.cl I.ha I.hn I.htk I.hm), ?_, ?_⟩
        · unfold PySem.W.kitOne
          rw [if_pos (beq_self_eq_true _)]
        · exact q1 Hs1 H1 sl1 (.refl _) _ (.bl true)
      · cases ei
end
end DL
/-! K35a -/
namespace LW
open PySem PySem.Spec PyProof.Rows L2 DL
structure Tx (K : PySem.W.Frag) (mg : MG) : Prop where
  b_isinstance : mg "isinstance" = none
  b_len : mg "len" = none
  b_list : mg "list" = none
  b_range : mg "range" = none
  b_sorted : mg "sorted" = none
  b_tuple : mg "tuple" = none
  c_FEWEST_HOURS : ∃ t, mg "FEWEST_HOURS" = some (.int (3) t)
  c_LAST_DAY : ∃ t, mg "LAST_DAY" = some (.int (999) t)
  c_MOST_ENTRIES : ∃ t, mg "MOST_ENTRIES" = some (.int (200) t)
  c_MOST_HOURS : ∃ t, mg "MOST_HOURS" = some (.int (15) t)
  c_MOST_SIDE : ∃ t, mg "MOST_SIDE" = some (.int (9) t)
  c_UNTOLD : ∃ t, mg "UNTOLD" = some (.int (-2) t)
  e_BadClock : ExcK K mg "BadClock" (He.ga K "BadClock")
  e_BadDay : ExcK K mg "BadDay" (He.ga K "BadDay")
  e_BadHour : ExcK K mg "BadHour" (He.ga K "BadHour")
  e_BadSquare : ExcK K mg "BadSquare" (He.ga K "BadSquare")
  e_Full : ExcK K mg "Full" (He.ga K "Full")
  o_Log : ClsF K "Log" ["clock", "high", "wide", "rows", "after"]
  i_Log : InsF K mg "Log"
open DH

/-! is_clock -/
abbrev N_is_clock : List Str := ["clock"]
theorem sc_is_clock : FnScope N_is_clock ["clock"] (defScope s_is_clock) := ⟨rfl, rfl, rfl, by decide +kernel, rfl, by decide +kernel, by decide +kernel⟩
def f_is_clock : SF :=
  (retS (andF (chF leD leD (cst (.int (3))) (vr 0) (cst (.int (15)))) (op2 eqD (op2 modD (vr 0) (cst (.int 2))) (cst (.int 1)))))
def F_is_clock : List D → R := runD [.p] 1 f_is_clock
theorem ok_is_clock {P : Program} {w : World} {K : PySem.W.Frag} {mg : MG} {base : Heap} (T : Tx K mg)  (Dk : DefK K mg "is_clock" (He.ga K "is_clock") s_is_clock ["clock"] [[]]) : DefOk P w K mg base 1 "is_clock" (He.ga K "is_clock") ["clock"] [[]] (spD K mg [.p] F_is_clock) :=
  Dk.of (k := 0) sc_is_clock rfl fun cdv A outer s H E B W hr tk => by
    exact (psd_one (psd_ret (pd_and (pd_ch ox_le ox_le (pd_giE (by rfl) T.c_FEWEST_HOURS) (pd_v (pv 0)) (pd_giE (by rfl) T.c_MOST_HOURS)) (pd_one (pd_cmp (ox_eq hr.units) (pd_bin ox_mod (pd_v (pv 0)) pd_int) pd_int (nomark _))))))
/-! need_clock -/
abbrev N_need_clock : List Str := ["clock"]
theorem sc_need_clock : FnScope N_need_clock ["clock"] (defScope s_need_clock) := ⟨rfl, rfl, rfl, by decide +kernel, rfl, by decide +kernel, by decide +kernel⟩
def f_need_clock : SF :=
  (ifS (notB (bF (callF [.p] F_is_clock [] (consF (vr 0) nilF)))) (raiseS ⟨"BadClock", []⟩) nxS)
def F_need_clock : List D → R := runD [.p] 1 f_need_clock
theorem ok_need_clock {P : Program} {w : World} {K : PySem.W.Frag} {mg : MG} {base : Heap} (T : Tx K mg) (G_is_clock : DefOk P w K mg base 1 "is_clock" (He.ga K "is_clock") ["clock"] [[]] (spD K mg [.p] F_is_clock)) (Dk : DefK K mg "need_clock" (He.ga K "need_clock") s_need_clock ["clock"] [[]]) : DefOk P w K mg base 2 "need_clock" (He.ga K "need_clock") ["clock"] [[]] (spD K mg [.p] F_need_clock) :=
  Dk.of (k := 1) sc_need_clock rfl fun cdv A outer s H E B W hr tk => by
    exact (psd_one (psd_if (pb_not (pb_v (pd_cl [] G_is_clock (by simp) tk (hr.mono (by omega)) (by rfl) (pad_cons (pd_v (pv 0)) pad_nil)))) (psd_one (psd_raise0 rfl tk T.e_BadClock.g (pmk_own0 PySem.F.excBase_ValueError T.e_BadClock.x T.e_BadClock.g T.e_BadClock.k (raises_own T.e_BadClock.b T.e_BadClock.t) (by rfl)))) psd_nil))
/-! need_side -/
abbrev N_need_side : List Str := ["many"]
theorem sc_need_side : FnScope N_need_side ["many"] (defScope s_need_side) := ⟨rfl, rfl, rfl, by decide +kernel, rfl, by decide +kernel, by decide +kernel⟩
def f_need_side : SF :=
  (ifS (orB (bF (op2 ltD (vr 0) (cst (.int 1)))) (bF (op2 gtD (vr 0) (cst (.int (9)))))) (raiseS ⟨"BadSquare", []⟩) nxS)
def F_need_side : List D → R := runD [.p] 1 f_need_side
theorem ok_need_side {P : Program} {w : World} {K : PySem.W.Frag} {mg : MG} {base : Heap} (T : Tx K mg)  (Dk : DefK K mg "need_side" (He.ga K "need_side") s_need_side ["many"] [[]]) : DefOk P w K mg base 1 "need_side" (He.ga K "need_side") ["many"] [[]] (spD K mg [.p] F_need_side) :=
  Dk.of (k := 0) sc_need_side rfl fun cdv A outer s H E B W hr tk => by
    exact (psd_one (psd_if (pb_w (pw_o (pb_cmp ox_lt (pd_v (pv 0)) pd_int (nomark _)) (pw_o1 (pb_cmp ox_gt (pd_v (pv 0)) (pd_giE (by rfl) T.c_MOST_SIDE) (nomark _))))) (psd_one (psd_raise0 rfl tk T.e_BadSquare.g (pmk_own0 PySem.F.excBase_ValueError T.e_BadSquare.x T.e_BadSquare.g T.e_BadSquare.k (raises_own T.e_BadSquare.b T.e_BadSquare.t) (by rfl)))) psd_nil))
/-! Log_M_init -/
abbrev N_Log_M_init : List Str := ["self", "clock", "high", "wide"]
theorem sc_Log_M_init : FnScope N_Log_M_init ["self", "clock", "high", "wide"] (defScope s_Log_M_init) := ⟨rfl, rfl, rfl, by decide +kernel, rfl, by decide +kernel, by decide +kernel⟩
def f_Log_M_init : SF :=
  (seqS (exprS (callF [.p] F_need_clock [] (consF (vr 1) nilF)))
  (seqS (exprS (callF [.p] F_need_side [] (consF (vr 2) nilF)))
  (seqS (exprS (callF [.p] F_need_side [] (consF (vr 3) nilF)))
  (seqS (fldS 0 "Log" "clock" (fun _ => some []) (vr 1))
  (seqS (fldS 0 "Log" "high" (fun _ => some []) (vr 2))
  (seqS (fldS 0 "Log" "wide" (fun _ => some []) (vr 3))
  (seqS (fldT 0 "Log" "rows" (fun _ => some []) (ptN dnewC))
  (fldS 0 "Log" "after" (fun _ => some []) (cst (.int 1))))))))))
def F_Log_M_init : D → List D → R := runT [.p, .p, .p] 4 f_Log_M_init
theorem ok_Log_M_init {P : Program} {w : World} {K : PySem.W.Frag} {mg : MG} {base : Heap} (T : Tx K mg) (G_need_clock : DefOk P w K mg base 2 "need_clock" (He.ga K "need_clock") ["clock"] [[]] (spD K mg [.p] F_need_clock)) (G_need_side : DefOk P w K mg base 1 "need_side" (He.ga K "need_side") ["many"] [[]] (spD K mg [.p] F_need_side)) (Dk : MakeK K mg "Log" "Log.__init__" (He.fAd K ("Log", some "__init__")) s_Log_M_init ["self", "clock", "high", "wide"] [[]]) : MakeOk P w K mg base 3 "Log" (He.fAd K ("Log", some "__init__")) ["self", "clock", "high", "wide"] [[]] (spI K mg [.p, .p, .p] F_Log_M_init) :=
  Dk.ofI (k := 2) sc_Log_M_init rfl fun cdv A outer s H E B W hB hr tk => by
    exact (psd_cons (psd_expr (pd_cl [] G_need_clock (by simp) tk (hr.mono (by omega)) (by rfl) (pad_cons (pd_v (pv 1)) pad_nil)))
      (psd_cons (psd_expr (pd_cl [] G_need_side (by simp) tk (hr.mono (by omega)) (by rfl) (pad_cons (pd_v (pv 2)) pad_nil)))
      (psd_cons (psd_expr (pd_cl [] G_need_side (by simp) tk (hr.mono (by omega)) (by rfl) (pad_cons (pd_v (pv 3)) pad_nil)))
      (psd_cons (psd_fldS T.o_Log (by simp) (prq_v (pv 0)) (pd_v (pv 1)))
      (psd_cons (psd_fldS T.o_Log (by simp) (prq_v (pv 0)) (pd_v (pv 2)))
      (psd_cons (psd_fldS T.o_Log (by simp) (prq_v (pv 0)) (pd_v (pv 3)))
      (psd_cons (psd_fldT T.o_Log (by simp) (prq_v (pv 0)) (pt_c pc_dnewK))
      (psd_one (psd_fldS T.o_Log (by simp) (prq_v (pv 0)) pd_int)))))))))
/-! Log_M_entries -/
abbrev N_Log_M_entries : List Str := ["self", "rows", "number", "day"]
theorem sc_Log_M_entries : FnScope N_Log_M_entries ["self"] (defScope s_Log_M_entries) := ⟨rfl, rfl, rfl, by decide +kernel, rfl, by decide +kernel, by decide +kernel⟩
def E_Log_M_entries_1 : EF :=
  (tupF (consF (op2 ixD (op2 dgetD (op1 (fldD "Log" "rows") (vr 0)) (vr 2)) (cst (.int 0))) (consF (vr 2) nilF)))
def C_Log_M_entries_1 : CF :=
  (compX (.nm 2) (List.map (·.2) ([("number", 2)] : List (Str × Nat))) (fun ρ => ((vrQ 0) ρ).bind (fldD "Log" "rows")) yes E_Log_M_entries_1)
def E_Log_M_entries_2 : EF :=
  (op2 addD (tupF (consF (vr 2) nilF)) (op2 dgetD (op1 (fldD "Log" "rows") (vr 0)) (vr 2)))
def C_Log_M_entries_2 : CF :=
  (compC (.tp [(.nm 3), (.nm 2)]) (List.map (·.2) ([("day", 3), ("number", 2)] : List (Str × Nat))) (srcF (vr 1)) yes E_Log_M_entries_2)
def f_Log_M_entries : SF :=
  (seqS (asg 1 (frC (bltC (one sortAD) (consF (frC C_Log_M_entries_1) nilF))))
  (retC C_Log_M_entries_2))
def F_Log_M_entries : List D → R := runD (.p :: []) 4 f_Log_M_entries
theorem ok_Log_M_entries {P : Program} {w : World} {K : PySem.W.Frag} {mg : MG} {base : Heap} (T : Tx K mg)  (Dk : MethK K "Log" "entries" "Log.entries" (He.fAd K ("Log", some "entries")) s_Log_M_entries ["self"] [[]]) : MethOk P w K mg base 1 "Log" "entries" (He.fAd K ("Log", some "entries")) ["self"] [[]] (spD K mg (.p :: []) F_Log_M_entries) :=
  Dk.of (k := 0) sc_Log_M_entries rfl fun cdv A outer s H E B W hr tk => by
    exact (psd_cons (psd_set (i := 1) sc_Log_M_entries.nd rfl (.inl rfl) (pd_fr (pc_blt (cx_sortA (hu2 hr)) (by rfl) T.b_sorted (by decide +kernel) (pad_cons (pd_fr (pc_lcX rfl sc_Log_M_entries.nd (pv_fld T.o_Log (by simp) (pv_v (pv 0))) (blkOk_by (own := [("number", 2)]) (N := N_Log_M_entries) (sc := defScope s_Log_M_entries) (by decide +kernel)) (fun _ _ _ _ _ _ => (pgd_nm (i := 2) sc_Log_M_entries.nd rfl (.inl rfl))) (fun _ _ _ _ _ _ => ptsd_nil) (fun _ _ _ _ _ _ => (pd_tup (pad_cons (pd_ix ix_data (pd_ix (ix_dict hr.units) (pd_fld T.o_Log (by simp) (pd_v (pv 0))) (pd_v (pv 2)) (fun _ _ => rfl)) pd_int (fun _ _ => rfl)) (pad_cons (pd_v (pv 2)) pad_nil)))))) pad_nil))))
      (psd_one (psd_retC (pc_lc rfl sc_Log_M_entries.nd (pid_seq (pd_v (pv 1))) (blkOk_by (own := [("day", 3), ("number", 2)]) (N := N_Log_M_entries) (sc := defScope s_Log_M_entries) (by decide +kernel)) (fun _ _ _ _ _ _ => (pgd_tp rfl (pgsd_cons (pgd_nm (i := 3) sc_Log_M_entries.nd rfl (.inl rfl)) (pgsd_cons (pgd_nm (i := 2) sc_Log_M_entries.nd rfl (.inl rfl)) pgsd_nil)) rfl)) (fun _ _ _ _ _ _ => ptsd_nil) (fun _ _ _ _ _ _ => (pd_bin ox_add (pd_tup (pad_cons (pd_v (pv 2)) pad_nil)) (pd_ix (ix_dict hr.units) (pd_fld T.o_Log (by simp) (pd_v (pv 0))) (pd_v (pv 2)) (fun _ _ => rfl))))))))
/-! Log_M_plain -/
abbrev N_Log_M_plain : List Str := ["self", "entry"]
theorem sc_Log_M_plain : FnScope N_Log_M_plain ["self"] (defScope s_Log_M_plain) := ⟨rfl, rfl, rfl, by decide +kernel, rfl, by decide +kernel, by decide +kernel⟩
def E_Log_M_plain_1 : EF :=
  (slF cutA (vr 1) (some (cst (.int 1))) none)
def C_Log_M_plain_1 : CF :=
  (compC (.nm 1) (List.map (·.2) ([("entry", 1)] : List (Str × Nat))) (srcF (callM "Log" "entries" [] F_Log_M_entries [] (vr 0) nilF)) yes E_Log_M_plain_1)
def f_Log_M_plain : SF :=
  (retS (tupF (consF (op1 (fldD "Log" "clock") (vr 0)) (consF (op1 (fldD "Log" "high") (vr 0)) (consF (op1 (fldD "Log" "wide") (vr 0)) (consF (frC C_Log_M_plain_1) nilF))))))
def F_Log_M_plain : List D → R := runD (.p :: []) 2 f_Log_M_plain
theorem ok_Log_M_plain {P : Program} {w : World} {K : PySem.W.Frag} {mg : MG} {base : Heap} (T : Tx K mg) (G_Log_M_entries : MethOk P w K mg base 1 "Log" "entries" (He.fAd K ("Log", some "entries")) ["self"] [[]] (spD K mg (.p :: []) F_Log_M_entries)) (Dk : MethK K "Log" "plain" "Log.plain" (He.fAd K ("Log", some "plain")) s_Log_M_plain ["self"] [[]]) : MethOk P w K mg base 2 "Log" "plain" (He.fAd K ("Log", some "plain")) ["self"] [[]] (spD K mg (.p :: []) F_Log_M_plain) :=
  Dk.of (k := 1) sc_Log_M_plain rfl fun cdv A outer s H E B W hr tk => by
    exact (psd_one (psd_ret (pd_tup (pad_cons (pd_fld T.o_Log (by simp) (pd_v (pv 0))) (pad_cons (pd_fld T.o_Log (by simp) (pd_v (pv 0))) (pad_cons (pd_fld T.o_Log (by simp) (pd_v (pv 0))) (pad_cons (pd_fr (pc_lc rfl sc_Log_M_plain.nd (pid_seq (pd_meth0 [] G_Log_M_entries (by simp) T.o_Log tk (hr.mono (by omega)) (pd_v (pv 0)))) (blkOk_by (own := [("entry", 1)]) (N := N_Log_M_plain) (sc := defScope s_Log_M_plain) (by decide +kernel)) (fun _ _ _ _ _ _ => (pgd_nm (i := 1) sc_Log_M_plain.nd rfl (.inl rfl))) (fun _ _ _ _ _ _ => ptsd_nil) (fun _ _ _ _ _ _ => (pd_sl (pd_v (pv 1)) (pod_some pd_int) pod_none)))) pad_nil)))))))
/-! Log_M_eq -/
abbrev N_Log_M_eq : List Str := ["self", "other"]
theorem sc_Log_M_eq : FnScope N_Log_M_eq ["self", "other"] (defScope s_Log_M_eq) := ⟨rfl, rfl, rfl, by decide +kernel, rfl, by decide +kernel, by decide +kernel⟩
def f_Log_M_eq : SF :=
  (retS (andF (op1 (isiOD "Log") (vr 1)) (op2 eqD (callM "Log" "plain" [] F_Log_M_plain [] (vr 0) nilF) (callM "Log" "plain" [] F_Log_M_plain [] (vr 1) nilF))))
def F_Log_M_eq : List D → R := runD (.p :: [.p]) 2 f_Log_M_eq
theorem ok_Log_M_eq {P : Program} {w : World} {K : PySem.W.Frag} {mg : MG} {base : Heap} (T : Tx K mg) (G_Log_M_plain : MethOk P w K mg base 2 "Log" "plain" (He.fAd K ("Log", some "plain")) ["self"] [[]] (spD K mg (.p :: []) F_Log_M_plain)) (Dk : MethK K "Log" "__eq__" "Log.__eq__" (He.fAd K ("Log", some "__eq__")) s_Log_M_eq ["self", "other"] [[]]) : MethOk P w K mg base 3 "Log" "__eq__" (He.fAd K ("Log", some "__eq__")) ["self", "other"] [[]] (spD K mg (.p :: [.p]) F_Log_M_eq) :=
  Dk.of (k := 2) sc_Log_M_eq rfl fun cdv A outer s H E B W hr tk => by
    exact (psd_one (psd_ret (pd_and (pd_isiO T.o_Log T.i_Log (pe_callB call_isi (by rfl) T.b_isinstance (by decide +kernel) (pa_cons (pd_v (pv 1)) (pa_cons (pe_glob (v := .ref (He.ga K "Log")) (by rfl) T.i_Log.g rfl) pa_nil)))) (pd_one (pd_cmp (ox_eq hr.units) (pd_meth0 [] G_Log_M_plain (by simp) T.o_Log tk (hr.mono (by omega)) (pd_v (pv 0))) (pd_meth0 [] G_Log_M_plain (by simp) T.o_Log tk (hr.mono (by omega)) (pd_v (pv 1))) (nomark _))))))
/-! need_day -/
abbrev N_need_day : List Str := ["day"]
theorem sc_need_day : FnScope N_need_day ["day"] (defScope s_need_day) := ⟨rfl, rfl, rfl, by decide +kernel, rfl, by decide +kernel, by decide +kernel⟩
def f_need_day : SF :=
  (ifS (orB (bF (op2 ltD (vr 0) (cst (.int 0)))) (bF (op2 gtD (vr 0) (cst (.int (999)))))) (raiseS ⟨"BadDay", []⟩) nxS)
def F_need_day : List D → R := runD [.p] 1 f_need_day
theorem ok_need_day {P : Program} {w : World} {K : PySem.W.Frag} {mg : MG} {base : Heap} (T : Tx K mg)  (Dk : DefK K mg "need_day" (He.ga K "need_day") s_need_day ["day"] [[]]) : DefOk P w K mg base 1 "need_day" (He.ga K "need_day") ["day"] [[]] (spD K mg [.p] F_need_day) :=
  Dk.of (k := 0) sc_need_day rfl fun cdv A outer s H E B W hr tk => by
    exact (psd_one (psd_if (pb_w (pw_o (pb_cmp ox_lt (pd_v (pv 0)) pd_int (nomark _)) (pw_o1 (pb_cmp ox_gt (pd_v (pv 0)) (pd_giE (by rfl) T.c_LAST_DAY) (nomark _))))) (psd_one (psd_raise0 rfl tk T.e_BadDay.g (pmk_own0 PySem.F.excBase_ValueError T.e_BadDay.x T.e_BadDay.g T.e_BadDay.k (raises_own T.e_BadDay.b T.e_BadDay.t) (by rfl)))) psd_nil))
/-! need_one -/
abbrev N_need_one : List Str := ["clock", "one"]
theorem sc_need_one : FnScope N_need_one ["clock", "one"] (defScope s_need_one) := ⟨rfl, rfl, rfl, by decide +kernel, rfl, by decide +kernel, by decide +kernel⟩
def f_need_one : SF :=
  (ifS (orB (bF (op2 ltD (vr 1) (cst (.int (-2))))) (bF (op2 geD (vr 1) (vr 0)))) (raiseS ⟨"BadHour", []⟩) nxS)
def F_need_one : List D → R := runD [.p, .p] 2 f_need_one
theorem ok_need_one {P : Program} {w : World} {K : PySem.W.Frag} {mg : MG} {base : Heap} (T : Tx K mg)  (Dk : DefK K mg "need_one" (He.ga K "need_one") s_need_one ["clock", "one"] [[]]) : DefOk P w K mg base 1 "need_one" (He.ga K "need_one") ["clock", "one"] [[]] (spD K mg [.p, .p] F_need_one) :=
  Dk.of (k := 0) sc_need_one rfl fun cdv A outer s H E B W hr tk => by
    exact (psd_one (psd_if (pb_w (pw_o (pb_cmp ox_lt (pd_v (pv 1)) (pd_giE (by rfl) T.c_UNTOLD) (nomark _)) (pw_o1 (pb_cmp ox_ge (pd_v (pv 1)) (pd_v (pv 0)) (nomark _))))) (psd_one (psd_raise0 rfl tk T.e_BadHour.g (pmk_own0 PySem.F.excBase_ValueError T.e_BadHour.x T.e_BadHour.g T.e_BadHour.k (raises_own T.e_BadHour.b T.e_BadHour.t) (by rfl)))) psd_nil))
/-! Log_M_need_square -/
abbrev N_Log_M_need_square : List Str := ["self", "row", "column"]
theorem sc_Log_M_need_square : FnScope N_Log_M_need_square ["self", "row", "column"] (defScope s_Log_M_need_square) := ⟨rfl, rfl, rfl, by decide +kernel, rfl, by decide +kernel, by decide +kernel⟩
def f_Log_M_need_square : SF :=
  (ifS (orB (bF (op2 ltD (vr 1) (cst (.int 0)))) (orB (bF (op2 geD (vr 1) (op1 (fldD "Log" "high") (vr 0)))) (orB (bF (op2 ltD (vr 2) (cst (.int 0)))) (bF (op2 geD (vr 2) (op1 (fldD "Log" "wide") (vr 0))))))) (raiseS ⟨"BadSquare", []⟩) nxS)
def F_Log_M_need_square : List D → R := runD (.p :: [.p, .p]) 3 f_Log_M_need_square
theorem ok_Log_M_need_square {P : Program} {w : World} {K : PySem.W.Frag} {mg : MG} {base : Heap} (T : Tx K mg)  (Dk : MethK K "Log" "need_square" "Log.need_square" (He.fAd K ("Log", some "need_square")) s_Log_M_need_square ["self", "row", "column"] [[]]) : MethOk P w K mg base 1 "Log" "need_square" (He.fAd K ("Log", some "need_square")) ["self", "row", "column"] [[]] (spD K mg (.p :: [.p, .p]) F_Log_M_need_square) :=
  Dk.of (k := 0) sc_Log_M_need_square rfl fun cdv A outer s H E B W hr tk => by
    exact (psd_one (psd_if (pb_w (pw_o (pb_cmp ox_lt (pd_v (pv 1)) pd_int (nomark _)) (pw_o (pb_cmp ox_ge (pd_v (pv 1)) (pd_fld T.o_Log (by simp) (pd_v (pv 0))) (nomark _)) (pw_o (pb_cmp ox_lt (pd_v (pv 2)) pd_int (nomark _)) (pw_o1 (pb_cmp ox_ge (pd_v (pv 2)) (pd_fld T.o_Log (by simp) (pd_v (pv 0))) (nomark _))))))) (psd_one (psd_raise0 rfl tk T.e_BadSquare.g (pmk_own0 PySem.F.excBase_ValueError T.e_BadSquare.x T.e_BadSquare.g T.e_BadSquare.k (raises_own T.e_BadSquare.b T.e_BadSquare.t) (by rfl)))) psd_nil))
/-! Log_M_add -/
abbrev N_Log_M_add : List Str := ["self", "row", "column", "one", "day"]
theorem sc_Log_M_add : FnScope N_Log_M_add ["self", "row", "column", "one", "day"] (defScope s_Log_M_add) := ⟨rfl, rfl, rfl, by decide +kernel, rfl, by decide +kernel, by decide +kernel⟩
def f_Log_M_add : SF :=
  (seqS (exprS (lendF (callM "Log" "need_square" [.p, .p] F_Log_M_need_square [] (vr 0) (consF (vr 1) (consF (vr 2) nilF)))))
  (seqS (exprS (lendF (callF [.p, .p] F_need_one [] (consF (op1 (fldD "Log" "clock") (vr 0)) (consF (vr 3) nilF)))))
  (seqS (exprS (callF [.p] F_need_day [] (consF (vr 4) nilF)))
  (seqS (ifS (lendB (bF (op2 geD (bltF (one dsizeD) (consF (op1 (fldD "Log" "rows") (vr 0)) nilF)) (cst (.int (200)))))) (raiseS ⟨"Full", []⟩) nxS)
  (seqS (dputR 0 (fldR 0 "Log" "rows" (fun _ => some [])) (op1 (fldD "Log" "after") (vr 0)) (tupF (consF (vr 4) (consF (vr 1) (consF (vr 2) (consF (vr 3) nilF))))))
  (seqS (fldA 0 "Log" "after" (fun _ => some []) (1))
  (retS (lendF (op2 subD (op1 (fldD "Log" "after") (vr 0)) (cst (.int 1)))))))))))
def F_Log_M_add : D → List D → R := runT [.p, .p, .p, .p] 5 f_Log_M_add
theorem ok_Log_M_add {P : Program} {w : World} {K : PySem.W.Frag} {mg : MG} {base : Heap} (T : Tx K mg) (G_need_day : DefOk P w K mg base 1 "need_day" (He.ga K "need_day") ["day"] [[]] (spD K mg [.p] F_need_day)) (G_need_one : DefOk P w K mg base 1 "need_one" (He.ga K "need_one") ["clock", "one"] [[]] (spD K mg [.p, .p] F_need_one)) (G_Log_M_need_square : MethOk P w K mg base 1 "Log" "need_square" (He.fAd K ("Log", some "need_square")) ["self", "row", "column"] [[]] (spD K mg (.p :: [.p, .p]) F_Log_M_need_square)) (Dk : MethK K "Log" "add" "Log.add" (He.fAd K ("Log", some "add")) s_Log_M_add ["self", "row", "column", "one", "day"] [[], [.int (0)]]) : MethOk P w K mg base 2 "Log" "add" (He.fAd K ("Log", some "add")) ["self", "row", "column", "one", "day"] [[], [.int (0)]] (spT K mg [.p, .p, .p, .p] F_Log_M_add) :=
  Dk.ofT (k := 1) sc_Log_M_add rfl fun cdv A outer s H E B W hr tk => by
    exact (psd_cons (psd_expr (pd_lend fun _ => (pd_meth [] G_Log_M_need_square (by simp) T.o_Log tk (hr.mono (by omega)) (pd_v (pv 0)) (pad_cons (pd_v (pv 1)) (pad_cons (pd_v (pv 2)) pad_nil)))))
      (psd_cons (psd_expr (pd_lend fun _ => (pd_cl [] G_need_one (by simp) tk (hr.mono (by omega)) (by rfl) (pad_cons (pd_fld T.o_Log (by simp) (pd_v (pv 0))) (pad_cons (pd_v (pv 3)) pad_nil)))))
      (psd_cons (psd_expr (pd_cl [] G_need_day (by simp) tk (hr.mono (by omega)) (by rfl) (pad_cons (pd_v (pv 4)) pad_nil)))
      (psd_cons (psd_if (pb_lend fun _ => (pb_cmp ox_ge (pd_blt cx_dlen (by rfl) T.b_len boot_len (pad_cons (pd_fld T.o_Log (by simp) (pd_v (pv 0))) pad_nil)) (pd_giE (by rfl) T.c_MOST_ENTRIES) (nomark _))) (psd_one (psd_raise0 rfl tk T.e_Full.g (pmk_own0 PySem.F.excBase_ValueError T.e_Full.x T.e_Full.g T.e_Full.k (raises_own T.e_Full.b T.e_Full.t) (by rfl)))) psd_nil)
      (psd_cons (psd_dputR hr.units (prq_fld T.o_Log (by simp) (prq_v (pv 0))) (fun _ => (pd_fld T.o_Log (by simp) (pd_v (pv 0)))) (pd_tup (pad_cons (pd_v (pv 4)) (pad_cons (pd_v (pv 1)) (pad_cons (pd_v (pv 2)) (pad_cons (pd_v (pv 3)) pad_nil))))))
      (psd_cons (psd_fldA T.o_Log (by simp) (prq_v (pv 0)))
      (psd_one (psd_ret (pd_lend fun _ => (pd_bin ox_sub (pd_fld T.o_Log (by simp) (pd_v (pv 0))) pd_int))))))))))
/-! Log_M_chart -/
abbrev N_Log_M_chart : List Str := ["self", "day", "grid", "number", "when", "row", "column", "one", "line"]
theorem sc_Log_M_chart : FnScope N_Log_M_chart ["self", "day"] (defScope s_Log_M_chart) := ⟨rfl, rfl, rfl, by decide +kernel, rfl, by decide +kernel, by decide +kernel⟩
def E_Log_M_chart_1 : CF :=
  (ptN (op2C mulL (frC (lstC (consF (cst (.int (-2))) nilF))) (op1 (fldD "Log" "wide") (vr 0))))
def C_Log_M_chart_1 : CF :=
  (compT (.nm 5) (List.map (·.2) ([("row", 5)] : List (Str × Nat))) (srcR1 (op1 (fldD "Log" "high") (vr 0))) yes E_Log_M_chart_1)
def B_Log_M_chart_1 : SF :=
  (ifS (bF (op2 leD (vr 4) (vr 1))) (setR 2 (ixR 2 (fun _ => some []) (vrQ 5)) (vrQ 6) (vr 7)) nxS)
def L_Log_M_chart_1 : SF :=
  (forS (.tp [(.nm 3), (.nm 4), (.nm 5), (.nm 6), (.nm 7)]) (srcF (callM "Log" "entries" [] F_Log_M_entries [] (vr 0) nilF)) B_Log_M_chart_1)
def E_Log_M_chart_2 : EF :=
  (bltF (one tupleD) (consF (vr 8) nilF))
def C_Log_M_chart_2 : CF :=
  (compC (.nm 8) (List.map (·.2) ([("line", 8)] : List (Str × Nat))) (srcF (frzT 2)) yes E_Log_M_chart_2)
def f_Log_M_chart : SF :=
  (seqS (exprS (callF [.p] F_need_day [] (consF (vr 1) nilF)))
  (seqS (asgTr 2 C_Log_M_chart_1)
  (seqS L_Log_M_chart_1
  (retS (tupF (consF (op1 (fldD "Log" "clock") (vr 0)) (consF (bltF (one tupleD) (consF (frC C_Log_M_chart_2) nilF)) nilF)))))))
def F_Log_M_chart : List D → R := runD (.p :: [.p]) 9 f_Log_M_chart
theorem ok_Log_M_chart {P : Program} {w : World} {K : PySem.W.Frag} {mg : MG} {base : Heap} (T : Tx K mg) (G_Log_M_entries : MethOk P w K mg base 1 "Log" "entries" (He.fAd K ("Log", some "entries")) ["self"] [[]] (spD K mg (.p :: []) F_Log_M_entries)) (G_need_day : DefOk P w K mg base 1 "need_day" (He.ga K "need_day") ["day"] [[]] (spD K mg [.p] F_need_day)) (Dk : MethK K "Log" "chart" "Log.chart" (He.fAd K ("Log", some "chart")) s_Log_M_chart ["self", "day"] [[], [.int (999)]]) : MethOk P w K mg base 2 "Log" "chart" (He.fAd K ("Log", some "chart")) ["self", "day"] [[], [.int (999)]] (spD K mg (.p :: [.p]) F_Log_M_chart) :=
  Dk.of (k := 1) sc_Log_M_chart rfl fun cdv A outer s H E B W hr tk => by
    exact (psd_cons (psd_expr (pd_cl [] G_need_day (by simp) tk (hr.mono (by omega)) (by rfl) (pad_cons (pd_v (pv 1)) pad_nil)))
      (psd_cons (psd_setLcT (i := 2) rfl sc_Log_M_chart.nd rfl rfl (sw_true rfl rfl rfl (by decide +kernel)) (pid_r1 (by rfl) T.b_range (pd_fld T.o_Log (by simp) (pd_v (pv 0)))) (blkOk_by (own := [("row", 5)]) (N := N_Log_M_chart) (sc := defScope s_Log_M_chart) (by decide +kernel)) (fun _ _ _ _ _ _ => (pgd_nm (i := 5) sc_Log_M_chart.nd rfl (.inl rfl))) (fun _ _ _ _ _ _ => ptsd_nil) (fun _ _ _ _ _ _ => (pt_c (pc_bin on_mulL (pd_fr (pc_lst (pad_cons (pd_giE (by rfl) T.c_UNTOLD) pad_nil))) (pd_fld T.o_Log (by simp) (pd_v (pv 0)))))))
      (psd_cons (psd_for (passes_of rfl) rfl (pid_seq (pd_meth0 [] G_Log_M_entries (by simp) T.o_Log tk (hr.mono (by omega)) (pd_v (pv 0)))) (pgd_tp rfl (pgsd_cons (pgd_nm (i := 3) sc_Log_M_chart.nd rfl (.inl rfl)) (pgsd_cons (pgd_nm (i := 4) sc_Log_M_chart.nd rfl (.inl rfl)) (pgsd_cons (pgd_nm (i := 5) sc_Log_M_chart.nd rfl (.inl rfl)) (pgsd_cons (pgd_nm (i := 6) sc_Log_M_chart.nd rfl (.inl rfl)) (pgsd_cons (pgd_nm (i := 7) sc_Log_M_chart.nd rfl (.inl rfl)) pgsd_nil))))) rfl) (psd_one (psd_if (pb_cmp ox_le (pd_v (pv 4)) (pd_v (pv 1)) (nomark _)) (psd_one (psd_setR (ps_asg (pd_v (pv 7)) (pg_sub (prq_ix (prq_v (pv 2)) (pq_v (pv 5)) (fun _ _ => rfl)) (pq_v (pv 6)) set_list)))) psd_nil)))
      (psd_one (psd_ret (pd_tup (pad_cons (pd_fld T.o_Log (by simp) (pd_v (pv 0))) (pad_cons (pd_bty cx_tuple (by rfl) T.b_tuple (by decide +kernel) (pad_cons (pd_fr (pc_lc rfl sc_Log_M_chart.nd (pid_seq (pd_fT (pv 2))) (blkOk_by (own := [("line", 8)]) (N := N_Log_M_chart) (sc := defScope s_Log_M_chart) (by decide +kernel)) (fun _ _ _ _ _ _ => (pgd_nm (i := 8) sc_Log_M_chart.nd rfl (.inl rfl))) (fun _ _ _ _ _ _ => ptsd_nil) (fun _ _ _ _ _ _ => (pd_bty cx_tuple (by rfl) T.b_tuple (by decide +kernel) (pad_cons (pd_v (pv 8)) pad_nil))))) pad_nil)) pad_nil))))))))
/-! _law_box -/
abbrev N__law_box : List Str := ["_law_script", "_law_seed", "_law_cell"]
theorem sc__law_box : FnScope N__law_box ["_law_script"] (defScope s__law_box) := ⟨rfl, rfl, rfl, by decide +kernel, rfl, by decide +kernel, by decide +kernel⟩
def f_law_box (a : Addr) (ns : List Int) : SF :=
  (seqS (asg 1 (cst (.int 7)))
  (seqS (forS (.nm 2) (srcF (scrF a ns)) (asg 1 (op2 modD (op2 addD (op2 addD (op2 mulD (vr 1) (cst (.int 48271))) (op2 modD (vr 2) (cst (.int 1000003)))) (cst (.int 11))) (cst (.int 2147483647)))))
  (retC (lstC (consF (frC (bltC (one listD) (consF (scrF a ns) nilF))) (consF (cst (.int 0)) (consF (cst (.int 0)) (consF (cst (.int 0)) (consF (vr 1) nilF)))))))))
theorem ok_law_box {P : Program} {w : World} {K : PySem.W.Frag} {mg : MG} {base : Heap} (T : Tx K mg) {fd : FuncData} (Fd : FunD K "_law_box" "_law_box" (defArgs s__law_box) (defBody s__law_box) (defScope s__law_box) [] [] (He.ga K "_law_box") fd) : FnOk P w K mg base (L2N.CX P w) 1 (He.ga K "_law_box") fd ["_law_script"] (spBox K f_law_box 3) :=
  defBox (k := 0) Fd sc__law_box fun ns a cdv A outer s H E B W hr tk hS => by
    exact (psd_cons (psd_set (i := 1) sc__law_box.nd rfl (.inl rfl) pd_int)
      (psd_cons (psd_for (passes_of rfl) rfl (pid_seq (pd_scr hS (pv 0))) (pgd_nm (i := 2) sc__law_box.nd rfl (.inl rfl)) (psd_one (psd_set (i := 1) sc__law_box.nd rfl (.inl rfl) (pd_bin ox_mod (pd_bin ox_add (pd_bin ox_add (pd_bin ox_mul (pd_v (pv 1)) pd_int) (pd_bin ox_mod (pd_v (pv 2)) pd_int)) pd_int) pd_int))))
      (psd_one (psd_retC (pc_lst (pad_cons (pd_fr (pc_bty cx_list (by rfl) T.b_list (by decide +kernel) (pad_cons (pd_scr hS (pv 0)) pad_nil))) (pad_cons pd_int (pad_cons pd_int (pad_cons pd_int (pad_cons (pd_v (pv 1)) pad_nil))))))))))
/-! _law_mixed -/
abbrev N__law_mixed : List Str := ["_law_number", "_law_turn", "_law_base", "_law_more"]
theorem sc__law_mixed : FnScope N__law_mixed ["_law_number", "_law_turn"] (defScope s__law_mixed) := ⟨rfl, rfl, rfl, by decide +kernel, rfl, by decide +kernel, by decide +kernel⟩
def f__law_mixed : SF :=
  (seqS (asg 2 (op2 modD (op2 addD (op2 addD (op2 mulD (vr 0) (cst (.int 7919))) (op2 mulD (vr 1) (cst (.int 104729)))) (cst (.int 17))) (cst (.int 2147483647))))
  (seqS (asg 3 (op2 addD (op2 mulD (vr 1) (cst (.int 31337))) (op2 modD (op2 divD (vr 0) (cst (.int 1009))) (cst (.int 65521)))))
  (retS (op2 divD (op2 modD (op2 addD (op2 mulD (vr 2) (op2 addD (op2 modD (vr 2) (cst (.int 9973))) (cst (.int 1)))) (vr 3)) (cst (.int 998244353))) (cst (.int 11))))))
def F__law_mixed : List D → R := runD [.p, .p] 4 f__law_mixed
theorem ok__law_mixed {P : Program} {w : World} {K : PySem.W.Frag} {mg : MG} {base : Heap} (T : Tx K mg)  (Dk : DefK K mg "_law_mixed" (He.ga K "_law_mixed") s__law_mixed ["_law_number", "_law_turn"] [[]]) : DefOk P w K mg base 1 "_law_mixed" (He.ga K "_law_mixed") ["_law_number", "_law_turn"] [[]] (spD K mg [.p, .p] F__law_mixed) :=
  Dk.of (k := 0) sc__law_mixed rfl fun cdv A outer s H E B W hr tk => by
    exact (psd_cons (psd_set (i := 2) sc__law_mixed.nd rfl (.inl rfl) (pd_bin ox_mod (pd_bin ox_add (pd_bin ox_add (pd_bin ox_mul (pd_v (pv 0)) pd_int) (pd_bin ox_mul (pd_v (pv 1)) pd_int)) pd_int) pd_int))
      (psd_cons (psd_set (i := 3) sc__law_mixed.nd rfl (.inl rfl) (pd_bin ox_add (pd_bin ox_mul (pd_v (pv 1)) pd_int) (pd_bin ox_mod (pd_bin ox_div (pd_v (pv 0)) pd_int) pd_int)))
      (psd_one (psd_ret (pd_bin ox_div (pd_bin ox_mod (pd_bin ox_add (pd_bin ox_mul (pd_v (pv 2)) (pd_bin ox_add (pd_bin ox_mod (pd_v (pv 2)) pd_int) pd_int)) (pd_v (pv 3))) pd_int) pd_int)))))
/-! _law_take -/
abbrev N__law_take : List Str := ["_law_box_here", "_law_many", "_law_rest", "_law_cell"]
theorem sc__law_take : FnScope N__law_take ["_law_box_here", "_law_many"] (defScope s__law_take) := ⟨rfl, rfl, rfl, by decide +kernel, rfl, by decide +kernel, by decide +kernel⟩
def f__law_take : SF :=
  (seqS (setS 0 (cst (.int 3)) (op2 addD (op2 ixD (vr 0) (cst (.int 3))) (cst (.int 1))))
  (seqS (ifS (bF (op2 gtD (op2 ixD (vr 0) (cst (.int 2))) (cst (.int 0)))) (seqS (asg 2 (op2 ixD (vr 0) (cst (.int 2))))
  (seqS (setS 0 (cst (.int 2)) (op2 divD (vr 2) (vr 1)))
  (retS (op2 modD (vr 2) (vr 1))))) nxS)
  (seqS (ifS (bF (op2 geD (op2 ixD (vr 0) (cst (.int 1))) (bltF (one lenD) (consF (op2 ixD (vr 0) (cst (.int 0))) nilF)))) (retS (op2 modD (callF [.p, .p] F__law_mixed [] (consF (op2 ixD (vr 0) (cst (.int 4))) (consF (op2 ixD (vr 0) (cst (.int 3))) nilF))) (vr 1))) nxS)
  (seqS (asg 3 (op2 ixD (op2 ixD (vr 0) (cst (.int 0))) (op2 ixD (vr 0) (cst (.int 1)))))
  (seqS (setS 0 (cst (.int 1)) (op2 addD (op2 ixD (vr 0) (cst (.int 1))) (cst (.int 1))))
  (seqS (ifS (bF (op2 ltD (vr 3) (op2 powD (cst (.int 10)) (cst (.int 18))))) (retS (op2 modD (callF [.p, .p] F__law_mixed [] (consF (op2 addD (vr 3) (op2 ixD (vr 0) (cst (.int 4)))) (consF (op2 ixD (vr 0) (cst (.int 3))) nilF))) (vr 1))) nxS)
  (seqS (setS 0 (cst (.int 2)) (op2 divD (vr 3) (vr 1)))
  (retS (op2 modD (vr 3) (vr 1))))))))))
def F__law_take : D → List D → R := runO [.p] 4 f__law_take
theorem ok__law_take {P : Program} {w : World} {K : PySem.W.Frag} {mg : MG} {base : Heap} (T : Tx K mg) (G__law_mixed : DefOk P w K mg base 1 "_law_mixed" (He.ga K "_law_mixed") ["_law_number", "_law_turn"] [[]] (spD K mg [.p, .p] F__law_mixed)) (Dk : DefK K mg "_law_take" (He.ga K "_law_take") s__law_take ["_law_box_here", "_law_many"] [[]]) : DefOk P w K mg base 2 "_law_take" (He.ga K "_law_take") ["_law_box_here", "_law_many"] [[]] (spO K mg [.p] F__law_take) :=
  Dk.ofO (k := 1) sc__law_take rfl fun cdv A outer s H E B W hr tk => by
    exact (psd_cons (psd_seti (ps_asg (pd_bin ox_add (pd_ix ix_data (pd_v (pv 0)) pd_int (fun _ _ => rfl)) pd_int) (pg_sub (pv 0) pd_int set_list)))
      (psd_cons (psd_if (pb_cmp ox_gt (pd_ix ix_data (pd_v (pv 0)) pd_int (fun _ _ => rfl)) pd_int (nomark _)) (psd_cons (psd_set (i := 2) sc__law_take.nd rfl (.inl rfl) (pd_ix ix_data (pd_v (pv 0)) pd_int (fun _ _ => rfl)))
      (psd_cons (psd_seti (ps_asg (pd_bin ox_div (pd_v (pv 2)) (pd_v (pv 1))) (pg_sub (pv 0) pd_int set_list)))
      (psd_one (psd_ret (pd_bin ox_mod (pd_v (pv 2)) (pd_v (pv 1))))))) psd_nil)
      (psd_cons (psd_if (pb_cmp ox_ge (pd_ix ix_data (pd_v (pv 0)) pd_int (fun _ _ => rfl)) (pd_blt cx_len (by rfl) T.b_len boot_len (pad_cons (pd_ix ix_data (pd_v (pv 0)) pd_int (fun _ _ => rfl)) pad_nil)) (nomark _)) (psd_one (psd_ret (pd_bin ox_mod (pd_cl [] G__law_mixed (by simp) tk (hr.mono (by omega)) (by rfl) (pad_cons (pd_ix ix_data (pd_v (pv 0)) pd_int (fun _ _ => rfl)) (pad_cons (pd_ix ix_data (pd_v (pv 0)) pd_int (fun _ _ => rfl)) pad_nil))) (pd_v (pv 1))))) psd_nil)
      (psd_cons (psd_set (i := 3) sc__law_take.nd rfl (.inl rfl) (pd_ix ix_data (pd_ix ix_data (pd_v (pv 0)) pd_int (fun _ _ => rfl)) (pd_ix ix_data (pd_v (pv 0)) pd_int (fun _ _ => rfl)) (fun _ _ => rfl)))
      (psd_cons (psd_seti (ps_asg (pd_bin ox_add (pd_ix ix_data (pd_v (pv 0)) pd_int (fun _ _ => rfl)) pd_int) (pg_sub (pv 0) pd_int set_list)))
      (psd_cons (psd_if (pb_cmp ox_lt (pd_v (pv 3)) (pd_bin ox_pow pd_int pd_int) (nomark _)) (psd_one (psd_ret (pd_bin ox_mod (pd_cl [] G__law_mixed (by simp) tk (hr.mono (by omega)) (by rfl) (pad_cons (pd_bin ox_add (pd_v (pv 3)) (pd_ix ix_data (pd_v (pv 0)) pd_int (fun _ _ => rfl))) (pad_cons (pd_ix ix_data (pd_v (pv 0)) pd_int (fun _ _ => rfl)) pad_nil))) (pd_v (pv 1))))) psd_nil)
      (psd_cons (psd_seti (ps_asg (pd_bin ox_div (pd_v (pv 3)) (pd_v (pv 1))) (pg_sub (pv 0) pd_int set_list)))
      (psd_one (psd_ret (pd_bin ox_mod (pd_v (pv 3)) (pd_v (pv 1))))))))))))
/-! _law_clock -/
abbrev N__law_clock : List Str := ["_law_box_here"]
theorem sc__law_clock : FnScope N__law_clock ["_law_box_here"] (defScope s__law_clock) := ⟨rfl, rfl, rfl, by decide +kernel, rfl, by decide +kernel, by decide +kernel⟩
def f__law_clock : SF :=
  (retS (op2 addD (cst (.int 3)) (op2 mulD (cst (.int 2)) (callO [.p] F__law_take [] (consF (vr 0) (consF (cst (.int 7)) nilF))))))
def F__law_clock : D → List D → R := runO [] 1 f__law_clock
theorem ok__law_clock {P : Program} {w : World} {K : PySem.W.Frag} {mg : MG} {base : Heap} (T : Tx K mg) (G__law_take : DefOk P w K mg base 2 "_law_take" (He.ga K "_law_take") ["_law_box_here", "_law_many"] [[]] (spO K mg [.p] F__law_take)) (Dk : DefK K mg "_law_clock" (He.ga K "_law_clock") s__law_clock ["_law_box_here"] [[]]) : DefOk P w K mg base 3 "_law_clock" (He.ga K "_law_clock") ["_law_box_here"] [[]] (spO K mg [] F__law_clock) :=
  Dk.ofO (k := 2) sc__law_clock rfl fun cdv A outer s H E B W hr tk => by
    exact (psd_one (psd_ret (pd_bin ox_add pd_int (pd_bin ox_mul pd_int (pd_clO [] G__law_take (by simp) tk (hr.mono (by omega)) (by rfl) (pad_cons (pd_v (pv 0)) (pad_cons pd_int pad_nil)))))))
/-! _law_what -/
abbrev N__law_what : List Str := ["_law_chart", "_law_square", "_law_row", "_law_column"]
theorem sc__law_what : FnScope N__law_what ["_law_chart", "_law_square"] (defScope s__law_what) := ⟨rfl, rfl, rfl, by decide +kernel, rfl, by decide +kernel, by decide +kernel⟩
def f__law_what : SF :=
  (seqS (asgT (.tp [(.nm 2), (.nm 3)]) (vr 1))
  (seqS (ifS (andB (bF (chF leD ltD (cst (.int 0)) (vr 2) (bltF (one lenD) (consF (op2 ixD (vr 0) (cst (.int 1))) nilF)))) (bF (chF leD ltD (cst (.int 0)) (vr 3) (bltF (one lenD) (consF (op2 ixD (op2 ixD (vr 0) (cst (.int 1))) (cst (.int 0))) nilF))))) (retS (op2 ixD (op2 ixD (op2 ixD (vr 0) (cst (.int 1))) (vr 2)) (vr 3))) nxS)
  (retS (op1 negD (cst (.int 1))))))
def F__law_what : List D → R := runD [.p, .p] 4 f__law_what
theorem ok__law_what {P : Program} {w : World} {K : PySem.W.Frag} {mg : MG} {base : Heap} (T : Tx K mg)  (Dk : DefK K mg "_law_what" (He.ga K "_law_what") s__law_what ["_law_chart", "_law_square"] [[]]) : DefOk P w K mg base 1 "_law_what" (He.ga K "_law_what") ["_law_chart", "_law_square"] [[]] (spD K mg [.p, .p] F__law_what) :=
  Dk.of (k := 0) sc__law_what rfl fun cdv A outer s H E B W hr tk => by
    exact (psd_cons (psd_asgT (pd_v (pv 1)) (pgd_tp rfl (pgsd_cons (pgd_nm (i := 2) sc__law_what.nd rfl (.inl rfl)) (pgsd_cons (pgd_nm (i := 3) sc__law_what.nd rfl (.inl rfl)) pgsd_nil)) rfl))
      (psd_cons (psd_if (pb_w (pw_a (pb_ch ox_le ox_lt pd_int (pd_v (pv 2)) (pd_blt cx_len (by rfl) T.b_len boot_len (pad_cons (pd_ix ix_data (pd_v (pv 0)) pd_int (fun _ _ => rfl)) pad_nil))) (pw_a1 (pb_ch ox_le ox_lt pd_int (pd_v (pv 3)) (pd_blt cx_len (by rfl) T.b_len boot_len (pad_cons (pd_ix ix_data (pd_ix ix_data (pd_v (pv 0)) pd_int (fun _ _ => rfl)) pd_int (fun _ _ => rfl)) pad_nil)))))) (psd_one (psd_ret (pd_ix ix_data (pd_ix ix_data (pd_ix ix_data (pd_v (pv 0)) pd_int (fun _ _ => rfl)) (pd_v (pv 2)) (fun _ _ => rfl)) (pd_v (pv 3)) (fun _ _ => rfl)))) psd_nil)
      (psd_one (psd_ret (pd_neg pd_int)))))
/-! _law_day -/
abbrev N__law_day : List Str := ["_law_box_here"]
theorem sc__law_day : FnScope N__law_day ["_law_box_here"] (defScope s__law_day) := ⟨rfl, rfl, rfl, by decide +kernel, rfl, by decide +kernel, by decide +kernel⟩
def f__law_day : SF :=
  (retS (op2 ixD (frC (lstC (consF (cst (.int 0)) (consF (cst (.int 5)) (consF (callO [.p] F__law_take [] (consF (vr 0) (consF (cst (.int 9)) nilF))) (consF (callO [.p] F__law_take [] (consF (vr 0) (consF (cst (.int 1000)) nilF))) (consF (cst (.int 999)) nilF))))))) (callO [.p] F__law_take [] (consF (vr 0) (consF (cst (.int 5)) nilF)))))
def F__law_day : D → List D → R := runO [] 1 f__law_day
theorem ok__law_day {P : Program} {w : World} {K : PySem.W.Frag} {mg : MG} {base : Heap} (T : Tx K mg) (G__law_take : DefOk P w K mg base 2 "_law_take" (He.ga K "_law_take") ["_law_box_here", "_law_many"] [[]] (spO K mg [.p] F__law_take)) (Dk : DefK K mg "_law_day" (He.ga K "_law_day") s__law_day ["_law_box_here"] [[]]) : DefOk P w K mg base 3 "_law_day" (He.ga K "_law_day") ["_law_box_here"] [[]] (spO K mg [] F__law_day) :=
  Dk.ofO (k := 2) sc__law_day rfl fun cdv A outer s H E B W hr tk => by
    exact (psd_one (psd_ret (pd_ix ix_data (pd_fr (pc_lst (pad_cons pd_int (pad_cons pd_int (pad_cons (pd_clO [] G__law_take (by simp) tk (hr.mono (by omega)) (by rfl) (pad_cons (pd_v (pv 0)) (pad_cons pd_int pad_nil))) (pad_cons (pd_clO [] G__law_take (by simp) tk (hr.mono (by omega)) (by rfl) (pad_cons (pd_v (pv 0)) (pad_cons pd_int pad_nil))) (pad_cons pd_int pad_nil))))))) (pd_clO [] G__law_take (by simp) tk (hr.mono (by omega)) (by rfl) (pad_cons (pd_v (pv 0)) (pad_cons pd_int pad_nil))) (fun _ _ => rfl))))
/-! _law_one -/
abbrev N__law_one : List Str := ["_law_box_here", "_law_clock_here"]
theorem sc__law_one : FnScope N__law_one ["_law_box_here", "_law_clock_here"] (defScope s__law_one) := ⟨rfl, rfl, rfl, by decide +kernel, rfl, by decide +kernel, by decide +kernel⟩
def f__law_one : SF :=
  (retS (op2 ixD (frC (lstC (consF (callO [.p] F__law_take [] (consF (vr 0) (consF (vr 1) nilF))) (consF (op1 negD (cst (.int 1))) (consF (op1 negD (cst (.int 2))) (consF (cst (.int 0)) (consF (op2 subD (vr 1) (cst (.int 1))) nilF))))))) (op2 modD (callO [.p] F__law_take [] (consF (vr 0) (consF (cst (.int 9)) nilF))) (cst (.int 5)))))
def F__law_one : D → List D → R := runO [.p] 2 f__law_one
theorem ok__law_one {P : Program} {w : World} {K : PySem.W.Frag} {mg : MG} {base : Heap} (T : Tx K mg) (G__law_take : DefOk P w K mg base 2 "_law_take" (He.ga K "_law_take") ["_law_box_here", "_law_many"] [[]] (spO K mg [.p] F__law_take)) (Dk : DefK K mg "_law_one" (He.ga K "_law_one") s__law_one ["_law_box_here", "_law_clock_here"] [[]]) : DefOk P w K mg base 3 "_law_one" (He.ga K "_law_one") ["_law_box_here", "_law_clock_here"] [[]] (spO K mg [.p] F__law_one) :=
  Dk.ofO (k := 2) sc__law_one rfl fun cdv A outer s H E B W hr tk => by
    exact (psd_one (psd_ret (pd_ix ix_data (pd_fr (pc_lst (pad_cons (pd_clO [] G__law_take (by simp) tk (hr.mono (by omega)) (by rfl) (pad_cons (pd_v (pv 0)) (pad_cons (pd_v (pv 1)) pad_nil))) (pad_cons (pd_neg pd_int) (pad_cons (pd_neg pd_int) (pad_cons pd_int (pad_cons (pd_bin ox_sub (pd_v (pv 1)) pd_int) pad_nil))))))) (pd_bin ox_mod (pd_clO [] G__law_take (by simp) tk (hr.mono (by omega)) (by rfl) (pad_cons (pd_v (pv 0)) (pad_cons pd_int pad_nil))) pd_int) (fun _ _ => rfl))))
/-! _law_shuffled -/
abbrev N__law_shuffled : List Str := ["_law_box_here", "_law_rows", "_law_left", "_law_found", "_law_k"]
theorem sc__law_shuffled : FnScope N__law_shuffled ["_law_box_here", "_law_rows"] (defScope s__law_shuffled) := ⟨rfl, rfl, rfl, by decide +kernel, rfl, by decide +kernel, by decide +kernel⟩
def B__law_shuffled_1 : SF :=
  (appS 3 (popE 2 (callO [.p] F__law_take [] (consF (vr 0) (consF (bltF (one lenD) (consF (vr 2) nilF)) nilF)))))
def L__law_shuffled_1 : SF :=
  (forS (.nm 4) (srcR1 (bltF (one lenD) (consF (vr 1) nilF))) B__law_shuffled_1)
def f__law_shuffled : SF :=
  (seqS (asgO 2 (bltC (one listD) (consF (vr 1) nilF)))
  (seqS (asgO 3 (lstC nilF))
  (seqS L__law_shuffled_1
  (retO 3))))
def F__law_shuffled : D → List D → R := runO [.p] 5 f__law_shuffled
theorem ok__law_shuffled {P : Program} {w : World} {K : PySem.W.Frag} {mg : MG} {base : Heap} (T : Tx K mg) (G__law_take : DefOk P w K mg base 2 "_law_take" (He.ga K "_law_take") ["_law_box_here", "_law_many"] [[]] (spO K mg [.p] F__law_take)) (Dk : DefK K mg "_law_shuffled" (He.ga K "_law_shuffled") s__law_shuffled ["_law_box_here", "_law_rows"] [[]]) : DefOk P w K mg base 3 "_law_shuffled" (He.ga K "_law_shuffled") ["_law_box_here", "_law_rows"] [[]] (spO K mg [.p] F__law_shuffled) :=
  Dk.ofO (k := 2) sc__law_shuffled rfl fun cdv A outer s H E B W hr tk => by
    exact (psd_cons (psd_setO (i := 2) sc__law_shuffled.nd rfl (.inl rfl) (pc_bty cx_list (by rfl) T.b_list (by decide +kernel) (pad_cons (pd_v (pv 1)) pad_nil)))
      (psd_cons (psd_setO (i := 3) sc__law_shuffled.nd rfl (.inl rfl) (pc_lst pad_nil))
      (psd_cons (psd_for (passes_of rfl) rfl (pid_r1 (by rfl) T.b_range (pd_blt cx_len (by rfl) T.b_len boot_len (pad_cons (pd_v (pv 1)) pad_nil))) (pgd_nm (i := 4) sc__law_shuffled.nd rfl (.inl rfl)) (psd_one (psd_app (i := 3) (pe_bm PySem.F.plainAttrs_list PySem.F.slot_list_append PySem.F.type_list_append mt_append (pv 3) (pa_cons (pd_popE (pe_bm PySem.F.plainAttrs_list PySem.F.slot_list_pop PySem.F.type_list_pop mt_popAt (pv 2) (pa_cons (pd_clO [] G__law_take (by simp) tk (hr.mono (by omega)) (by rfl) (pad_cons (pd_v (pv 0)) (pad_cons (pd_blt cx_len (by rfl) T.b_len boot_len (pad_cons (pd_v (pv 2)) pad_nil)) pad_nil))) pa_nil))) pa_nil)))))
      (psd_one (psd_retO (pv 3))))))
/-! law -/
abbrev N_law : List Str := ["_law_script", "_law_box_here", "_law_clock_here", "_law_rows", "_law_day_here", "_law_k", "_law_logs", "_law_at", "_law_row", "_law_column", "_law_one_here", "_law_when", "_law_due", "_law_square"]
theorem sc_law : FnScope N_law ["_law_script"] (defScope s_law) := ⟨rfl, rfl, rfl, by decide +kernel, rfl, by decide +kernel, by decide +kernel⟩
def B_law_1 : SF :=
  (seqS (appS 3 (tupF (consF (callO [.p] F__law_take [] (consF (vr 1) (consF (cst (.int 3)) nilF))) (consF (callO [.p] F__law_take [] (consF (vr 1) (consF (cst (.int 3)) nilF))) (consF (callO [.p] F__law_one [] (consF (vr 1) (consF (vr 2) nilF))) (consF (vr 4) nilF))))))
  (asg 4 (op2 addD (op2 addD (vr 4) (cst (.int 1))) (callO [.p] F__law_take [] (consF (vr 1) (consF (cst (.int 30)) nilF))))))
def L_law_1 : SF :=
  (forS (.nm 5) (srcR1 (callO [.p] F__law_take [] (consF (vr 1) (consF (cst (.int 21)) nilF)))) B_law_1)
def B_law_2 : SF :=
  (exprS (callMP 6 (ixR 6 (fun _ => some []) (vrQ 7)) "Log" "add" F_Log_M_add [] (consQ (vrQ 8) (consQ (vrQ 9) (consQ (vrQ 10) (consQ (vrQ 11) nilQ))))))
def L_law_2 : SF :=
  (forS (.tp [(.nm 8), (.nm 9), (.nm 10), (.nm 11)]) (srcF (callO [.p] F__law_shuffled [] (consF (vr 1) (consF (frz 3) nilF)))) B_law_2)
def B_law_3 : SF :=
  L_law_2
def L_law_3 : SF :=
  (forS (.nm 7) (srcR1 (cst (.int 2))) B_law_3)
def B_law_4 : SF :=
  (seqS (exprS (callMP 6 (ixR 6 (fun _ => some []) (fun _ => some (.int 2))) "Log" "add" F_Log_M_add [] (consQ (vrQ 8) (consQ (vrQ 9) (consQ (vrQ 10) (consQ (fun _ => some (.int 4)) nilQ))))))
  (dputS 12 (tupF (consF (vr 8) (consF (vr 9) nilF))) (vr 10)))
def L_law_4 : SF :=
  (forS (.tp [(.nm 8), (.nm 9), (.nm 10), (.nm 11)]) (srcF (callO [.p] F__law_shuffled [] (consF (vr 1) (consF (frz 3) nilF)))) B_law_4)
def B_law_5 : SF :=
  (ifS (bF (op2 neD (callM "Log" "chart" [.p] F_Log_M_chart [] (frzIx 6 (fun _ => some []) (fun _ => some (.int 0))) (consF (vr 11) nilF)) (callM "Log" "chart" [.p] F_Log_M_chart [] (frzIx 6 (fun _ => some []) (fun _ => some (.int 1))) (consF (vr 11) nilF)))) (retS (cst (.bool false))) nxS)
def L_law_5 : SF :=
  (forS (.nm 11) (srcF (tupF (consF (cst (.int 0)) (consF (callO [] F__law_day [] (consF (vr 1) nilF)) (consF (cst (.int 999)) nilF))))) B_law_5)
def B_law_6 : SF :=
  (ifS (bF (op2 neD (callF [.p, .p] F__law_what [] (consF (callM "Log" "chart" [.p] F_Log_M_chart [] (frzIx 6 (fun _ => some []) (fun _ => some (.int 2))) (consF (cst (.int 4)) nilF)) (consF (vr 13) nilF))) (dget2F (vr 12) (vr 13) (op1 negD (cst (.int 2)))))) (retS (cst (.bool false))) nxS)
def L_law_6 : SF :=
  (forS (.nm 13) (srcF (frC (lstC (consF (tupF (consF (cst (.int 0)) (consF (cst (.int 0)) nilF))) (consF (tupF (consF (cst (.int 0)) (consF (cst (.int 1)) nilF))) (consF (tupF (consF (cst (.int 0)) (consF (cst (.int 2)) nilF))) (consF (tupF (consF (cst (.int 1)) (consF (cst (.int 0)) nilF))) (consF (tupF (consF (cst (.int 1)) (consF (cst (.int 1)) nilF))) (consF (tupF (consF (cst (.int 1)) (consF (cst (.int 2)) nilF))) (consF (tupF (consF (cst (.int 2)) (consF (cst (.int 0)) nilF))) (consF (tupF (consF (cst (.int 2)) (consF (cst (.int 1)) nilF))) (consF (tupF (consF (cst (.int 2)) (consF (cst (.int 2)) nilF))) nilF)))))))))))) B_law_6)
def f_law (a : Addr) (ns : List Int) : SF :=
  (seqS (asgO 1 (boxC a (boxD ns) (consF (vr 0) nilF)))
  (seqS (asg 2 (callO [] F__law_clock [] (consF (vr 1) nilF)))
  (seqS (asgO 3 (lstC nilF))
  (seqS (asg 4 (callO [.p] F__law_take [] (consF (vr 1) (consF (cst (.int 9)) nilF))))
  (seqS L_law_1
  (seqS (asgTr 6 (lstT (consT (mkT "Log" [.p, .p, .p] F_Log_M_init [] (consF (vr 2) (consF (cst (.int 3)) (consF (cst (.int 3)) nilF)))) (consT (mkT "Log" [.p, .p, .p] F_Log_M_init [] (consF (vr 2) (consF (cst (.int 3)) (consF (cst (.int 3)) nilF)))) (consT (mkT "Log" [.p, .p, .p] F_Log_M_init [] (consF (vr 2) (consF (cst (.int 3)) (consF (cst (.int 3)) nilF)))) nilT)))))
  (seqS L_law_3
  (seqS (asgO 12 dnewT)
  (seqS L_law_4
  (seqS (ifS (notB (bF (op2 (eqOD "Log" F_Log_M_eq) (frzIx 6 (fun _ => some []) (fun _ => some (.int 0))) (frzIx 6 (fun _ => some []) (fun _ => some (.int 1)))))) (retS (cst (.bool false))) nxS)
  (seqS L_law_5
  (seqS L_law_6
  (retS (op2 eqD (callM "Log" "chart" [.p] F_Log_M_chart [] (frzIx 6 (fun _ => some []) (fun _ => some (.int 2))) (consF (cst (.int 3)) nilF)) (callM "Log" "chart" [.p] F_Log_M_chart [.int (999)] (frzC (mkT "Log" [.p, .p, .p] F_Log_M_init [] (consF (vr 2) (consF (cst (.int 3)) (consF (cst (.int 3)) nilF))))) nilF)))))))))))))))
theorem ok_law {P : Program} {w : World} {K : PySem.W.Frag} {mg : MG} {base : Heap} (T : Tx K mg) (G_law_box : DefBox P w K mg base 1 "_law_box" (He.ga K "_law_box") "_law_script" f_law_box 3) (hB : ∀ (a : Addr) (ns : List Int), ns.length ≤ 63 → ∃ ρ1, f_law_box a ns (.fn a :: List.replicate (3 - 1) .un) = .rt (boxD ns) true ρ1) (G_Log_M_init : MakeOk P w K mg base 3 "Log" (He.fAd K ("Log", some "__init__")) ["self", "clock", "high", "wide"] [[]] (spI K mg [.p, .p, .p] F_Log_M_init)) (G_Log_M_eq : MethOk P w K mg base 3 "Log" "__eq__" (He.fAd K ("Log", some "__eq__")) ["self", "other"] [[]] (spD K mg (.p :: [.p]) F_Log_M_eq)) (G_Log_M_add : MethOk P w K mg base 2 "Log" "add" (He.fAd K ("Log", some "add")) ["self", "row", "column", "one", "day"] [[], [.int (0)]] (spT K mg [.p, .p, .p, .p] F_Log_M_add)) (G_Log_M_chart : MethOk P w K mg base 2 "Log" "chart" (He.fAd K ("Log", some "chart")) ["self", "day"] [[], [.int (999)]] (spD K mg (.p :: [.p]) F_Log_M_chart)) (G__law_take : DefOk P w K mg base 2 "_law_take" (He.ga K "_law_take") ["_law_box_here", "_law_many"] [[]] (spO K mg [.p] F__law_take)) (G__law_clock : DefOk P w K mg base 3 "_law_clock" (He.ga K "_law_clock") ["_law_box_here"] [[]] (spO K mg [] F__law_clock)) (G__law_what : DefOk P w K mg base 1 "_law_what" (He.ga K "_law_what") ["_law_chart", "_law_square"] [[]] (spD K mg [.p, .p] F__law_what)) (G__law_day : DefOk P w K mg base 3 "_law_day" (He.ga K "_law_day") ["_law_box_here"] [[]] (spO K mg [] F__law_day)) (G__law_one : DefOk P w K mg base 3 "_law_one" (He.ga K "_law_one") ["_law_box_here", "_law_clock_here"] [[]] (spO K mg [.p] F__law_one)) (G__law_shuffled : DefOk P w K mg base 3 "_law_shuffled" (He.ga K "_law_shuffled") ["_law_box_here", "_law_rows"] [[]] (spO K mg [.p] F__law_shuffled)) {fd : FuncData} (Fd : FunD K "law" "law" (defArgs s_law) (defBody s_law) (defScope s_law) [] [] (He.ga K "law") fd) : FnOk P w K mg base (L2N.CX P w) 5 (He.ga K "law") fd ["_law_script"] (spLaw K f_law 14) :=
  defLaw Fd sc_law fun ns a cdv A outer s H E B W hr tk hS => by
    exact (psd_cons (psd_setO (i := 1) sc_law.nd rfl (.inl rfl) (pc_box hS G_law_box (hB a ns hS.1) tk (hr.mono (by omega)) (by rfl) (pad_cons (pd_v (pv 0)) pad_nil)))
      (psd_cons (psd_set (i := 2) sc_law.nd rfl (.inl rfl) (pd_clO [] G__law_clock (by simp) tk (hr.mono (by omega)) (by rfl) (pad_cons (pd_v (pv 1)) pad_nil)))
      (psd_cons (psd_setO (i := 3) sc_law.nd rfl (.inl rfl) (pc_lst pad_nil))
      (psd_cons (psd_set (i := 4) sc_law.nd rfl (.inl rfl) (pd_clO [] G__law_take (by simp) tk (hr.mono (by omega)) (by rfl) (pad_cons (pd_v (pv 1)) (pad_cons pd_int pad_nil))))
      (psd_cons (psd_for (passes_of rfl) rfl (pid_r1 (by rfl) T.b_range (pd_clO [] G__law_take (by simp) tk (hr.mono (by omega)) (by rfl) (pad_cons (pd_v (pv 1)) (pad_cons pd_int pad_nil)))) (pgd_nm (i := 5) sc_law.nd rfl (.inl rfl)) (psd_cons (psd_app (i := 3) (pe_bm PySem.F.plainAttrs_list PySem.F.slot_list_append PySem.F.type_list_append mt_append (pv 3) (pa_cons (pd_tup (pad_cons (pd_clO [] G__law_take (by simp) tk (hr.mono (by omega)) (by rfl) (pad_cons (pd_v (pv 1)) (pad_cons pd_int pad_nil))) (pad_cons (pd_clO [] G__law_take (by simp) tk (hr.mono (by omega)) (by rfl) (pad_cons (pd_v (pv 1)) (pad_cons pd_int pad_nil))) (pad_cons (pd_clO [] G__law_one (by simp) tk (hr.mono (by omega)) (by rfl) (pad_cons (pd_v (pv 1)) (pad_cons (pd_v (pv 2)) pad_nil))) (pad_cons (pd_v (pv 4)) pad_nil))))) pa_nil)))
      (psd_one (psd_set (i := 4) sc_law.nd rfl (.inl rfl) (pd_bin ox_add (pd_bin ox_add (pd_v (pv 4)) pd_int) (pd_clO [] G__law_take (by simp) tk (hr.mono (by omega)) (by rfl) (pad_cons (pd_v (pv 1)) (pad_cons pd_int pad_nil))))))))
      (psd_cons (psd_setT (i := 6) sc_law.nd rfl (.inl rfl) (pt_lst (pta_cons (pt_makeI [] G_Log_M_init (by simp) tk (hr.mono (by omega)) (by rfl) (pad_cons (pd_v (pv 2)) (pad_cons pd_int (pad_cons pd_int pad_nil)))) (fun _ => (pta_cons (pt_makeI [] G_Log_M_init (by simp) tk (hr.mono (by omega)) (by rfl) (pad_cons (pd_v (pv 2)) (pad_cons pd_int (pad_cons pd_int pad_nil)))) (fun _ => (pta_cons (pt_makeI [] G_Log_M_init (by simp) tk (hr.mono (by omega)) (by rfl) (pad_cons (pd_v (pv 2)) (pad_cons pd_int (pad_cons pd_int pad_nil)))) (fun _ => pta_nil))))))))
      (psd_cons (psd_for (passes_of rfl) rfl (pid_r1 (by rfl) T.b_range pd_int) (pgd_nm (i := 7) sc_law.nd rfl (.inl rfl)) (psd_one (psd_for (passes_of rfl) rfl (pid_seq (pd_clO [] G__law_shuffled (by simp) tk (hr.mono (by omega)) (by rfl) (pad_cons (pd_v (pv 1)) (pad_cons (pd_f (pv 3)) pad_nil)))) (pgd_tp rfl (pgsd_cons (pgd_nm (i := 8) sc_law.nd rfl (.inl rfl)) (pgsd_cons (pgd_nm (i := 9) sc_law.nd rfl (.inl rfl)) (pgsd_cons (pgd_nm (i := 10) sc_law.nd rfl (.inl rfl)) (pgsd_cons (pgd_nm (i := 11) sc_law.nd rfl (.inl rfl)) pgsd_nil)))) rfl) (psd_one (psd_expr (pd_methP [] G_Log_M_add (by simp) T.o_Log tk (hr.mono (by omega)) (prq_ix (prq_v (pv 6)) (pq_v (pv 7)) (fun _ _ => rfl)) (paq_cons (pq_v (pv 8)) (paq_cons (pq_v (pv 9)) (paq_cons (pq_v (pv 10)) (paq_cons (pq_v (pv 11)) paq_nil)))) (by simp) (qlen_cons (qlen_cons (qlen_cons (qlen_cons qlen_nil)))) rfl))))))
      (psd_cons (psd_setO (i := 12) sc_law.nd rfl (.inl rfl) pc_dnewT)
      (psd_cons (psd_for (passes_of rfl) rfl (pid_seq (pd_clO [] G__law_shuffled (by simp) tk (hr.mono (by omega)) (by rfl) (pad_cons (pd_v (pv 1)) (pad_cons (pd_f (pv 3)) pad_nil)))) (pgd_tp rfl (pgsd_cons (pgd_nm (i := 8) sc_law.nd rfl (.inl rfl)) (pgsd_cons (pgd_nm (i := 9) sc_law.nd rfl (.inl rfl)) (pgsd_cons (pgd_nm (i := 10) sc_law.nd rfl (.inl rfl)) (pgsd_cons (pgd_nm (i := 11) sc_law.nd rfl (.inl rfl)) pgsd_nil)))) rfl) (psd_cons (psd_expr (pd_methP [] G_Log_M_add (by simp) T.o_Log tk (hr.mono (by omega)) (prq_ix (prq_v (pv 6)) pq_int (fun _ _ => rfl)) (paq_cons (pq_v (pv 8)) (paq_cons (pq_v (pv 9)) (paq_cons (pq_v (pv 10)) (paq_cons pq_int paq_nil)))) (by simp) (qlen_cons (qlen_cons (qlen_cons (qlen_cons qlen_nil)))) rfl))
      (psd_one (psd_dput (i := 12) hr.units (pv 12) (pd_tup (pad_cons (pd_v (pv 8)) (pad_cons (pd_v (pv 9)) pad_nil))) (pd_v (pv 10))))))
      (psd_cons (psd_if (pb_not (pb_cmp (ox_eqO G_Log_M_eq (by simp) (hr.mono (by omega))) (pd_frzIx (prq_v (pv 6)) pq_int (fun _ _ => rfl)) (pd_frzIx (prq_v (pv 6)) pq_int (fun _ _ => rfl)) (nomark _))) (psd_one (psd_ret pd_bl)) psd_nil)
      (psd_cons (psd_for (passes_of rfl) rfl (pid_seq (pd_tup (pad_cons pd_int (pad_cons (pd_clO [] G__law_day (by simp) tk (hr.mono (by omega)) (by rfl) (pad_cons (pd_v (pv 1)) pad_nil)) (pad_cons pd_int pad_nil))))) (pgd_nm (i := 11) sc_law.nd rfl (.inl rfl)) (psd_one (psd_if (pb_cmp (ox_ne hr.units) (pd_meth [] G_Log_M_chart (by simp) T.o_Log tk (hr.mono (by omega)) (pd_frzIx (prq_v (pv 6)) pq_int (fun _ _ => rfl)) (pad_cons (pd_v (pv 11)) pad_nil)) (pd_meth [] G_Log_M_chart (by simp) T.o_Log tk (hr.mono (by omega)) (pd_frzIx (prq_v (pv 6)) pq_int (fun _ _ => rfl)) (pad_cons (pd_v (pv 11)) pad_nil)) (nomark _)) (psd_one (psd_ret pd_bl)) psd_nil)))
      (psd_cons (psd_for (passes_of rfl) rfl (pid_seq (pd_fr (pc_lst (pad_cons (pd_tup (pad_cons pd_int (pad_cons pd_int pad_nil))) (pad_cons (pd_tup (pad_cons pd_int (pad_cons pd_int pad_nil))) (pad_cons (pd_tup (pad_cons pd_int (pad_cons pd_int pad_nil))) (pad_cons (pd_tup (pad_cons pd_int (pad_cons pd_int pad_nil))) (pad_cons (pd_tup (pad_cons pd_int (pad_cons pd_int pad_nil))) (pad_cons (pd_tup (pad_cons pd_int (pad_cons pd_int pad_nil))) (pad_cons (pd_tup (pad_cons pd_int (pad_cons pd_int pad_nil))) (pad_cons (pd_tup (pad_cons pd_int (pad_cons pd_int pad_nil))) (pad_cons (pd_tup (pad_cons pd_int (pad_cons pd_int pad_nil))) pad_nil)))))))))))) (pgd_nm (i := 13) sc_law.nd rfl (.inl rfl)) (psd_one (psd_if (pb_cmp (ox_ne hr.units) (pd_cl [] G__law_what (by simp) tk (hr.mono (by omega)) (by rfl) (pad_cons (pd_meth [] G_Log_M_chart (by simp) T.o_Log tk (hr.mono (by omega)) (pd_frzIx (prq_v (pv 6)) pq_int (fun _ _ => rfl)) (pad_cons pd_int pad_nil)) (pad_cons (pd_v (pv 13)) pad_nil))) (pd_dget2 hr.units (pd_v (pv 12)) (pd_v (pv 13)) (pd_neg pd_int) ⟨rfl, rfl, rfl, rfl⟩) (nomark _)) (psd_one (psd_ret pd_bl)) psd_nil)))
      (psd_one (psd_ret (pd_cmp (ox_eq hr.units) (pd_meth [] G_Log_M_chart (by simp) T.o_Log tk (hr.mono (by omega)) (pd_frzIx (prq_v (pv 6)) pq_int (fun _ _ => rfl)) (pad_cons pd_int pad_nil)) (pd_meth0 [.int (999)] G_Log_M_chart (by simp) T.o_Log tk (hr.mono (by omega)) (pd_ft (pt_makeI [] G_Log_M_init (by simp) tk (hr.mono (by omega)) (by rfl) (pad_cons (pd_v (pv 2)) (pad_cons pd_int (pad_cons pd_int pad_nil)))))) (nomark _))))))))))))))))
end LW

/-! K35m -/
namespace LW
open PySem PySem.Spec PyProof.Rows L2 DL DH LamX
/-! ### mirrors: what the law's helpers compute -/
section
variable {α β : Type}
theorem bind_ok (a : α) (r : En) (f : α → En → O β) : O.bind (.ok a r) f = f a r := rfl
theorem bind_er (e : Er) (r : En) (f : α → En → O β) : O.bind (.er e r) f = .er e r := rfl
theorem bind_bad (f : α → En → O β) : O.bind .bad f = .bad := rfl
theorem then_ok (a : α) (r : En) (f : α → En → SO) : O.then (.ok a r) f = f a r := rfl
theorem then_er (e : Er) (r : En) (f : α → En → SO) : O.then (.er e r) f = .er e r := rfl
theorem then_bad (f : α → En → SO) : O.then .bad f = .bad := rfl
theorem opt_some (a : α) (r : En) : opt (some a) r = .ok a r := rfl
theorem opt_none (r : En) : opt (none : Option α) r = .bad := rfl
theorem noEr_ok (a : α) (r : En) : noEr (.ok a r) = .ok a r := rfl
theorem noEr_er (e : Er) (r : En) : noEr (.er e r : O α) = .bad := rfl
end
theorem one_d (g : D → Option D) (d : D) : one g [d] = g d := rfl
theorem add_int (i j : Int) : addD (.int i) (.int j) = some (.int (i + j)) := rfl
theorem sub_int (i j : Int) : subD (.int i) (.int j) = some (.int (i - j)) := rfl
theorem mulOk_r {i j : Int} (h : j.natAbs < 18446744073709551616) : mulOk i j = true := by
  unfold mulOk
  rw [decide_eq_true h, Bool.or_true]
theorem mulOk_l {i j : Int} (h : i.natAbs < 18446744073709551616) : mulOk i j = true := by
  unfold mulOk
  rw [decide_eq_true h, Bool.true_or]
theorem mul_r {i j : Int} (h : j.natAbs < 18446744073709551616) : mulD (.int i) (.int j) = some (.int (i * j)) := if_pos (mulOk_r h)
theorem mul_l {i j : Int} (h : i.natAbs < 18446744073709551616) : mulD (.int i) (.int j) = some (.int (i * j)) := if_pos (mulOk_l h)
theorem mod_p {i j : Int} (h : 0 < j) : modD (.int i) (.int j) = some (.int (i % j)) := if_pos h
theorem div_ok {i j : Int} (h : divOk j = true) : divD (.int i) (.int j) = some (.int (i / j)) := if_pos h
theorem divOk_of {j : Int} (h : 0 < j) (h2 : j < 1000000000000000000000) : divOk j = true := by
  unfold divOk
  rw [decide_eq_true h, Bool.true_and]
  refine decide_eq_true (Nat.lt_of_lt_of_le (m := 70) ?_ (by decide))
  by_cases z : j.natAbs = 0
  · rw [z]; decide
  · exact (Nat.log2_lt z).mpr (by
      have e : (2 : Nat) ^ 70 = 1180591620717411303424 := by decide
      rw [e]
      omega)
theorem pow_n {i : Int} {n : Nat} (h1 : n ≤ 1000000) (h2 : i.natAbs < 18446744073709551616) : powD (.int i) (.int (n : Int)) = some (.int (i ^ n)) := by
  have c : powOk i n = true := by
    unfold powOk
    rw [decide_eq_true (by omega), decide_eq_true (by omega), decide_eq_true h2]
    rfl
  show (if powOk i n = true then some (PyData.int (i ^ (n : Int).toNat)) else none) = _
  rw [if_pos c, Int.toNat_natCast]
def mBase (x t : Int) : Int := (x * 7919 + t * 104729 + 17) % 2147483647
def mixed (x t : Int) : Int := (mBase x t * (mBase x t % 9973 + 1) + (t * 31337 + x / 1009 % 65521)) % 998244353 / 11
theorem mixed_eq (x t : Int) : F__law_mixed [.int x, .int t] = .ok (.int (mixed x t)) false .none := by
  have b1 : (mBase x t).natAbs < 18446744073709551616 := by
    unfold mBase
    have h1 := Int.emod_nonneg (x * 7919 + t * 104729 + 17) (show (2147483647 : Int) ≠ 0 by decide)
    have h2 := Int.emod_lt_of_pos (x * 7919 + t * 104729 + 17) (show (0 : Int) < 2147483647 by decide)
    omega
  simp only [F__law_mixed, f__law_mixed, runD, runO, out0, slots0, List.replicate, List.append_nil, List.cons_append, List.nil_append, List.length_cons, List.length_nil, retS, retC, retO, retN, seqS, ifS, asg, asgO, exprS, appS, setS, augS, asgT, asgL, raiseS, nxS, op1, op2, op2C, tst, andF, orF, ifF, andB, orB, notB, chF, cst, vr, frz, frC, lstC, tupF, consF, nilF, bltF, bltC, one_d, bind_ok, bind_er, bind_bad, then_ok, then_er, then_bad, opt_some, opt_none, Vl.get, Slot.get, Slot.put, Slot.cont, Slot.lst, Slot.mut, Slot.shal, stables, sh, gets, argD, argB, callF, callO, callC, callB, callW, pick, Pk.of, and_self, boxC, partF, slF, srcF, srcR1, srcR2, srcZ, forS, popF, noEr_ok, noEr_er, yes, List.getElem?_cons_zero, List.getElem?_cons_succ, List.set_cons_zero, List.set_cons_succ, Option.bind_some, Option.bind_none, Option.map_some, Option.map_none, if_true, if_false, Bool.false_eq_true, if_pos, List.map_cons, List.map_nil, add_int, sub_int, negD, notD, boolOf, isD, isntD, isNone, Tg.put, Tg.puts, ptN, isN, Nat.add_one_sub_one, Nat.sub_self, Nat.zero_add, Nat.reduceAdd, Nat.reduceSub, mul_r (show (7919 : Int).natAbs < 18446744073709551616 by decide), mul_r (show (104729 : Int).natAbs < 18446744073709551616 by decide), mul_r (show (31337 : Int).natAbs < 18446744073709551616 by decide),
    mod_p (show (0 : Int) < 2147483647 by decide), mod_p (show (0 : Int) < 65521 by decide), mod_p (show (0 : Int) < 9973 by decide), mod_p (show (0 : Int) < 998244353 by decide), div_ok (divOk_of (show (0 : Int) < 1009 by decide) (by decide)), div_ok (divOk_of (show (0 : Int) < 11 by decide) (by decide)), mul_l (show ((x * 7919 + t * 104729 + 17) % 2147483647).natAbs < 18446744073709551616 from b1)]
  rfl
structure Box where
  cells : List Int
  i : Nat
  rest : Int
  turn : Int
  seed : Int
def bD (b : Box) : D := .list [.list (b.cells.map PyData.int), .int (b.i : Int), .int b.rest, .int b.turn, .int b.seed]
def box0 (ns : List Int) : Box := ⟨ns, 0, 0, 0, seedOf ns⟩
theorem boxD_eq (ns : List Int) : boxD ns = bD (box0 ns) := rfl
def take (b : Box) (m : Int) : Int × Box :=
  if 0 < b.rest then (b.rest % m, { b with turn := b.turn + 1, rest := b.rest / m })
  else if b.cells.length ≤ b.i then (mixed b.seed (b.turn + 1) % m, { b with turn := b.turn + 1 })
  else if b.cells.getD b.i 0 < 1000000000000000000 then (mixed (b.cells.getD b.i 0 + b.seed) (b.turn + 1) % m, { b with turn := b.turn + 1, i := b.i + 1 })
  else (b.cells.getD b.i 0 % m, { b with turn := b.turn + 1, i := b.i + 1, rest := b.cells.getD b.i 0 / m })
theorem take_nn (b : Box) {m : Int} (h : 0 < m) : 0 ≤ (take b m).1 := by
  unfold take
  split
  · exact Int.emod_nonneg _ (by omega)
  · split
    · exact Int.emod_nonneg _ (by omega)
    · split
      · exact Int.emod_nonneg _ (by omega)
      · exact Int.emod_nonneg _ (by omega)
theorem take_lt (b : Box) {m : Int} (h : 0 < m) : (take b m).1 < m := by
  unfold take
  split
  · exact Int.emod_lt_of_pos _ h
  · split
    · exact Int.emod_lt_of_pos _ h
    · split
      · exact Int.emod_lt_of_pos _ h
      · exact Int.emod_lt_of_pos _ h
theorem ix0 {a b c d e : D} : ixD (.list [a, b, c, d, e]) (.int 0) = some a := rfl
theorem ix1 {a b c d e : D} : ixD (.list [a, b, c, d, e]) (.int 1) = some b := rfl
theorem ix2 {a b c d e : D} : ixD (.list [a, b, c, d, e]) (.int 2) = some c := rfl
theorem ix3 {a b c d e : D} : ixD (.list [a, b, c, d, e]) (.int 3) = some d := rfl
theorem ix4 {a b c d e : D} : ixD (.list [a, b, c, d, e]) (.int 4) = some e := rfl
theorem iN1 : ixN 5 1 = some 1 := rfl
theorem iN2 : ixN 5 2 = some 2 := rfl
theorem iN3 : ixN 5 3 = some 3 := rfl
theorem ix_at {ds : List D} {i : Nat} {d : D} (h : ds[i]? = some d) : ixD (.list ds) (.int (i : Int)) = some d := atI_nat h
theorem gtI (i j : Int) : cmpI (fun i j => decide (j < i)) (.int i) (.int j) = some (.bool (decide (j < i))) := rfl
theorem geI (i j : Int) : cmpI (fun i j => decide (j ≤ i)) (.int i) (.int j) = some (.bool (decide (j ≤ i))) := rfl
theorem ltI (i j : Int) : cmpI (fun i j => decide (i < j)) (.int i) (.int j) = some (.bool (decide (i < j))) := rfl
theorem leI (i j : Int) : cmpI (fun i j => decide (i ≤ j)) (.int i) (.int j) = some (.bool (decide (i ≤ j))) := rfl
theorem lenL (ds : List D) : lenD (.list ds) = some (.int ds.length) := rfl
theorem pow18 : powD (.int 10) (.int 18) = some (.int 1000000000000000000) := pow_n (n := 18) (by decide) (by decide)
theorem take_eq (b : Box) {m : Int} (h : 0 < m) (h2 : m < 1000000000000000000000) : F__law_take (bD b) [.int m] = .ok (.int (take b m).1) false (bD (take b m).2) := by
  have dv : ∀ x : Int, divD (.int x) (.int m) = some (.int (x / m)) := fun x => div_ok (divOk_of h h2)
  have md : ∀ x : Int, modD (.int x) (.int m) = some (.int (x % m)) := fun x => mod_p h
  obtain ⟨cells, i, rest, turn, seed⟩ := b
  by_cases c1 : 0 < rest
  · simp only [F__law_take, f__law_take, bD, take, runD, runO, out0, slots0, List.replicate, List.append_nil, List.cons_append, List.nil_append, List.length_cons, List.length_nil, retS, retC, retO, retN, seqS, ifS, asg, asgO, exprS, appS, setS, augS, asgT, asgL, raiseS, nxS, op1, op2, op2C, tst, andF, orF, ifF, andB, orB, notB, chF, cst, vr, frz, frC, lstC, tupF, consF, nilF, bltF, bltC, one_d, bind_ok, bind_er, bind_bad, then_ok, then_er, then_bad, opt_some, opt_none, Vl.get, Slot.get, Slot.put, Slot.cont, Slot.lst, Slot.mut, Slot.shal, stables, sh, gets, argD, argB, callF, callO, callC, callB, callW, pick, Pk.of, and_self, boxC, partF, slF, srcF, srcR1, srcR2, srcZ, forS, popF, noEr_ok, noEr_er, yes, List.getElem?_cons_zero, List.getElem?_cons_succ, List.set_cons_zero, List.set_cons_succ, Option.bind_some, Option.bind_none, Option.map_some, Option.map_none, if_true, if_false, Bool.false_eq_true, if_pos, List.map_cons, List.map_nil, add_int, sub_int, negD, notD, boolOf, isD, isntD, isNone, Tg.put, Tg.puts, ptN, isN, Nat.add_one_sub_one, Nat.sub_self, Nat.zero_add, Nat.reduceAdd, Nat.reduceSub, ix0, ix1, ix2, ix3, ix4, iN1, iN2, iN3, gtI, decide_eq_true c1, dv, md, if_pos c1]
    try rfl
  · by_cases c2 : cells.length ≤ i
    · have c2' : ((cells.map PyData.int).length : Int) ≤ (i : Int) := by rw [List.length_map]; omega
      simp only [F__law_take, f__law_take, bD, take, runD, runO, out0, slots0, List.replicate, List.append_nil, List.cons_append, List.nil_append, List.length_cons, List.length_nil, retS, retC, retO, retN, seqS, ifS, asg, asgO, exprS, appS, setS, augS, asgT, asgL, raiseS, nxS, op1, op2, op2C, tst, andF, orF, ifF, andB, orB, notB, chF, cst, vr, frz, frC, lstC, tupF, consF, nilF, bltF, bltC, one_d, bind_ok, bind_er, bind_bad, then_ok, then_er, then_bad, opt_some, opt_none, Vl.get, Slot.get, Slot.put, Slot.cont, Slot.lst, Slot.mut, Slot.shal, stables, sh, gets, argD, argB, callF, callO, callC, callB, callW, pick, Pk.of, and_self, boxC, partF, slF, srcF, srcR1, srcR2, srcZ, forS, popF, noEr_ok, noEr_er, yes, List.getElem?_cons_zero, List.getElem?_cons_succ, List.set_cons_zero, List.set_cons_succ, Option.bind_some, Option.bind_none, Option.map_some, Option.map_none, if_true, if_false, Bool.false_eq_true, if_pos, List.map_cons, List.map_nil, add_int, sub_int, negD, notD, boolOf, isD, isntD, isNone, Tg.put, Tg.puts, ptN, isN, Nat.add_one_sub_one, Nat.sub_self, Nat.zero_add, Nat.reduceAdd, Nat.reduceSub, ix0, ix1, ix2, ix3, ix4, iN1, iN2, iN3, gtI, geI, lenL, decide_eq_false c1, decide_eq_true c2', dv, md, mixed_eq, if_neg c1, if_pos c2]
      try rfl
    · have c2' : ¬ ((cells.map PyData.int).length : Int) ≤ (i : Int) := by rw [List.length_map]; omega
      have e : ixD (.list (cells.map PyData.int)) (.int (i : Int)) = some (.int (cells.getD i 0)) := by
        refine ix_at ?_
        rw [List.getElem?_map, List.getElem?_eq_getElem (by omega), List.getD_eq_getElem?_getD, List.getElem?_eq_getElem (by omega)]
        try rfl
      by_cases c3 : cells.getD i 0 < 1000000000000000000
      · simp only [F__law_take, f__law_take, bD, take, runD, runO, out0, slots0, List.replicate, List.append_nil, List.cons_append, List.nil_append, List.length_cons, List.length_nil, retS, retC, retO, retN, seqS, ifS, asg, asgO, exprS, appS, setS, augS, asgT, asgL, raiseS, nxS, op1, op2, op2C, tst, andF, orF, ifF, andB, orB, notB, chF, cst, vr, frz, frC, lstC, tupF, consF, nilF, bltF, bltC, one_d, bind_ok, bind_er, bind_bad, then_ok, then_er, then_bad, opt_some, opt_none, Vl.get, Slot.get, Slot.put, Slot.cont, Slot.lst, Slot.mut, Slot.shal, stables, sh, gets, argD, argB, callF, callO, callC, callB, callW, pick, Pk.of, and_self, boxC, partF, slF, srcF, srcR1, srcR2, srcZ, forS, popF, noEr_ok, noEr_er, yes, List.getElem?_cons_zero, List.getElem?_cons_succ, List.set_cons_zero, List.set_cons_succ, Option.bind_some, Option.bind_none, Option.map_some, Option.map_none, if_true, if_false, Bool.false_eq_true, if_pos, List.map_cons, List.map_nil, add_int, sub_int, negD, notD, boolOf, isD, isntD, isNone, Tg.put, Tg.puts, ptN, isN, Nat.add_one_sub_one, Nat.sub_self, Nat.zero_add, Nat.reduceAdd, Nat.reduceSub, ix0, ix1, ix2, ix3, ix4, iN1, iN2, iN3, gtI, geI, ltI, lenL, decide_eq_false c1, decide_eq_false c2', decide_eq_true c3, e, pow18, dv, md, mixed_eq, if_neg c1, if_neg c2, if_pos c3]
        try rfl
      · simp only [F__law_take, f__law_take, bD, take, runD, runO, out0, slots0, List.replicate, List.append_nil, List.cons_append, List.nil_append, List.length_cons, List.length_nil, retS, retC, retO, retN, seqS, ifS, asg, asgO, exprS, appS, setS, augS, asgT, asgL, raiseS, nxS, op1, op2, op2C, tst, andF, orF, ifF, andB, orB, notB, chF, cst, vr, frz, frC, lstC, tupF, consF, nilF, bltF, bltC, one_d, bind_ok, bind_er, bind_bad, then_ok, then_er, then_bad, opt_some, opt_none, Vl.get, Slot.get, Slot.put, Slot.cont, Slot.lst, Slot.mut, Slot.shal, stables, sh, gets, argD, argB, callF, callO, callC, callB, callW, pick, Pk.of, and_self, boxC, partF, slF, srcF, srcR1, srcR2, srcZ, forS, popF, noEr_ok, noEr_er, yes, List.getElem?_cons_zero, List.getElem?_cons_succ, List.set_cons_zero, List.set_cons_succ, Option.bind_some, Option.bind_none, Option.map_some, Option.map_none, if_true, if_false, Bool.false_eq_true, if_pos, List.map_cons, List.map_nil, add_int, sub_int, negD, notD, boolOf, isD, isntD, isNone, Tg.put, Tg.puts, ptN, isN, Nat.add_one_sub_one, Nat.sub_self, Nat.zero_add, Nat.reduceAdd, Nat.reduceSub, ix0, ix1, ix2, ix3, ix4, iN1, iN2, iN3, gtI, geI, ltI, lenL, decide_eq_false c1, decide_eq_false c2', decide_eq_false c3, e, pow18, dv, md, mixed_eq, if_neg c1, if_neg c2, if_neg c3]
        try rfl

/-! ### loops -/
def SO.step (o : SO) (Q : En → Prop) : Prop := match o with
  | .nx ρ => Q ρ
  | .ct ρ => Q ρ
  | _ => False
theorem step_nx {ρ : En} {Q : En → Prop} : SO.step (.nx ρ) Q = Q ρ := rfl
theorem step_ct {ρ : En} {Q : En → Prop} : SO.step (.ct ρ) Q = Q ρ := rfl
theorem for_run {t : Tg} {body : SF} : ∀ (ds : List D) (ρ : En) (I : Nat → En → Prop), I 0 ρ →
    (∀ k d ρ, ds[k]? = some d → I k ρ → ∃ ρ1, Tg.put t d ρ = some ρ1 ∧ SO.step (body ρ1) (I (k + 1))) → ∃ ρ', forLoop t body ds ρ = .nx ρ' ∧ I ds.length ρ'
  | [], ρ, I, h0, _ => ⟨ρ, rfl, h0⟩
  | d :: ds, ρ, I, h0, hs => by
    obtain ⟨ρ1, e1, h1⟩ := hs 0 d ρ rfl h0
    unfold forLoop
    rw [e1]
    dsimp only
    cases e2 : body ρ1 with
    | nx ρ2 =>
      rw [e2] at h1
      obtain ⟨ρ', a, b⟩ := for_run ds ρ2 (fun k => I (k + 1)) h1 fun k d ρ e i => hs (k + 1) d ρ e i
      exact ⟨ρ', a, b⟩
    | ct ρ2 =>
      rw [e2] at h1
      obtain ⟨ρ', a, b⟩ := for_run ds ρ2 (fun k => I (k + 1)) h1 fun k d ρ e i => hs (k + 1) d ρ e i
      exact ⟨ρ', a, b⟩
    | _ => rw [e2] at h1; exact h1.elim
/-- f runs through, into Q -/
def Nx (f : SF) (ρ : En) (Q : En → Prop) : Prop := ∃ ρ', f ρ = .nx ρ' ∧ Q ρ'
def Rt (f : SF) (ρ : En) : Prop := ∃ ρ', f ρ = .rt (.bool true) false ρ'
theorem Nx.seq {f g : SF} {ρ : En} {P Q : En → Prop} (h : Nx f ρ P) (k : ∀ ρ', P ρ' → Nx g ρ' Q) : Nx (seqS f g) ρ Q := by
  obtain ⟨ρ', e, p⟩ := h
  obtain ⟨ρ2, e2, q⟩ := k ρ' p
  exact ⟨ρ2, by simp only [seqS, e, e2], q⟩
theorem Rt.seq {f g : SF} {ρ : En} {P : En → Prop} (h : Nx f ρ P) (k : ∀ ρ', P ρ' → Rt g ρ') : Rt (seqS f g) ρ := by
  obtain ⟨ρ', e, p⟩ := h
  obtain ⟨ρ2, e2⟩ := k ρ' p
  exact ⟨ρ2, by simp only [seqS, e, e2]⟩
theorem Nx.of {f : SF} {ρ : En} {Q : En → Prop} (h : SO.step (f ρ) Q) (n : ∀ ρ', f ρ ≠ .ct ρ') : Nx f ρ Q := by
  cases e : f ρ with
  | nx r => rw [e] at h; exact ⟨r, e, h⟩
  | ct r => exact absurd e (n r)
  | _ => rw [e] at h; exact h.elim
theorem Nx.eq {f : SF} {ρ ρ' : En} {Q : En → Prop} (h : f ρ = .nx ρ') (q : Q ρ') : Nx f ρ Q := ⟨ρ', h, q⟩
/-! ### the box -/
theorem law_box_run (a : Addr) (ns : List Int) (h : ns.length ≤ 63) : ∃ ρ1, f_law_box a ns (.fn a :: List.replicate (N__law_box.length - 1) .un) = .rt (boxD ns) true ρ1 := by
  have loop : ∀ (ns : List Int) (s : Int) (x : Slot), ∃ y, forLoop (.nm 2) (asg 1 (op2 modD (op2 addD (op2 addD (op2 mulD (vr 1) (cst (.int 48271))) (op2 modD (vr 2) (cst (.int 1000003)))) (cst (.int 11))) (cst (.int 2147483647)))) (ns.map PyData.int) [.fn a, .val (.int s), x]
      = .nx [.fn a, .val (.int (ns.foldl (fun s c => (s * 48271 + c % 1000003 + 11) % 2147483647) s)), y] := by
    intro ns
    induction ns with
    | nil => exact fun s x => ⟨x, rfl⟩
    | cons n ns ih =>
      intro s x
      obtain ⟨y, hy⟩ := ih ((s * 48271 + n % 1000003 + 11) % 2147483647) (.val (.int n))
      refine ⟨y, ?_⟩
      simp only [List.map_cons, forLoop, runD, runO, out0, slots0, List.replicate, List.append_nil, List.cons_append, List.nil_append, List.length_cons, List.length_nil, retS, retC, retO, retN, seqS, ifS, asg, asgO, exprS, appS, setS, augS, asgT, asgL, raiseS, nxS, op1, op2, op2C, tst, andF, orF, ifF, andB, orB, notB, chF, cst, vr, frz, frC, lstC, tupF, consF, nilF, bltF, bltC, one_d, bind_ok, bind_er, bind_bad, then_ok, then_er, then_bad, opt_some, opt_none, Vl.get, Slot.get, Slot.put, Slot.cont, Slot.lst, Slot.mut, Slot.shal, stables, sh, gets, argD, argB, callF, callO, callC, callB, callW, pick, Pk.of, and_self, boxC, partF, slF, srcF, srcR1, srcR2, srcZ, forS, popF, noEr_ok, noEr_er, yes, List.getElem?_cons_zero, List.getElem?_cons_succ, List.set_cons_zero, List.set_cons_succ, Option.bind_some, Option.bind_none, Option.map_some, Option.map_none, if_true, if_false, Bool.false_eq_true, if_pos, List.map_cons, List.map_nil, add_int, sub_int, negD, notD, boolOf, isD, isntD, isNone, Tg.put, Tg.puts, ptN, isN, Nat.add_one_sub_one, Nat.sub_self, Nat.zero_add, Nat.reduceAdd, Nat.reduceSub, mul_r (show (48271 : Int).natAbs < 18446744073709551616 by decide), mod_p (show (0 : Int) < 1000003 by decide), mod_p (show (0 : Int) < 2147483647 by decide)]
      exact hy
  obtain ⟨y, hy⟩ := loop ns 7 .un
  have hs : short (ns.map PyData.int) = true := decide_eq_true (by rw [List.length_map]; omega)
  refine ⟨[.fn a, .val (.int (seedOf ns)), y], ?_⟩
  have e0 : (Slot.fn a :: List.replicate (N__law_box.length - 1) Slot.un) = [.fn a, .un, .un] := rfl
  rw [e0]
  simp only [f_law_box, runD, runO, out0, slots0, List.replicate, List.append_nil, List.cons_append, List.nil_append, List.length_cons, List.length_nil, retS, retC, retO, retN, seqS, ifS, asg, asgO, exprS, appS, setS, augS, asgT, asgL, raiseS, nxS, op1, op2, op2C, tst, andF, orF, ifF, andB, orB, notB, chF, cst, vr, frz, frC, lstC, tupF, consF, nilF, bltF, bltC, one_d, bind_ok, bind_er, bind_bad, then_ok, then_er, then_bad, opt_some, opt_none, Vl.get, Slot.get, Slot.put, Slot.cont, Slot.lst, Slot.mut, Slot.shal, stables, sh, gets, argD, argB, callF, callO, callC, callB, callW, pick, Pk.of, and_self, boxC, partF, slF, srcF, srcR1, srcR2, srcZ, forS, popF, noEr_ok, noEr_er, yes, List.getElem?_cons_zero, List.getElem?_cons_succ, List.set_cons_zero, List.set_cons_succ, Option.bind_some, Option.bind_none, Option.map_some, Option.map_none, if_true, if_false, Bool.false_eq_true, if_pos, List.map_cons, List.map_nil, add_int, sub_int, negD, notD, boolOf, isD, isntD, isNone, Tg.put, Tg.puts, ptN, isN, Nat.add_one_sub_one, Nat.sub_self, Nat.zero_add, Nat.reduceAdd, Nat.reduceSub, scrF, hy]
  simp only [listD, sh, hs, runD, runO, out0, slots0, List.replicate, List.append_nil, List.cons_append, List.nil_append, List.length_cons, List.length_nil, retS, retC, retO, retN, seqS, ifS, asg, asgO, exprS, appS, setS, augS, asgT, asgL, raiseS, nxS, op1, op2, op2C, tst, andF, orF, ifF, andB, orB, notB, chF, cst, vr, frz, frC, lstC, tupF, consF, nilF, bltF, bltC, one_d, bind_ok, bind_er, bind_bad, then_ok, then_er, then_bad, opt_some, opt_none, Vl.get, Slot.get, Slot.put, Slot.cont, Slot.lst, Slot.mut, Slot.shal, stables, sh, gets, argD, argB, callF, callO, callC, callB, callW, pick, Pk.of, and_self, boxC, partF, slF, srcF, srcR1, srcR2, srcZ, forS, popF, noEr_ok, noEr_er, yes, List.getElem?_cons_zero, List.getElem?_cons_succ, List.set_cons_zero, List.set_cons_succ, Option.bind_some, Option.bind_none, Option.map_some, Option.map_none, if_true, if_false, Bool.false_eq_true, if_pos, List.map_cons, List.map_nil, add_int, sub_int, negD, notD, boolOf, isD, isntD, isNone, Tg.put, Tg.puts, ptN, isN, Nat.add_one_sub_one, Nat.sub_self, Nat.zero_add, Nat.reduceAdd, Nat.reduceSub]
  rfl
/-! ### the same -/
theorem eq_int (i j : Int) : eqD (.int i) (.int j) = some (.bool (i == j)) := by
  unfold eqD
  rw [if_pos (show eqOk (.int i) (.int j) = true from rfl)]
  rfl
theorem ne_int (i j : Int) : neD (.int i) (.int j) = some (.bool (!(i == j))) := by
  unfold neD
  rw [if_pos (show eqOk (.int i) (.int j) = true from rfl)]
  rfl
theorem box_start (a : Addr) (ns : List Int) (ρ : En) : asgO 1 (boxC a (boxD ns) (consF (vr 0) nilF)) (.fn a :: ρ) = .nx (.fn a :: ρ.set 0 (.own (bD (box0 ns)))) := by
  simp only [runD, runO, out0, slots0, List.replicate, List.append_nil, List.cons_append, List.nil_append, List.length_cons, List.length_nil, retS, retC, retO, retN, seqS, ifS, asg, asgO, exprS, appS, setS, augS, asgT, asgL, raiseS, nxS, op1, op2, op2C, tst, andF, orF, ifF, andB, orB, notB, chF, cst, vr, frz, frC, lstC, tupF, consF, nilF, bltF, bltC, one_d, bind_ok, bind_er, bind_bad, then_ok, then_er, then_bad, opt_some, opt_none, Vl.get, Slot.get, Slot.put, Slot.cont, Slot.lst, Slot.mut, Slot.shal, stables, sh, gets, argD, argB, callF, callO, callC, callB, callW, pick, Pk.of, and_self, boxC, partF, slF, srcF, srcR1, srcR2, srcZ, forS, popF, noEr_ok, noEr_er, yes, List.getElem?_cons_zero, List.getElem?_cons_succ, List.set_cons_zero, List.set_cons_succ, Option.bind_some, Option.bind_none, Option.map_some, Option.map_none, if_true, if_false, Bool.false_eq_true, if_pos, List.map_cons, List.map_nil, add_int, sub_int, negD, notD, boolOf, isD, isntD, isNone, Tg.put, Tg.puts, ptN, isN, Nat.add_one_sub_one, Nat.sub_self, Nat.zero_add, Nat.reduceAdd, Nat.reduceSub, ← boxD_eq]
theorem at_pick {xs : List Int} {i : Int} (h : 0 ≤ i) (h2 : i < xs.length) : (xs.map PyData.int)[i.toNat]? = some (.int (xs.getD i.toNat 0)) := by
  rw [List.getElem?_map, List.getElem?_eq_getElem (by omega), List.getD_eq_getElem?_getD, List.getElem?_eq_getElem (by omega)]
  rfl
theorem ix_pick (xs : List Int) {i : Int} (h : 0 ≤ i) (h2 : i < xs.length) : ixD (.list (xs.map PyData.int)) (.int i) = some (.int (xs.getD i.toNat 0)) := by
  have e := at_pick h h2
  have e2 : ((i.toNat : Nat) : Int) = i := Int.toNat_of_nonneg h
  rw [← e2]
  exact atI_nat e
theorem sh0  : short [] = true := rfl
theorem sh1 {a0 : D} : short [a0] = true := rfl
theorem sh2 {a0 a1 : D} : short [a0, a1] = true := rfl
theorem sh3 {a0 a1 a2 : D} : short [a0, a1, a2] = true := rfl
theorem sh4 {a0 a1 a2 a3 : D} : short [a0, a1, a2, a3] = true := rfl
theorem sh5 {a0 a1 a2 a3 a4 : D} : short [a0, a1, a2, a3, a4] = true := rfl
theorem sh6 {a0 a1 a2 a3 a4 a5 : D} : short [a0, a1, a2, a3, a4, a5] = true := rfl
theorem sh7 {a0 a1 a2 a3 a4 a5 a6 : D} : short [a0, a1, a2, a3, a4, a5, a6] = true := rfl
theorem sh8 {a0 a1 a2 a3 a4 a5 a6 a7 : D} : short [a0, a1, a2, a3, a4, a5, a6, a7] = true := rfl
theorem sh9 {a0 a1 a2 a3 a4 a5 a6 a7 a8 : D} : short [a0, a1, a2, a3, a4, a5, a6, a7, a8] = true := rfl
theorem sh10 {a0 a1 a2 a3 a4 a5 a6 a7 a8 a9 : D} : short [a0, a1, a2, a3, a4, a5, a6, a7, a8, a9] = true := rfl
theorem sh11 {a0 a1 a2 a3 a4 a5 a6 a7 a8 a9 a10 : D} : short [a0, a1, a2, a3, a4, a5, a6, a7, a8, a9, a10] = true := rfl
theorem sh12 {a0 a1 a2 a3 a4 a5 a6 a7 a8 a9 a10 a11 : D} : short [a0, a1, a2, a3, a4, a5, a6, a7, a8, a9, a10, a11] = true := rfl
theorem sh13 {a0 a1 a2 a3 a4 a5 a6 a7 a8 a9 a10 a11 a12 : D} : short [a0, a1, a2, a3, a4, a5, a6, a7, a8, a9, a10, a11, a12] = true := rfl
theorem sh14 {a0 a1 a2 a3 a4 a5 a6 a7 a8 a9 a10 a11 a12 a13 : D} : short [a0, a1, a2, a3, a4, a5, a6, a7, a8, a9, a10, a11, a12, a13] = true := rfl
theorem sh15 {a0 a1 a2 a3 a4 a5 a6 a7 a8 a9 a10 a11 a12 a13 a14 : D} : short [a0, a1, a2, a3, a4, a5, a6, a7, a8, a9, a10, a11, a12, a13, a14] = true := rfl
theorem sh16 {a0 a1 a2 a3 a4 a5 a6 a7 a8 a9 a10 a11 a12 a13 a14 a15 : D} : short [a0, a1, a2, a3, a4, a5, a6, a7, a8, a9, a10, a11, a12, a13, a14, a15] = true := rfl
theorem ixp5 {a0 a1 a2 a3 a4 i : Int} (h : 0 ≤ i) (h2 : i < 5) : ixD (.list [.int a0, .int a1, .int a2, .int a3, .int a4]) (.int i) = some (.int ([a0, a1, a2, a3, a4].getD i.toNat 0)) := ix_pick [a0, a1, a2, a3, a4] h h2
/-! ### shapes, slices, comprehensions -/
mutual
theorem eqv_self : ∀ d : D, DL.plain d = true → PyData.eqv d d = true
  | .none, _ => rfl
  | .bool b, _ => by cases b <;> rfl
  | .int i, _ => beq_self_eq_true i
  | .str x, _ => beq_self_eq_true x
  | .list ds, h => eqvAll_self ds h
  | .tuple ds, h => eqvAll_self ds h
  | .dict _, h => by cases h
theorem eqvAll_self : ∀ ds : List D, DL.plainA ds = true → PyData.eqvAll ds ds = true
  | [], _ => rfl
  | d :: ds, h => by
    obtain ⟨a, b⟩ := Bool.and_eq_true_iff.mp h
    show (PyData.eqv d d && PyData.eqvAll ds ds) = true
    rw [eqv_self d a, eqvAll_self ds b]
    rfl
end
theorem eq_self {d : D} (h : eqOk d d = true) : eqD d d = some (.bool true) := by
  unfold eqD
  rw [if_pos h, eqv_self d (eq_ok h).1]
theorem ne_self {d : D} (h : eqOk d d = true) : neD d d = some (.bool false) := by
  unfold neD
  rw [if_pos h, eqv_self d (eq_ok h).1]
  rfl
/-- data of depth at most n that may be compared -/
def okN : Nat → D → Bool
  | _, .none => true
  | _, .bool _ => true
  | _, .int _ => true
  | _, .str x => PyData.strOk x
  | n + 1, .list ds => ds.all (okN n)
  | n + 1, .tuple ds => ds.all (okN n)
  | _, _ => false
theorem plainA_of : ∀ {ds : List D}, (∀ d ∈ ds, DL.plain d = true) → DL.plainA ds = true
  | [], _ => rfl
  | d :: ds, h => by
    show (DL.plain d && DL.plainA ds) = true
    rw [h d (List.mem_cons_self ..), plainA_of fun e m => h e (List.mem_cons_of_mem _ m)]
    rfl
theorem layA_of : ∀ {ds : List D}, (∀ d ∈ ds, PyData.canLay0 d = true) → PyData.canLayAll0 ds = true
  | [], _ => by simp only [PyData.canLayAll0]
  | d :: ds, h => by
    simp only [PyData.canLayAll0, h d (List.mem_cons_self ..), layA_of fun e m => h e (List.mem_cons_of_mem _ m), Bool.and_self]
theorem depthA_of {n : Nat} : ∀ {ds : List D}, (∀ d ∈ ds, PyData.depth d ≤ n) → PyData.depthAll ds ≤ n
  | [], _ => by simp only [PyData.depthAll]; omega
  | d :: ds, h => by
    have a := h d (List.mem_cons_self ..)
    have b := depthA_of fun e m => h e (List.mem_cons_of_mem _ m)
    simp only [PyData.depthAll]
    omega
theorem okN_all : ∀ (n : Nat) (d : D), okN n d = true → DL.plain d = true ∧ PyData.canLay0 d = true ∧ PyData.depth d ≤ n
  | _, .none, _ => ⟨rfl, by simp only [PyData.canLay0], by simp only [PyData.depth]; omega⟩
  | _, .bool _, _ => ⟨rfl, by simp only [PyData.canLay0], by simp only [PyData.depth]; omega⟩
  | _, .int _, _ => ⟨rfl, by simp only [PyData.canLay0], by simp only [PyData.depth]; omega⟩
  | n, .str x, h => ⟨rfl, by simp only [PyData.canLay0]; cases n <;> exact h, by simp only [PyData.depth]; omega⟩
  | n + 1, .list ds, h => by
    have q := fun d m => okN_all n d (List.all_eq_true.mp h d m)
    refine ⟨plainA_of fun d m => (q d m).1, ?_, ?_⟩
    · simp only [PyData.canLay0]; exact layA_of fun d m => (q d m).2.1
    · have := depthA_of fun d m => (q d m).2.2
      simp only [PyData.depth]; omega
  | n + 1, .tuple ds, h => by
    have q := fun d m => okN_all n d (List.all_eq_true.mp h d m)
    refine ⟨plainA_of fun d m => (q d m).1, ?_, ?_⟩
    · simp only [PyData.canLay0]; exact layA_of fun d m => (q d m).2.1
    · have := depthA_of fun d m => (q d m).2.2
      simp only [PyData.depth]; omega
  | 0, .list _, h => by cases h
  | 0, .tuple _, h => by cases h
  | 0, .dict _, h => by cases h
  | _ + 1, .dict _, h => by cases h
theorem okN_shaped {n : Nat} {d : D} (hn : n ≤ 64) (h : okN n d = true) : SeqAt.shaped d = true := by
  obtain ⟨_, a, b⟩ := okN_all n d h
  unfold SeqAt.shaped
  rw [a, decide_eq_true (show d.depth ≤ 64 by omega)]
  rfl
theorem okN_eq {n m : Nat} {d e : D} (hn : n ≤ 64) (hm : m ≤ 64) (h : okN n d = true) (g : okN m e = true) : eqOk d e = true := by
  unfold eqOk
  rw [(okN_all n d h).1, (okN_all m e g).1, okN_shaped hn h, okN_shaped hm g]
  rfl
theorem okN_ints (ns : List Int) : okN 1 (.list (ns.map PyData.int)) = true := List.all_eq_true.mpr fun d m => by
  obtain ⟨j, _, e⟩ := List.mem_map.mp m
  subst e
  rfl
theorem okN_tints (ns : List Int) : okN 1 (.tuple (ns.map PyData.int)) = true := okN_ints ns
theorem short_map {α : Type} {f : α → D} {xs : List α} (h : xs.length ≤ 100000) : short (xs.map f) = true := decide_eq_true (by rw [List.length_map]; exact h)
/-! ### clocks -/
structure Clk (c : Int) : Prop where
  lo : 3 ≤ c
  hi : c ≤ 15
  odd : c % 2 = 1

/-! ### is it a clock -/
def isClk (c : Int) : Bool := decide (3 ≤ c) && decide (c ≤ 15) && (c % 2 == 1)
theorem is_clock_eq (c : Int) : F_is_clock [.int c] = .ok (.bool (isClk c)) false .none := by
  unfold isClk
  by_cases h1 : 3 ≤ c
  · by_cases h2 : c ≤ 15
    · simp only [F_is_clock, f_is_clock, runD, runO, out0, slots0, List.replicate, List.append_nil, List.cons_append, List.nil_append, List.length_cons, List.length_nil, retS, retC, retO, retN, seqS, ifS, asg, asgO, exprS, appS, setS, augS, asgT, asgL, raiseS, nxS, op1, op2, op2C, tst, andF, orF, ifF, andB, orB, notB, chF, cst, vr, frz, frC, lstC, tupF, consF, nilF, bltF, bltC, one_d, bind_ok, bind_er, bind_bad, then_ok, then_er, then_bad, opt_some, opt_none, Vl.get, Slot.get, Slot.put, Slot.cont, Slot.lst, Slot.mut, Slot.shal, stables, sh, gets, argD, argB, callF, callO, callC, callB, callW, pick, Pk.of, and_self, boxC, partF, slF, srcF, srcR1, srcR2, srcZ, forS, popF, noEr_ok, noEr_er, yes, List.getElem?_cons_zero, List.getElem?_cons_succ, List.set_cons_zero, List.set_cons_succ, Option.bind_some, Option.bind_none, Option.map_some, Option.map_none, if_true, if_false, Bool.false_eq_true, if_pos, List.map_cons, List.map_nil, add_int, sub_int, negD, notD, boolOf, isD, isntD, isNone, Tg.put, Tg.puts, sh0, sh1, sh2, sh3, sh4, sh5, sh6, sh7, sh8, sh9, sh10, sh11, sh12, sh13, sh14, sh15, sh16, step_nx, step_ct, ptN, isN, Nat.add_one_sub_one, Nat.sub_self, Nat.zero_add, Nat.reduceAdd, Nat.reduceSub, leI, eq_int, mod_p (show (0 : Int) < 2 by decide), decide_eq_true h1, decide_eq_true h2, Bool.true_and]
    · simp only [F_is_clock, f_is_clock, runD, runO, out0, slots0, List.replicate, List.append_nil, List.cons_append, List.nil_append, List.length_cons, List.length_nil, retS, retC, retO, retN, seqS, ifS, asg, asgO, exprS, appS, setS, augS, asgT, asgL, raiseS, nxS, op1, op2, op2C, tst, andF, orF, ifF, andB, orB, notB, chF, cst, vr, frz, frC, lstC, tupF, consF, nilF, bltF, bltC, one_d, bind_ok, bind_er, bind_bad, then_ok, then_er, then_bad, opt_some, opt_none, Vl.get, Slot.get, Slot.put, Slot.cont, Slot.lst, Slot.mut, Slot.shal, stables, sh, gets, argD, argB, callF, callO, callC, callB, callW, pick, Pk.of, and_self, boxC, partF, slF, srcF, srcR1, srcR2, srcZ, forS, popF, noEr_ok, noEr_er, yes, List.getElem?_cons_zero, List.getElem?_cons_succ, List.set_cons_zero, List.set_cons_succ, Option.bind_some, Option.bind_none, Option.map_some, Option.map_none, if_true, if_false, Bool.false_eq_true, if_pos, List.map_cons, List.map_nil, add_int, sub_int, negD, notD, boolOf, isD, isntD, isNone, Tg.put, Tg.puts, sh0, sh1, sh2, sh3, sh4, sh5, sh6, sh7, sh8, sh9, sh10, sh11, sh12, sh13, sh14, sh15, sh16, step_nx, step_ct, ptN, isN, Nat.add_one_sub_one, Nat.sub_self, Nat.zero_add, Nat.reduceAdd, Nat.reduceSub, leI, eq_int, mod_p (show (0 : Int) < 2 by decide), decide_eq_true h1, decide_eq_false h2, Bool.true_and, Bool.false_and]
  · simp only [F_is_clock, f_is_clock, runD, runO, out0, slots0, List.replicate, List.append_nil, List.cons_append, List.nil_append, List.length_cons, List.length_nil, retS, retC, retO, retN, seqS, ifS, asg, asgO, exprS, appS, setS, augS, asgT, asgL, raiseS, nxS, op1, op2, op2C, tst, andF, orF, ifF, andB, orB, notB, chF, cst, vr, frz, frC, lstC, tupF, consF, nilF, bltF, bltC, one_d, bind_ok, bind_er, bind_bad, then_ok, then_er, then_bad, opt_some, opt_none, Vl.get, Slot.get, Slot.put, Slot.cont, Slot.lst, Slot.mut, Slot.shal, stables, sh, gets, argD, argB, callF, callO, callC, callB, callW, pick, Pk.of, and_self, boxC, partF, slF, srcF, srcR1, srcR2, srcZ, forS, popF, noEr_ok, noEr_er, yes, List.getElem?_cons_zero, List.getElem?_cons_succ, List.set_cons_zero, List.set_cons_succ, Option.bind_some, Option.bind_none, Option.map_some, Option.map_none, if_true, if_false, Bool.false_eq_true, if_pos, List.map_cons, List.map_nil, add_int, sub_int, negD, notD, boolOf, isD, isntD, isNone, Tg.put, Tg.puts, sh0, sh1, sh2, sh3, sh4, sh5, sh6, sh7, sh8, sh9, sh10, sh11, sh12, sh13, sh14, sh15, sh16, step_nx, step_ct, ptN, isN, Nat.add_one_sub_one, Nat.sub_self, Nat.zero_add, Nat.reduceAdd, Nat.reduceSub, leI, eq_int, mod_p (show (0 : Int) < 2 by decide), decide_eq_false h1, Bool.false_and]
theorem Clk.is {c : Int} (h : Clk c) : isClk c = true := by
  unfold isClk
  rw [decide_eq_true h.lo, decide_eq_true h.hi, h.odd]
  rfl

def clkOf (b : Box) : Int := 3 + 2 * (take b 7).1
theorem clkOf_clk (b : Box) : Clk (clkOf b) := by
  have h1 := take_nn b (show (0 : Int) < 7 by decide)
  have h2 := take_lt b (show (0 : Int) < 7 by decide)
  unfold clkOf
  exact ⟨by omega, by omega, by omega⟩
theorem clock_eq (b : Box) : F__law_clock (bD b) [] = .ok (.int (clkOf b)) false (bD (take b 7).2) := by
  simp only [F__law_clock, f__law_clock, runD, runO, out0, slots0, List.replicate, List.append_nil, List.cons_append, List.nil_append, List.length_cons, List.length_nil, retS, retC, retO, retN, seqS, ifS, asg, asgO, exprS, appS, setS, augS, asgT, asgL, raiseS, nxS, op1, op2, op2C, tst, andF, orF, ifF, andB, orB, notB, chF, cst, vr, frz, frC, lstC, tupF, consF, nilF, bltF, bltC, one_d, bind_ok, bind_er, bind_bad, then_ok, then_er, then_bad, opt_some, opt_none, Vl.get, Slot.get, Slot.put, Slot.cont, Slot.lst, Slot.mut, Slot.shal, stables, sh, gets, argD, argB, callF, callO, callC, callB, callW, pick, Pk.of, and_self, boxC, partF, slF, srcF, srcR1, srcR2, srcZ, forS, popF, noEr_ok, noEr_er, yes, List.getElem?_cons_zero, List.getElem?_cons_succ, List.set_cons_zero, List.set_cons_succ, Option.bind_some, Option.bind_none, Option.map_some, Option.map_none, if_true, if_false, Bool.false_eq_true, if_pos, List.map_cons, List.map_nil, add_int, sub_int, negD, notD, boolOf, isD, isntD, isNone, Tg.put, Tg.puts, sh0, sh1, sh2, sh3, sh4, sh5, sh6, sh7, sh8, sh9, sh10, sh11, sh12, sh13, sh14, sh15, sh16, step_nx, step_ct, ptN, isN, Nat.add_one_sub_one, Nat.sub_self, Nat.zero_add, Nat.reduceAdd, Nat.reduceSub, mul_l (show (2 : Int).natAbs < 18446744073709551616 by decide), take_eq b (show (0 : Int) < 7 by decide) (by decide)]
  try rfl

/-! ### steps -/
def stepI (c x y : Int) : Int := if c < 2 * ((y - x) % c) then (y - x) % c - c else (y - x) % c
theorem stp_raw {c x y : Int} (h : Clk c) : ∃ r, (y - x) % c = r ∧ 0 ≤ r ∧ r < c ∧ ((c < 2 * r ∧ stepI c x y = r - c) ∨ (2 * r < c ∧ stepI c x y = r)) := by
  have c0 : 0 < c := by have := h.lo; omega
  have h1 := Int.emod_nonneg (y - x) (show c ≠ 0 by omega)
  have h2 := Int.emod_lt_of_pos (y - x) c0
  have ho := h.odd
  unfold stepI
  generalize (y - x) % c = r at *
  refine ⟨r, rfl, h1, h2, ?_⟩
  by_cases q : c < 2 * r
  · exact .inl ⟨q, if_pos q⟩
  · exact .inr ⟨by omega, if_neg q⟩
theorem stp1 {c x y : Int} (h : Clk c) : decide (-c < 2 * stepI c x y) = true := by
  obtain ⟨r, e, h1, h2, q⟩ := stp_raw (x := x) (y := y) h
  exact decide_eq_true (by omega)
theorem stp2 {c x y : Int} (h : Clk c) : decide (2 * stepI c x y < c) = true := by
  obtain ⟨r, e, h1, h2, q⟩ := stp_raw (x := x) (y := y) h
  exact decide_eq_true (by omega)
theorem stp_k {c x y : Int} (h : Clk c) : ∃ k, stepI c x y = (y - x) + c * k := by
  obtain ⟨r, e, h1, h2, q⟩ := stp_raw (x := x) (y := y) h
  have e2 := Int.mul_ediv_add_emod (y - x) c
  rw [e] at e2
  rcases q with ⟨_, q⟩ | ⟨_, q⟩
  · exact ⟨-((y - x) / c) - 1, by rw [q, Int.mul_sub, Int.mul_neg]; omega⟩
  · exact ⟨-((y - x) / c), by rw [q, Int.mul_neg]; omega⟩
theorem small0 {c k : Int} (h : Clk c) (h1 : -c < c * k) (h2 : c * k < c) : k = 0 := by
  have c0 : 0 < c := by have := h.lo; omega
  have a : k < 1 := by
    refine Int.lt_of_not_ge fun z => ?_
    have := Int.mul_le_mul_of_nonneg_left z (Int.le_of_lt c0)
    omega
  have b : -1 < k := by
    refine Int.lt_of_not_ge fun z => ?_
    have := Int.mul_le_mul_of_nonneg_left z (Int.le_of_lt c0)
    omega
  omega
theorem stp4 {c x y : Int} (h : Clk c) : stepI c y x = -stepI c x y := by
  obtain ⟨k, e⟩ := stp_k (x := x) (y := y) h
  obtain ⟨j, e'⟩ := stp_k (x := y) (y := x) h
  have a1 := of_decide_eq_true (stp1 (x := x) (y := y) h)
  have a2 := of_decide_eq_true (stp2 (x := x) (y := y) h)
  have b1 := of_decide_eq_true (stp1 (x := y) (y := x) h)
  have b2 := of_decide_eq_true (stp2 (x := y) (y := x) h)
  have z : c * (k + j) = stepI c x y + stepI c y x := by rw [Int.mul_add]; omega
  have := small0 (k := k + j) h (by omega) (by omega)
  rw [this] at z
  omega
/-! ### charts -/
/-- f ends with an answer -/
def RtV (f : SF) (ρ : En) (d : D) (fr : Bool) (Q : En → Prop) : Prop := ∃ ρ', f ρ = .rt d fr ρ' ∧ Q ρ'
theorem RtV.seq {f g : SF} {ρ : En} {d : D} {fr : Bool} {P Q : En → Prop} (h : Nx f ρ P) (k : ∀ ρ', P ρ' → RtV g ρ' d fr Q) : RtV (seqS f g) ρ d fr Q := by
  obtain ⟨ρ', e, p⟩ := h
  obtain ⟨ρ2, e2, q⟩ := k ρ' p
  exact ⟨ρ2, by simp only [seqS, e, e2], q⟩
theorem RtV.runO {f : SF} {c c' d : D} {ds : List D} {m : List Md} {n : Nat} {fr : Bool} (h : RtV f (.arg c :: slots0 m ds ++ List.replicate (n - (m.length + 1)) .un) d fr (fun ρ => ∃ l, ρ = .arg c' :: l)) : DL.runO m n f c ds = .ok d fr c' := by
  obtain ⟨ρ', e, l, rfl⟩ := h
  unfold DL.runO
  rw [e]
  rfl
theorem RtV.runD {f : SF} {d : D} {ds : List D} {m : List Md} {n : Nat} {fr : Bool} {Q : En → Prop} (h : RtV f (slots0 m ds ++ List.replicate (n - m.length) .un) d fr Q) : DL.runD m n f ds = .ok d fr .none := by
  obtain ⟨ρ', e, _⟩ := h
  unfold DL.runD
  rw [e]
def rowD (r : List Int) : D := .tuple (r.map PyData.int)
def rowsD (rs : List (List Int)) : D := .tuple (rs.map rowD)
def chD (c : Int) (rs : List (List Int)) : D := .tuple [.int c, rowsD rs]
theorem okN_row (r : List Int) : okN 1 (rowD r) = true := okN_tints r
theorem okN_rows (rs : List (List Int)) : okN 2 (.list (rs.map rowD)) = true := List.all_eq_true.mpr fun d m => by
  obtain ⟨j, _, e⟩ := List.mem_map.mp m
  subst e
  exact okN_row j
theorem okN_rowsD (rs : List (List Int)) : okN 2 (rowsD rs) = true := okN_rows rs
theorem okN_ch (c : Int) (rs : List (List Int)) : okN 3 (chD c rs) = true := by
  show ([PyData.int c, rowsD rs].all (okN 2)) = true
  rw [List.all_cons, List.all_cons, List.all_nil, okN_rowsD]
  rfl
theorem pos_atG {α : Type} (f : α → D) (z : α) {xs : List α} {k : Nat} (h2 : k < xs.length) : L2.atI (xs.map f) (k : Int) = some (f (xs.getD k z)) := by
  refine atI_nat ?_
  rw [List.getElem?_map, List.getElem?_eq_getElem h2, List.getD_eq_getElem?_getD, List.getElem?_eq_getElem h2]
  rfl
theorem row_at {r : List Int} {k : Nat} (h : k < r.length) : ixD (rowD r) (.int (k : Int)) = some (.int (r.getD k 0)) := pos_atG PyData.int 0 h
theorem rows_at {rs : List (List Int)} {k : Nat} (h : k < rs.length) : ixD (rowsD rs) (.int (k : Int)) = some (rowD (rs.getD k [])) := pos_atG rowD [] h
theorem len_row (r : List Int) : lenD (rowD r) = some (.int r.length) := by
  show some (PyData.int ((r.map PyData.int).length : Int)) = _
  rw [List.length_map]
theorem len_rows (rs : List (List Int)) : lenD (rowsD rs) = some (.int rs.length) := by
  show some (PyData.int ((rs.map rowD).length : Int)) = _
  rw [List.length_map]
theorem getD_inG {α : Type} {xs : List α} {k : Nat} {z : α} (h : k < xs.length) : xs.getD k z ∈ xs := by
  rw [List.getD_eq_getElem?_getD, List.getElem?_eq_getElem h]
  exact List.getElem_mem h
structure Ch (most unt c : Int) (wide : Nat) (rs : List (List Int)) : Prop where
  clk : Clk c
  len : 1 ≤ rs.length ∧ (rs.length : Int) ≤ most
  w : 1 ≤ wide ∧ (wide : Int) ≤ most
  rect : ∀ r ∈ rs, r.length = wide
  cell : ∀ r ∈ rs, ∀ v ∈ r, -2 ≤ v ∧ v < c ∧ (unt ≤ 0 → -1 ≤ v)
theorem ix_c1 (c : Int) (rs : List (List Int)) : ixD (chD c rs) (.int 1) = some (rowsD rs) := rfl

/-! ### comprehensions, once for all -/
theorem C_run {α : Type} {t : Tg} {vs : List Nat} {src : En → O (List D)} {te : EF} {ρ ρ0 : En} (ρ1 : En) (f g : α → D) (xs : List α) (hs : src ρ = .ok (xs.map f) ρ0) (hw : wipeE ρ0 vs = ρ1)
    (h : ∀ x ∈ xs, ∃ ρ2, t.put (f x) ρ1 = some ρ2 ∧ ∃ ρ3, te ρ2 = .ok (.st (g x)) ρ3 ∧ wipeE ρ3 vs = ρ1) (hl : xs.length ≤ 100000) : compC t vs src yes te ρ = .ok (.list (xs.map g)) ρ1 := by
  have key : ∀ xs : List α, (∀ x ∈ xs, ∃ ρ2, t.put (f x) ρ1 = some ρ2 ∧ ∃ ρ3, te ρ2 = .ok (.st (g x)) ρ3 ∧ wipeE ρ3 vs = ρ1) → compLoop t vs yes te (xs.map f) ρ1 = .ok (xs.map g) ρ1 := by
    intro xs
    induction xs with
    | nil => exact fun _ => rfl
    | cons x xs ih =>
      intro h
      obtain ⟨ρ2, e1, ρ3, e3, e4⟩ := h x (List.mem_cons_self ..)
      have ih := ih fun e m => h e (List.mem_cons_of_mem _ m)
      rw [List.map_cons]
      unfold compLoop
      simp only [e1, yes, noEr_ok, bind_ok, if_true, e3, e4, ih, List.map_cons]
  unfold compC
  rw [hs, bind_ok, hw, key xs h, noEr_ok, bind_ok, if_pos (short_map hl)]
theorem srcF_list {f : EF} {ρ ρ1 : En} {ds : List D} (h : f ρ = .ok (.st (.list ds)) ρ1) : srcF f ρ = .ok ds ρ1 := by
  unfold srcF; rw [h]; rfl
theorem srcF_tup {f : EF} {ρ ρ1 : En} {ds : List D} (h : f ρ = .ok (.st (.tuple ds)) ρ1) : srcF f ρ = .ok ds ρ1 := by
  unfold srcF; rw [h]; rfl
theorem rng_nat (n : Nat) : rng 0 (n : Int) = (List.range n).map fun (k : Nat) => PyData.int (k : Int) := by
  unfold rng
  rw [Int.sub_zero, Int.toNat_natCast]
  exact List.map_congr_left fun k _ => by rw [Int.zero_add]
theorem srcR1_nat {f : EF} {ρ ρ1 : En} {n : Nat} (h : f ρ = .ok (.st (.int (n : Int))) ρ1) (hn : n ≤ 1000000) : srcR1 f ρ = .ok ((List.range n).map fun (k : Nat) => PyData.int (k : Int)) ρ1 := by
  have r : rngOk (n : Int) = true := rng_fit (by omega) (by omega)
  unfold srcR1
  rw [h, bind_ok]
  simp only [Vl.get, r, if_true, rng_nat]
/-- a loop as a fold of what is known of the slots -/
theorem for_inv {α : Type} {t : Tg} {body : SF} (f : α → D) (I : Nat → En → Prop) (xs : List α) (ρ : En) (h0 : I 0 ρ)
    (hs : ∀ k x ρ, xs[k]? = some x → I k ρ → ∃ ρ1, Tg.put t (f x) ρ = some ρ1 ∧ SO.step (body ρ1) (I (k + 1))) : ∃ ρ', forLoop t body (xs.map f) ρ = .nx ρ' ∧ I xs.length ρ' := by
  have := for_run (t := t) (body := body) (xs.map f) ρ I h0 fun k d ρ e i => by
    rw [List.getElem?_map] at e
    cases q : xs[k]? with
    | none => rw [q] at e; cases e
    | some x =>
      rw [q] at e
      cases e
      exact hs k x ρ q i
  rwa [List.length_map] at this
/-! words, tests -/
theorem if_t {c : BF} {f g : SF} {ρ ρ1 : En} {b : Bool} (h : c ρ = .ok b ρ1) : ifS c f g ρ = if b = true then f ρ1 else g ρ1 := by
  simp only [ifS, h, then_ok]

/-! ### is_chart, need_chart -/
def isSq (c v : Int) : Bool := decide (-2 ≤ v) && decide (v < c)
def isChart (c : Int) (rs : List (List Int)) : Bool := isClk c && (decide (1 ≤ rs.length) && decide (rs.length ≤ 9)) && (decide (1 ≤ (rs.getD 0 []).length) && decide ((rs.getD 0 []).length ≤ 9)) && rs.all fun r => r.length == (rs.getD 0 []).length && r.all (isSq c)
theorem Ch.is {most unt c : Int} {wide : Nat} {rs : List (List Int)} (h : Ch most unt c wide rs) (hm : most ≤ 9) : isChart c rs = true := by
  obtain ⟨l1, l2⟩ := h.len
  obtain ⟨w1, w2⟩ := h.w
  have m0 : rs.getD 0 [] ∈ rs := getD_inG (by omega)
  have r0 := h.rect _ m0
  unfold isChart
  rw [h.clk.is, r0, decide_eq_true (show 1 ≤ rs.length by omega), decide_eq_true (show rs.length ≤ 9 by omega), decide_eq_true (show 1 ≤ wide by omega), decide_eq_true (show wide ≤ 9 by omega)]
  simp only [Bool.true_and, Bool.and_true]
  refine List.all_eq_true.mpr fun r m => ?_
  rw [h.rect r m, beq_self_eq_true, Bool.true_and]
  refine List.all_eq_true.mpr fun v mv => ?_
  obtain ⟨v1, v2, _⟩ := h.cell r m v mv
  unfold isSq
  rw [decide_eq_true v1, decide_eq_true v2]
  rfl
/-! ### grids -/
def cell (rs : List (List Int)) (i j : Nat) : Int := (rs.getD i []).getD j 0
def grid (h w : Nat) (f : Nat → Nat → Int) : List (List Int) := (List.range h).map fun i => (List.range w).map (f i)
theorem getD_range {α : Type} {f : Nat → α} {n i : Nat} {z : α} (h : i < n) : ((List.range n).map f).getD i z = f i := by
  rw [List.getD_eq_getElem?_getD, List.getElem?_map, List.getElem?_range h]
  rfl
theorem cell_grid {h w : Nat} {f : Nat → Nat → Int} {i j : Nat} (hi : i < h) (hj : j < w) : cell (grid h w f) i j = f i j := by
  unfold cell grid
  rw [getD_range hi, getD_range hj]
theorem list_range {α : Type} (xs : List α) (z : α) : (List.range xs.length).map (fun i => xs.getD i z) = xs := by
  refine List.ext_getElem? fun i => ?_
  rw [List.getElem?_map]
  by_cases h : i < xs.length
  · rw [List.getElem?_range h, Option.map_some, List.getD_eq_getElem?_getD, List.getElem?_eq_getElem h]
    rfl
  · rw [List.getElem?_eq_none (by rw [List.length_range]; omega), List.getElem?_eq_none (by omega)]
    rfl
structure Rc (c : Int) (h w : Nat) (rs : List (List Int)) : Prop where
  clk : Clk c
  len : rs.length = h
  h1 : 1 ≤ h
  h9 : h ≤ 9
  w1 : 1 ≤ w
  w9 : w ≤ 9
  rect : ∀ r ∈ rs, r.length = w
  ok : ∀ r ∈ rs, ∀ v ∈ r, -2 ≤ v ∧ v < c
theorem Ch.rc {most unt c : Int} {wide : Nat} {rs : List (List Int)} (h : Ch most unt c wide rs) (hm : most ≤ 9) : Rc c rs.length wide rs := by
  obtain ⟨l1, l2⟩ := h.len
  obtain ⟨w1, w2⟩ := h.w
  exact ⟨h.clk, rfl, l1, by omega, w1, by omega, h.rect, fun r m v mv => ⟨(h.cell r m v mv).1, (h.cell r m v mv).2.1⟩⟩
theorem Rc.eq_grid {c : Int} {h w : Nat} {rs : List (List Int)} (g : Rc c h w rs) : rs = grid h w (cell rs) := by
  unfold grid
  conv => lhs; rw [← list_range rs [], g.len]
  refine List.map_congr_left fun i hi => ?_
  have hi := List.mem_range.mp hi
  have m : rs.getD i [] ∈ rs := getD_inG (by rw [g.len]; exact hi)
  conv => lhs; rw [← list_range (rs.getD i []) 0, g.rect _ m]
  rfl
theorem Rc.cell_ok {c : Int} {h w : Nat} {rs : List (List Int)} (g : Rc c h w rs) {i j : Nat} (hi : i < h) (hj : j < w) : -2 ≤ cell rs i j ∧ cell rs i j < c := by
  have m : rs.getD i [] ∈ rs := getD_inG (by rw [g.len]; exact hi)
  exact g.ok _ m _ (getD_inG (by rw [g.rect _ m]; exact hj))
theorem Rc.of_grid {c : Int} {h w : Nat} {f : Nat → Nat → Int} (hc : Clk c) (h1 : 1 ≤ h) (h9 : h ≤ 9) (w1 : 1 ≤ w) (w9 : w ≤ 9) (hf : ∀ i j, i < h → j < w → -2 ≤ f i j ∧ f i j < c) : Rc c h w (grid h w f) :=
  ⟨hc, by unfold grid; rw [List.length_map, List.length_range], h1, h9, w1, w9, fun r m => by
    obtain ⟨i, _, e⟩ := List.mem_map.mp m
    rw [← e, List.length_map, List.length_range], fun r m v mv => by
    obtain ⟨i, hi, e⟩ := List.mem_map.mp m
    rw [← e] at mv
    obtain ⟨j, hj, e2⟩ := List.mem_map.mp mv
    rw [← e2]
    exact hf i j (List.mem_range.mp hi) (List.mem_range.mp hj)⟩
theorem grid_congr {h w : Nat} {f g : Nat → Nat → Int} (e : ∀ i j, i < h → j < w → f i j = g i j) : grid h w f = grid h w g :=
  List.map_congr_left fun i hi => List.map_congr_left fun j hj => e i j (List.mem_range.mp hi) (List.mem_range.mp hj)

theorem Rc.is {c : Int} {h w : Nat} {rs : List (List Int)} (g : Rc c h w rs) : isChart c rs = true := by
  have q : Ch 9 1 c w rs := ⟨g.clk, ⟨by rw [g.len]; exact g.h1, by rw [g.len]; have := g.h9; omega⟩, ⟨g.w1, by have := g.w9; omega⟩, g.rect, fun r m v mv => ⟨(g.ok r m v mv).1, (g.ok r m v mv).2, fun z => absurd z (by decide)⟩⟩
  exact q.is (by decide)

/-! ### tuples of rows -/
theorem Rc.w_eq {c : Int} {h w : Nat} {rs : List (List Int)} (g : Rc c h w rs) : ixD (rowsD rs) (.int 0) = some (rowD (rs.getD 0 [])) ∧ lenD (rowD (rs.getD 0 [])) = some (.int (w : Int)) ∧ lenD (rowsD rs) = some (.int (h : Int)) := by
  have l0 : 0 < rs.length := by rw [g.len]; have := g.h1; omega
  refine ⟨rows_at l0, ?_, by rw [len_rows, g.len]⟩
  rw [len_row, g.rect _ (getD_inG l0)]
/-! ### loops that end with False -/
/-! ### the law's own judging of charts -/
abbrev Sq := Int × Int
/-! ### how far: the plain law -/
theorem nodup_len {α : Type} [DecidableEq α] : ∀ (l U : List α), l.Nodup → (∀ x ∈ l, x ∈ U) → l.length ≤ U.length
  | [], _, _, _ => Nat.zero_le _
  | x :: l, U, n, s => by
    rw [List.nodup_cons] at n
    have ih := nodup_len l (U.erase x) n.2 fun y m => (List.mem_erase_of_ne (fun e => n.1 (by rw [← e]; exact m))).mpr (s y (List.mem_cons_of_mem _ m))
    have h := s x (List.mem_cons_self ..)
    rw [List.length_erase_of_mem h] at ih
    have := List.length_pos_of_mem h
    rw [List.length_cons]
    omega
def nexts (p : Sq) : List Sq := [(p.1 - 1, p.2), (p.1 + 1, p.2), (p.1, p.2 - 1), (p.1, p.2 + 1)]
theorem nexts_iff {p q : Sq} : q ∈ nexts p ↔ (q.2 = p.2 ∧ (q.1 = p.1 - 1 ∨ q.1 = p.1 + 1)) ∨ (q.1 = p.1 ∧ (q.2 = p.2 - 1 ∨ q.2 = p.2 + 1)) := by
  obtain ⟨a, b⟩ := p
  obtain ⟨c, d⟩ := q
  simp only [nexts, List.mem_cons, List.not_mem_nil, or_false, Prod.mk.injEq]
  omega
theorem nexts_sym {p q : Sq} (h : q ∈ nexts p) : p ∈ nexts q := by
  rw [nexts_iff] at h ⊢
  omega
abbrev FM := List (Sq × Nat)
def fget (m : FM) (p : Sq) : Option Nat := (m.find? fun e => decide (e.1 = p)).map (·.2)
theorem fget_mem {m : FM} {p : Sq} {n : Nat} (h : fget m p = some n) : (p, n) ∈ m := by
  unfold fget at h
  obtain ⟨e, h1, h2⟩ := Option.map_eq_some_iff.mp h
  have a := List.mem_of_find?_eq_some h1
  have b := List.find?_some h1
  rw [decide_eq_true_iff] at b
  rw [← b, ← h2]
  exact a
theorem fget_none {m : FM} {p : Sq} (h : fget m p = none) : ∀ n, (p, n) ∉ m := fun n a => by
  unfold fget at h
  rw [Option.map_eq_none_iff, List.find?_eq_none] at h
  exact h _ a (decide_eq_true rfl)
theorem fget_of {m : FM} (nd : (m.map (·.1)).Nodup) {p : Sq} {n : Nat} (h : (p, n) ∈ m) : fget m p = some n := by
  cases e : fget m p with
  | none => exact absurd h (fget_none e n)
  | some k =>
    have a := fget_mem e
    have : ∀ {l : FM}, (l.map (·.1)).Nodup → (p, n) ∈ l → (p, k) ∈ l → k = n := by
      intro l
      induction l with
      | nil => intro _ h _; cases h
      | cons x l ih =>
        intro nd h1 h2
        rw [List.map_cons, List.nodup_cons] at nd
        rcases List.mem_cons.mp h1 with r1 | r1
        · rcases List.mem_cons.mp h2 with r2 | r2
          · rw [← r1] at r2
            injection r2
          · exact absurd (List.mem_map.mpr ⟨_, r2, by rw [← r1]⟩) nd.1
        · rcases List.mem_cons.mp h2 with r2 | r2
          · exact absurd (List.mem_map.mpr ⟨_, r1, by rw [← r2]⟩) nd.1
          · exact ih nd.2 r1 r2
    rw [this nd h a]
/-- what holds of the squares that were met -/
structure Far0 (good : Sq → Bool) (first : Sq) (m : FM) : Prop where
  nd : (m.map (·.1)).Nodup
  ok : ∀ e ∈ m, good e.1 = true
  zero : ∀ e ∈ m, e.2 = 0 → e.1 = first
  pre : ∀ e ∈ m, 0 < e.2 → ∃ e' ∈ m, e'.2 + 1 = e.2 ∧ e.1 ∈ nexts e'.1
  start : (first, 0) ∈ m
abbrev FS := FM × List Sq
def farStep (good : Sq → Bool) (t : Nat) (st : FS) (o : Sq) : FS := if (fget st.1 o).isNone = true ∧ good o = true then (st.1 ++ [(o, t + 1)], st.2 ++ [o]) else st
def farSq (good : Sq → Bool) (t : Nat) (st : FS) (s : Sq) : FS := (nexts s).foldl (farStep good t) st
def farTurn (good : Sq → Bool) (st : FS) (t : Nat) : FS := st.2.foldl (farSq good t) (st.1, [])
def farAll (good : Sq → Bool) (first : Sq) (n : Nat) : FS := (List.range n).foldl (farTurn good) ([(first, 0)], [first])
/-- within a turn: m0 as it stood when the turn began -/
structure FarW (good : Sq → Bool) (first : Sq) (t : Nat) (m0 : FM) (st : FS) : Prop where
  f0 : Far0 good first st.1
  old : ∀ e, e ∈ st.1 → e ∈ m0 ∨ (e.2 = t + 1 ∧ e.1 ∈ st.2)
  sub : ∀ e ∈ m0, e ∈ st.1
  wid : ∀ p ∈ st.2, (p, t + 1) ∈ st.1
  len : st.2.length ≤ st.1.length
theorem FarW.step {good : Sq → Bool} {first : Sq} {t : Nat} {m0 : FM} {st : FS} (h : FarW good first t m0 st) {s o : Sq} (hs : (s, t) ∈ st.1) (ho : o ∈ nexts s) :
    FarW good first t m0 (farStep good t st o) ∧ (∀ e ∈ st.1, e ∈ (farStep good t st o).1) ∧ (good o = true → ∃ n, (o, n) ∈ (farStep good t st o).1) := by
  unfold farStep
  by_cases c : (fget st.1 o).isNone = true ∧ good o = true
  · rw [if_pos c]
    have nn : fget st.1 o = none := by
      cases e : fget st.1 o with
      | none => rfl
      | some _ => rw [e] at c; cases c.1
    have no := fget_none nn
    refine ⟨⟨⟨?_, fun e m => ?_, fun e m z => ?_, fun e m z => ?_, List.mem_append_left _ h.f0.start⟩, fun e m => ?_, fun e m => List.mem_append_left _ (h.sub e m), fun p m => ?_, ?_⟩, fun e m => List.mem_append_left _ m, fun _ => ⟨t + 1, List.mem_append_right _ (List.mem_singleton_self _)⟩⟩
    · rw [List.map_append, List.nodup_append]
      refine ⟨h.f0.nd, by simp, fun a ha b hb => ?_⟩
      obtain ⟨e, me, rfl⟩ := List.mem_map.mp ha
      have hb : b = o := by simpa using hb
      subst hb
      exact fun q => no e.2 (by rw [← q]; exact me)
    · rcases List.mem_append.mp m with m | m
      · exact h.f0.ok e m
      · rw [List.mem_singleton] at m; subst m; exact c.2
    · rcases List.mem_append.mp m with m | m
      · exact h.f0.zero e m z
      · rw [List.mem_singleton] at m; subst m; cases z
    · rcases List.mem_append.mp m with m | m
      · obtain ⟨e', m', r⟩ := h.f0.pre e m z
        exact ⟨e', List.mem_append_left _ m', r⟩
      · rw [List.mem_singleton] at m; subst m
        exact ⟨(s, t), List.mem_append_left _ hs, rfl, ho⟩
    · rcases List.mem_append.mp m with m | m
      · exact (h.old e m).imp id fun r => ⟨r.1, List.mem_append_left _ r.2⟩
      · rw [List.mem_singleton] at m; subst m
        exact .inr ⟨rfl, List.mem_append_right _ (List.mem_singleton_self _)⟩
    · rcases List.mem_append.mp m with m | m
      · exact List.mem_append_left _ (h.wid p m)
      · rw [List.mem_singleton] at m; subst m
        exact List.mem_append_right _ (List.mem_singleton_self _)
    · have := h.len
      simp only [List.length_append, List.length_cons, List.length_nil]
      omega
  · rw [if_neg c]
    refine ⟨h, fun e m => m, fun g => ?_⟩
    cases e : fget st.1 o with
    | some n => exact ⟨n, fget_mem e⟩
    | none => exact absurd ⟨by rw [e]; rfl, g⟩ c
theorem FarW.steps {good : Sq → Bool} {first : Sq} {t : Nat} {m0 : FM} {s : Sq} : ∀ (os : List Sq) {st : FS}, FarW good first t m0 st → (s, t) ∈ st.1 → (∀ o ∈ os, o ∈ nexts s) →
    FarW good first t m0 (os.foldl (farStep good t) st) ∧ (∀ e ∈ st.1, e ∈ (os.foldl (farStep good t) st).1) ∧ ∀ o ∈ os, good o = true → ∃ n, (o, n) ∈ (os.foldl (farStep good t) st).1
  | [], _, h, _, _ => ⟨h, fun _ m => m, fun _ m => by cases m⟩
  | o :: os, st, h, hs, ho => by
    obtain ⟨a, b, c⟩ := h.step hs (ho o (List.mem_cons_self ..))
    obtain ⟨a2, b2, c2⟩ := FarW.steps os a (b _ hs) fun x m => ho x (List.mem_cons_of_mem _ m)
    rw [List.foldl_cons]
    refine ⟨a2, fun e m => b2 e (b e m), fun x m g => ?_⟩
    rcases List.mem_cons.mp m with rfl | m
    · obtain ⟨n, q⟩ := c g
      exact ⟨n, b2 _ q⟩
    · exact c2 x m g
theorem FarW.line {good : Sq → Bool} {first : Sq} {t : Nat} {m0 : FM} : ∀ (ss : List Sq) {st : FS}, FarW good first t m0 st → (∀ s ∈ ss, (s, t) ∈ m0) →
    FarW good first t m0 (ss.foldl (farSq good t) st) ∧ (∀ e ∈ st.1, e ∈ (ss.foldl (farSq good t) st).1) ∧ ∀ s ∈ ss, ∀ o ∈ nexts s, good o = true → ∃ n, (o, n) ∈ (ss.foldl (farSq good t) st).1
  | [], _, h, _ => ⟨h, fun _ m => m, fun _ m => by cases m⟩
  | s :: ss, st, h, hs => by
    obtain ⟨a, b, c⟩ := FarW.steps (s := s) (nexts s) h (h.sub _ (hs s (List.mem_cons_self ..))) fun _ m => m
    obtain ⟨a2, b2, c2⟩ := FarW.line ss (st := farSq good t st s) a fun x m => hs x (List.mem_cons_of_mem _ m)
    rw [List.foldl_cons]
    refine ⟨a2, fun e m => b2 e (b e m), fun x m o mo g => ?_⟩
    rcases List.mem_cons.mp m with rfl | m
    · obtain ⟨n, q⟩ := c o mo g
      exact ⟨n, b2 _ q⟩
    · exact c2 x m o mo g
/-- between turns -/
structure FarT (good : Sq → Bool) (first : Sq) (t : Nat) (st : FS) : Prop where
  f0 : Far0 good first st.1
  le : ∀ e ∈ st.1, e.2 ≤ t
  line : ∀ p, p ∈ st.2 ↔ (p, t) ∈ st.1
  cl : ∀ e ∈ st.1, e.2 < t → ∀ q ∈ nexts e.1, good q = true → ∃ n, (q, n) ∈ st.1
  len : st.2.length ≤ st.1.length
theorem FarT.start {good : Sq → Bool} {first : Sq} (g : good first = true) : FarT good first 0 ([(first, 0)], [first]) :=
  ⟨⟨by simp, fun e m => by rw [List.mem_singleton] at m; subst m; exact g, fun e m _ => by rw [List.mem_singleton] at m; subst m; rfl, fun e m z => by rw [List.mem_singleton] at m; subst m; exact absurd z (Nat.lt_irrefl 0), List.mem_singleton_self _⟩,
    fun e m => by rw [List.mem_singleton] at m; subst m; exact Nat.le_refl _, fun p => by simp, fun e m z => absurd z (Nat.not_lt_zero _), Nat.le_refl _⟩
theorem FarT.in_turn {good : Sq → Bool} {first : Sq} {t : Nat} {st : FS} (h : FarT good first t st) : FarW good first t st.1 (st.1, []) :=
  ⟨h.f0, fun e m => .inl m, fun e m => m, fun p m => absurd m List.not_mem_nil, Nat.zero_le _⟩
theorem FarT.turn {good : Sq → Bool} {first : Sq} {t : Nat} {st : FS} (h : FarT good first t st) : FarT good first (t + 1) (farTurn good st t) := by
  obtain ⟨a, b, c⟩ := FarW.line st.2 h.in_turn fun s m => (h.line s).mp m
  refine ⟨a.f0, fun e m => ?_, fun p => ⟨fun m => a.wid p m, fun m => ?_⟩, fun e m l q hq g => ?_, a.len⟩
  · rcases a.old e m with r | r
    · exact Nat.le_succ_of_le (h.le e r)
    · omega
  · rcases a.old _ m with r | r
    · have := h.le _ r
      simp only at this
      omega
    · exact r.2
  · rcases a.old e m with r | r
    · by_cases z : e.2 = t
      · exact c e.1 ((h.line _).mpr (by rw [← z]; exact r)) q hq g
      · obtain ⟨n, y⟩ := h.cl e r (by omega) q hq g
        exact ⟨n, a.sub _ y⟩
    · omega
theorem FarT.all {good : Sq → Bool} {first : Sq} (g : good first = true) : ∀ n, FarT good first n (farAll good first n)
  | 0 => FarT.start g
  | n + 1 => by
    unfold farAll
    rw [List.range_succ, List.foldl_append]
    exact (FarT.all g n).turn
/-- it goes down to nothing -/
theorem Far0.down {good : Sq → Bool} {first : Sq} {m : FM} (h : Far0 good first m) : ∀ (t : Nat) (e : Sq × Nat), e ∈ m → e.2 = t → ∀ k, k ≤ t → k ∈ m.map (·.2)
  | 0, e, me, z, k, hk => by
    have : k = 0 := by omega
    subst this
    exact List.mem_map.mpr ⟨e, me, z⟩
  | t + 1, e, me, z, k, hk => by
    by_cases q : k = t + 1
    · subst q
      exact List.mem_map.mpr ⟨e, me, z⟩
    · obtain ⟨e', m', r, _⟩ := h.pre e me (by omega)
      exact h.down t e' m' (by omega) k (by omega)
theorem Far0.len {good : Sq → Bool} {first : Sq} {m : FM} (h : Far0 good first m) {U : List Sq} (u : ∀ p, good p = true → p ∈ U) : m.length ≤ U.length := by
  have := nodup_len (m.map (·.1)) U h.nd fun x mx => by
    obtain ⟨e, me, rfl⟩ := List.mem_map.mp mx
    exact u _ (h.ok e me)
  rwa [List.length_map] at this
theorem Far0.high {good : Sq → Bool} {first : Sq} {m : FM} (h : Far0 good first m) {U : List Sq} (u : ∀ p, good p = true → p ∈ U) {e : Sq × Nat} (me : e ∈ m) : e.2 < U.length := by
  have a := h.len u
  have b := nodup_len (List.range (e.2 + 1)) (m.map (·.2)) List.nodup_range fun k mk => h.down e.2 e me rfl k (by have := List.mem_range.mp mk; omega)
  rw [List.length_range, List.length_map] at b
  omega
/-- what a whole walk outward tells -/
structure FarOk (good : Sq → Bool) (first : Sq) (m : FM) : Prop extends Far0 good first m where
  cl : ∀ e ∈ m, ∀ q ∈ nexts e.1, good q = true → ∃ n, (q, n) ∈ m
theorem farAll_ok {good : Sq → Bool} {first : Sq} (g : good first = true) {U : List Sq} (u : ∀ p, good p = true → p ∈ U) {n : Nat} (hn : U.length ≤ n) : FarOk good first (farAll good first n).1 := by
  have h := FarT.all g n
  exact ⟨h.f0, fun e m q hq gq => h.cl e m (Nat.lt_of_lt_of_le (h.f0.high u m) hn) q hq gq⟩
theorem FarOk.get {good : Sq → Bool} {first : Sq} {m : FM} (h : FarOk good first m) {p q : Sq} {n : Nat} (hp : fget m p = some n) (hq : q ∈ nexts p) (g : good q = true) : ∃ k, fget m q = some k := by
  obtain ⟨k, y⟩ := h.cl _ (fget_mem hp) q hq g
  exact ⟨k, fget_of h.nd y⟩
/-- more than one: the first has a good square beside it -/
theorem Far0.beside {good : Sq → Bool} {first : Sq} {m : FM} (h : Far0 good first m) (l : 1 < m.length) : ∃ q ∈ nexts first, good q = true := by
  have hk : ∃ e ∈ m, 0 < e.2 := by
    refine Classical.byContradiction fun no => ?_
    have all0 : ∀ x ∈ m.map (·.1), x ∈ [first] := fun x mx => by
      obtain ⟨e, me, rfl⟩ := List.mem_map.mp mx
      rw [List.mem_singleton]
      refine h.zero e me ?_
      cases q : e.2 with
      | zero => rfl
      | succ k => exact absurd ⟨e, me, by omega⟩ no
    have := nodup_len _ _ h.nd all0
    rw [List.length_map] at this
    simp only [List.length_cons, List.length_nil] at this
    omega
  obtain ⟨e, me, pe⟩ := hk
  have d1 := h.down e.2 e me rfl 1 (by omega)
  obtain ⟨e1, m1, z1⟩ := List.mem_map.mp d1
  obtain ⟨e0, m0, z0, a⟩ := h.pre e1 m1 (by omega)
  have f := h.zero e0 m0 (by omega)
  rw [f] at a
  exact ⟨e1.1, a, h.ok e1 m1⟩

/-! ### squares -/
def sqD (p : Sq) : D := .tuple [.int p.1, .int p.2]
def whatI (H W : Nat) (rs : List (List Int)) (p : Sq) : Int := if 0 ≤ p.1 ∧ p.1 < H ∧ 0 ≤ p.2 ∧ p.2 < W then cell rs p.1.toNat p.2.toNat else -1
def isIn (H W : Nat) (p : Sq) : Bool := decide (0 ≤ p.1) && decide (p.1 < H) && (decide (0 ≤ p.2) && decide (p.2 < W))
theorem isIn_iff {H W : Nat} {p : Sq} : isIn H W p = true ↔ 0 ≤ p.1 ∧ p.1 < H ∧ 0 ≤ p.2 ∧ p.2 < W := by
  unfold isIn
  simp only [Bool.and_eq_true, decide_eq_true_iff]
  omega
theorem Rc.at_ {c : Int} {H W : Nat} {rs : List (List Int)} (g : Rc c H W rs) {p : Sq} (h : isIn H W p = true) : ixD (rowsD rs) (.int p.1) = some (rowD (rs.getD p.1.toNat [])) ∧ ixD (rowD (rs.getD p.1.toNat [])) (.int p.2) = some (.int (cell rs p.1.toNat p.2.toNat)) := by
  obtain ⟨a, b⟩ := p
  rw [isIn_iff] at h
  obtain ⟨h1, h2, h3, h4⟩ := h
  obtain ⟨i, rfl⟩ := Int.eq_ofNat_of_zero_le h1
  obtain ⟨j, rfl⟩ := Int.eq_ofNat_of_zero_le h3
  have hi : i < rs.length := by rw [g.len]; simp only at h2; omega
  refine ⟨rows_at hi, ?_⟩
  exact row_at (by rw [Int.toNat_natCast, g.rect _ (getD_inG hi)]; simp only at h4; omega)
theorem what_eq {c : Int} {H W : Nat} {rs : List (List Int)} (g : Rc c H W rs) (p : Sq) : F__law_what [chD c rs, sqD p] = .ok (.int (whatI H W rs p)) false .none := by
  obtain ⟨i0, lv, ll⟩ := g.w_eq
  unfold whatI
  by_cases h : isIn H W p = true
  · obtain ⟨e1, e2⟩ := g.at_ h
    rw [isIn_iff] at h
    rw [if_pos h]
    obtain ⟨h1, h2, h3, h4⟩ := h
    simp only [F__law_what, f__law_what, sqD, runD, runO, out0, slots0, List.replicate, List.append_nil, List.cons_append, List.nil_append, List.length_cons, List.length_nil, retS, retC, retO, retN, seqS, ifS, asg, asgO, exprS, appS, setS, augS, asgT, asgL, raiseS, nxS, op1, op2, op2C, tst, andF, orF, ifF, andB, orB, notB, chF, cst, vr, frz, frC, lstC, tupF, consF, nilF, bltF, bltC, one_d, bind_ok, bind_er, bind_bad, then_ok, then_er, then_bad, opt_some, opt_none, Vl.get, Slot.get, Slot.put, Slot.cont, Slot.lst, Slot.mut, Slot.shal, stables, sh, gets, argD, argB, callF, callO, callC, callB, callW, pick, Pk.of, and_self, boxC, partF, slF, srcF, srcR1, srcR2, srcZ, forS, popF, noEr_ok, noEr_er, yes, List.getElem?_cons_zero, List.getElem?_cons_succ, List.set_cons_zero, List.set_cons_succ, Option.bind_some, Option.bind_none, Option.map_some, Option.map_none, if_true, if_false, Bool.false_eq_true, if_pos, List.map_cons, List.map_nil, add_int, sub_int, negD, notD, boolOf, isD, isntD, isNone, Tg.put, Tg.puts, sh0, sh1, sh2, sh3, sh4, sh5, sh6, sh7, sh8, sh9, sh10, sh11, sh12, sh13, sh14, sh15, sh16, step_nx, step_ct, ptN, isN, Nat.add_one_sub_one, Nat.sub_self, Nat.zero_add, Nat.reduceAdd, Nat.reduceSub, ix_c1, i0, lv, ll, leI, ltI, decide_eq_true h1, decide_eq_true h2, decide_eq_true h3, decide_eq_true h4, e1, e2]
  · rw [isIn_iff] at h
    rw [if_neg h]
    by_cases h1 : 0 ≤ p.1
    case neg => simp only [F__law_what, f__law_what, sqD, runD, runO, out0, slots0, List.replicate, List.append_nil, List.cons_append, List.nil_append, List.length_cons, List.length_nil, retS, retC, retO, retN, seqS, ifS, asg, asgO, exprS, appS, setS, augS, asgT, asgL, raiseS, nxS, op1, op2, op2C, tst, andF, orF, ifF, andB, orB, notB, chF, cst, vr, frz, frC, lstC, tupF, consF, nilF, bltF, bltC, one_d, bind_ok, bind_er, bind_bad, then_ok, then_er, then_bad, opt_some, opt_none, Vl.get, Slot.get, Slot.put, Slot.cont, Slot.lst, Slot.mut, Slot.shal, stables, sh, gets, argD, argB, callF, callO, callC, callB, callW, pick, Pk.of, and_self, boxC, partF, slF, srcF, srcR1, srcR2, srcZ, forS, popF, noEr_ok, noEr_er, yes, List.getElem?_cons_zero, List.getElem?_cons_succ, List.set_cons_zero, List.set_cons_succ, Option.bind_some, Option.bind_none, Option.map_some, Option.map_none, if_true, if_false, Bool.false_eq_true, if_pos, List.map_cons, List.map_nil, add_int, sub_int, negD, notD, boolOf, isD, isntD, isNone, Tg.put, Tg.puts, sh0, sh1, sh2, sh3, sh4, sh5, sh6, sh7, sh8, sh9, sh10, sh11, sh12, sh13, sh14, sh15, sh16, step_nx, step_ct, ptN, isN, Nat.add_one_sub_one, Nat.sub_self, Nat.zero_add, Nat.reduceAdd, Nat.reduceSub, ix_c1, i0, lv, ll, leI, ltI, decide_eq_false h1]
    by_cases h2 : p.1 < H
    case neg => simp only [F__law_what, f__law_what, sqD, runD, runO, out0, slots0, List.replicate, List.append_nil, List.cons_append, List.nil_append, List.length_cons, List.length_nil, retS, retC, retO, retN, seqS, ifS, asg, asgO, exprS, appS, setS, augS, asgT, asgL, raiseS, nxS, op1, op2, op2C, tst, andF, orF, ifF, andB, orB, notB, chF, cst, vr, frz, frC, lstC, tupF, consF, nilF, bltF, bltC, one_d, bind_ok, bind_er, bind_bad, then_ok, then_er, then_bad, opt_some, opt_none, Vl.get, Slot.get, Slot.put, Slot.cont, Slot.lst, Slot.mut, Slot.shal, stables, sh, gets, argD, argB, callF, callO, callC, callB, callW, pick, Pk.of, and_self, boxC, partF, slF, srcF, srcR1, srcR2, srcZ, forS, popF, noEr_ok, noEr_er, yes, List.getElem?_cons_zero, List.getElem?_cons_succ, List.set_cons_zero, List.set_cons_succ, Option.bind_some, Option.bind_none, Option.map_some, Option.map_none, if_true, if_false, Bool.false_eq_true, if_pos, List.map_cons, List.map_nil, add_int, sub_int, negD, notD, boolOf, isD, isntD, isNone, Tg.put, Tg.puts, sh0, sh1, sh2, sh3, sh4, sh5, sh6, sh7, sh8, sh9, sh10, sh11, sh12, sh13, sh14, sh15, sh16, step_nx, step_ct, ptN, isN, Nat.add_one_sub_one, Nat.sub_self, Nat.zero_add, Nat.reduceAdd, Nat.reduceSub, ix_c1, i0, lv, ll, leI, ltI, decide_eq_true h1, decide_eq_false h2]
    by_cases h3 : 0 ≤ p.2
    case neg => simp only [F__law_what, f__law_what, sqD, runD, runO, out0, slots0, List.replicate, List.append_nil, List.cons_append, List.nil_append, List.length_cons, List.length_nil, retS, retC, retO, retN, seqS, ifS, asg, asgO, exprS, appS, setS, augS, asgT, asgL, raiseS, nxS, op1, op2, op2C, tst, andF, orF, ifF, andB, orB, notB, chF, cst, vr, frz, frC, lstC, tupF, consF, nilF, bltF, bltC, one_d, bind_ok, bind_er, bind_bad, then_ok, then_er, then_bad, opt_some, opt_none, Vl.get, Slot.get, Slot.put, Slot.cont, Slot.lst, Slot.mut, Slot.shal, stables, sh, gets, argD, argB, callF, callO, callC, callB, callW, pick, Pk.of, and_self, boxC, partF, slF, srcF, srcR1, srcR2, srcZ, forS, popF, noEr_ok, noEr_er, yes, List.getElem?_cons_zero, List.getElem?_cons_succ, List.set_cons_zero, List.set_cons_succ, Option.bind_some, Option.bind_none, Option.map_some, Option.map_none, if_true, if_false, Bool.false_eq_true, if_pos, List.map_cons, List.map_nil, add_int, sub_int, negD, notD, boolOf, isD, isntD, isNone, Tg.put, Tg.puts, sh0, sh1, sh2, sh3, sh4, sh5, sh6, sh7, sh8, sh9, sh10, sh11, sh12, sh13, sh14, sh15, sh16, step_nx, step_ct, ptN, isN, Nat.add_one_sub_one, Nat.sub_self, Nat.zero_add, Nat.reduceAdd, Nat.reduceSub, ix_c1, i0, lv, ll, leI, ltI, decide_eq_true h1, decide_eq_true h2, decide_eq_false h3]
    by_cases h4 : p.2 < W
    case neg => simp only [F__law_what, f__law_what, sqD, runD, runO, out0, slots0, List.replicate, List.append_nil, List.cons_append, List.nil_append, List.length_cons, List.length_nil, retS, retC, retO, retN, seqS, ifS, asg, asgO, exprS, appS, setS, augS, asgT, asgL, raiseS, nxS, op1, op2, op2C, tst, andF, orF, ifF, andB, orB, notB, chF, cst, vr, frz, frC, lstC, tupF, consF, nilF, bltF, bltC, one_d, bind_ok, bind_er, bind_bad, then_ok, then_er, then_bad, opt_some, opt_none, Vl.get, Slot.get, Slot.put, Slot.cont, Slot.lst, Slot.mut, Slot.shal, stables, sh, gets, argD, argB, callF, callO, callC, callB, callW, pick, Pk.of, and_self, boxC, partF, slF, srcF, srcR1, srcR2, srcZ, forS, popF, noEr_ok, noEr_er, yes, List.getElem?_cons_zero, List.getElem?_cons_succ, List.set_cons_zero, List.set_cons_succ, Option.bind_some, Option.bind_none, Option.map_some, Option.map_none, if_true, if_false, Bool.false_eq_true, if_pos, List.map_cons, List.map_nil, add_int, sub_int, negD, notD, boolOf, isD, isntD, isNone, Tg.put, Tg.puts, sh0, sh1, sh2, sh3, sh4, sh5, sh6, sh7, sh8, sh9, sh10, sh11, sh12, sh13, sh14, sh15, sh16, step_nx, step_ct, ptN, isN, Nat.add_one_sub_one, Nat.sub_self, Nat.zero_add, Nat.reduceAdd, Nat.reduceSub, ix_c1, i0, lv, ll, leI, ltI, decide_eq_true h1, decide_eq_true h2, decide_eq_true h3, decide_eq_false h4]
    exact absurd ⟨h1, h2, h3, h4⟩ h
def allS (H W : Nat) : List Sq := (List.range (W * H)).map fun (k : Nat) => (((k / W : Nat) : Int), ((k % W : Nat) : Int))
theorem mem_allS {H W : Nat} {p : Sq} : p ∈ allS H W ↔ isIn H W p = true := by
  rw [isIn_iff]
  unfold allS
  rw [List.mem_map]
  constructor
  · rintro ⟨k, hk, rfl⟩
    have hk := List.mem_range.mp hk
    have w0 : 0 < W := Nat.pos_of_mul_pos_right (a := W) (b := H) (by omega) |> fun _ => by
      rcases Nat.eq_zero_or_pos W with z | z
      · subst z; simp at hk
      · exact z
    have a := Nat.div_lt_of_lt_mul hk
    have b := Nat.mod_lt k w0
    exact ⟨Int.natCast_nonneg _, Int.ofNat_lt.mpr a, Int.natCast_nonneg _, Int.ofNat_lt.mpr b⟩
  · obtain ⟨a, b⟩ := p
    rintro ⟨h1, h2, h3, h4⟩
    obtain ⟨i, rfl⟩ := Int.eq_ofNat_of_zero_le h1
    obtain ⟨j, rfl⟩ := Int.eq_ofNat_of_zero_le h3
    have h2 : i < H := Int.ofNat_lt.mp h2
    have h4 : j < W := Int.ofNat_lt.mp h4
    refine ⟨W * i + j, List.mem_range.mpr ?_, ?_⟩
    · have : W * (i + 1) ≤ W * H := Nat.mul_le_mul (Nat.le_refl W) h2
      rw [Nat.mul_add, Nat.mul_one] at this
      omega
    · rw [Nat.mul_add_div (by omega), Nat.mul_add_mod, Nat.div_eq_of_lt h4, Nat.mod_eq_of_lt h4]
      rfl
theorem allS_len {c : Int} {H W : Nat} {rs : List (List Int)} (g : Rc c H W rs) : (allS H W).length ≤ 81 := by
  unfold allS
  rw [List.length_map, List.length_range]
  exact Nat.le_trans (Nat.mul_le_mul g.w9 g.h9) (by decide)
def isTold (H W : Nat) (rs : List (List Int)) (p : Sq) : Bool := decide (0 ≤ whatI H W rs p)
theorem isTold_in {H W : Nat} {rs : List (List Int)} {p : Sq} (h : isTold H W rs p = true) : isIn H W p = true := by
  rw [isIn_iff]
  refine Classical.byContradiction fun n => ?_
  unfold isTold whatI at h
  rw [if_neg n] at h
  exact absurd (of_decide_eq_true h) (by decide)
/-! ### how far -/
theorem keq_sq (p q : Sq) : keq (sqD p) (sqD q) = decide (p = q) := by
  obtain ⟨a, b⟩ := p
  obtain ⟨c, d⟩ := q
  unfold sqD keq keqL keqL keqL keq1
  simp only [Bool.and_true, Prod.mk.injEq, Bool.decide_and]
/-! ### squares compared -/
theorem getD_l {α : Type} {l m : List α} {i : Nat} {z : α} (h : i < l.length) : (l ++ m).getD i z = l.getD i z := by
  rw [List.getD_eq_getElem?_getD, List.getElem?_append_left h, ← List.getD_eq_getElem?_getD]
/-! ### how far over told squares -/
section
variable {c : Int} {H W : Nat} {rs : List (List Int)}
@[irreducible] def farM (H W : Nat) (rs : List (List Int)) (p : Sq) : FM := (farAll (isTold H W rs) p 82).1
theorem farM_ok (g : Rc c H W rs) {p : Sq} (h : isTold H W rs p = true) : FarOk (isTold H W rs) p (farM H W rs p) := by
  have u81 := allS_len g
  unfold farM
  exact farAll_ok h (U := allS H W) (fun q hq => mem_allS.mpr (isTold_in hq)) (by omega)
end
/-! ### rings -/
/-- a walk from w0, its last square -/
inductive Wk (good : Sq → Bool) (w0 : Sq) : List Sq → Sq → Prop
  | one : Wk good w0 [w0] w0
  | snoc {l : List Sq} {x y : Sq} : Wk good w0 l x → y ∈ nexts x → good y = true → Wk good w0 (l ++ [y]) y
section
variable {good : Sq → Bool} {w0 x : Sq} {l : List Sq}
theorem Wk.ne (h : Wk good w0 l x) : l ≠ [] := by cases h <;> simp
theorem Wk.last (h : Wk good w0 l x) : l.getD (l.length - 1) (0, 0) = x := by
  cases h with
  | one => rfl
  | snoc a b c => simp
theorem Wk.first (h : Wk good w0 l x) : l.getD 0 (0, 0) = w0 := by
  induction h with
  | one => rfl
  | @snoc l x y a b c ih =>
    have := List.length_pos_iff.mpr a.ne
    rw [getD_l this, ih]
theorem Wk.ok (g : good w0 = true) (h : Wk good w0 l x) : good x = true ∧ ∀ p ∈ l, good p = true := by
  induction h with
  | one => exact ⟨g, fun p m => by rw [List.mem_singleton] at m; subst m; exact g⟩
  | snoc a b c ih =>
    refine ⟨c, fun p m => ?_⟩
    rcases List.mem_append.mp m with m | m
    · exact ih.2 p m
    · rw [List.mem_singleton] at m; subst m; exact c
theorem Wk.adj (h : Wk good w0 l x) : ∀ i, i + 1 < l.length → l.getD (i + 1) (0, 0) ∈ nexts (l.getD i (0, 0)) := by
  induction h with
  | one => intro i hi; simp at hi
  | @snoc l x y a b c ih =>
    intro i hi
    rw [List.length_append, List.length_cons, List.length_nil] at hi
    by_cases q : i + 1 < l.length
    · rw [getD_l q, getD_l (by omega)]
      exact ih i q
    · have e : i = l.length - 1 := by omega
      have p := List.length_pos_iff.mpr a.ne
      have e1 : (l ++ [y]).getD (i + 1) (0, 0) = y := by
        rw [List.getD_eq_getElem?_getD, List.getElem?_append_right (by omega), show i + 1 - l.length = 0 by omega]
        rfl
      have e2 : (l ++ [y]).getD i (0, 0) = x := by
        rw [getD_l (by omega), e]
        exact a.last
      rw [e1, e2]
      exact b
/-- some good square is beside the last -/
theorem Wk.beside (g : good w0 = true) (b : ∃ q ∈ nexts w0, good q = true) (h : Wk good w0 l x) : ∃ q ∈ nexts x, good q = true := by
  cases h with
  | one => exact b
  | snoc a b c => exact ⟨_, nexts_sym b, (a.ok g).1⟩
end
/-- a closed ring of good squares -/
structure RingOk (good : Sq → Bool) (r : List Sq) : Prop where
  two : 2 ≤ r.length
  le : r.length ≤ 200
  ok : ∀ p ∈ r, good p = true
  adj : ∀ i, i < r.length → r.getD ((i + 1) % r.length) (0, 0) ∈ nexts (r.getD i (0, 0))
/-! ### lists of squares, and of anything -/
theorem lenG {α : Type} (f : α → D) (xs : List α) : lenD (.list (xs.map f)) = some (.int (xs.length : Int)) := by
  rw [lenL, List.length_map]
/-! ### is it a ring -/
/-- each in turn beside the one before -/
def cyc (r : List Sq) : Bool := (List.range r.length).all fun i => decide (r.getD ((i + 1) % r.length) (0, 0) ∈ nexts (r.getD i (0, 0)))
def isRing (H W : Nat) (rs : List (List Int)) (r : List Sq) : Bool := decide (2 ≤ r.length) && (r.all (isTold H W rs) && cyc r)
/-! ### sums along a ring -/
def path (F : Sq → Sq → Int) : List Sq → Int
  | x :: y :: l => F x y + path F (y :: l)
  | _ => 0
/-- each is beside the next -/
def Chn (R : Sq → Sq → Prop) : List Sq → Prop
  | x :: y :: l => R x y ∧ Chn R (y :: l)
  | _ => True
theorem Chn.of {R : Sq → Sq → Prop} : ∀ (l : List Sq), (∀ i, i + 1 < l.length → R (l.getD i (0, 0)) (l.getD (i + 1) (0, 0))) → Chn R l
  | [], _ => trivial
  | [_], _ => trivial
  | x :: y :: l, h => ⟨h 0 (by simp), Chn.of (y :: l) fun i hi => h (i + 1) (by simp only [List.length_cons] at hi ⊢; omega)⟩
theorem path_congr {F G : Sq → Sq → Int} {R : Sq → Sq → Prop} (e : ∀ x y, R x y → F x y = G x y) : ∀ {l : List Sq}, Chn R l → path F l = path G l
  | [], _ => rfl
  | [_], _ => rfl
  | x :: y :: l, h => by
    unfold path
    rw [e x y h.1, path_congr e h.2]
/-- the whole way round -/
def round (F : Sq → Sq → Int) : List Sq → Int
  | [] => 0
  | x :: l => path F (x :: l ++ [x])
theorem RingOk.ch {good : Sq → Bool} {r : List Sq} (h : RingOk good r) : ∀ x l, r = x :: l → Chn (fun a b => b ∈ nexts a) (x :: l ++ [x]) := fun x l e => by
  subst e
  have ll : (x :: l).length = l.length + 1 := rfl
  refine Chn.of _ fun i hi => ?_
  rw [List.length_append, ll] at hi
  have hi : i < l.length + 1 := by simpa using hi
  have a := h.adj i (by rw [ll]; exact hi)
  have e1 : (x :: l ++ [x]).getD i (0, 0) = (x :: l).getD i (0, 0) := getD_l (by rw [ll]; exact hi)
  rw [e1]
  rw [ll] at a
  by_cases q : i + 1 < l.length + 1
  · rw [Nat.mod_eq_of_lt q] at a
    rw [getD_l (by rw [ll]; exact q)]
    exact a
  · have z : i + 1 = l.length + 1 := by omega
    rw [z, Nat.mod_self] at a
    have e2 : (x :: l ++ [x]).getD (i + 1) (0, 0) = x := by
      rw [z, List.getD_eq_getElem?_getD, List.getElem?_append_right (by rw [ll]; exact Nat.le_refl _), ll, Nat.sub_self]
      rfl
    rw [e2]
    exact a
theorem RingOk.congr {good : Sq → Bool} {r : List Sq} (h : RingOk good r) {F G : Sq → Sq → Int} (e : ∀ x y, y ∈ nexts x → F x y = G x y) : round F r = round G r := by
  cases r with
  | nil => rfl
  | cons x l => exact path_congr e (h.ch x l rfl)
/-! ### seas -/
def partOf (H W : Nat) (rs : List (List Int)) (p : Sq) : List Sq := psort ((farM H W rs p).map (·.1))
def seaStep (H W : Nat) (rs : List (List Int)) (st : List (List Sq) × List Sq) (p : Sq) : List (List Sq) × List Sq := if p ∈ st.2 then st else (st.1 ++ [partOf H W rs p], st.2 ++ partOf H W rs p)
def toldL (H W : Nat) (rs : List (List Int)) : List Sq := (allS H W).filter (isTold H W rs)
def seas (H W : Nat) (rs : List (List Int)) : List (List Sq) := ((toldL H W rs).foldl (seaStep H W rs) ([], [])).1
section
variable {c : Int} {H W : Nat} {rs : List (List Int)}
theorem part_len (g : Rc c H W rs) {p : Sq} (h : isTold H W rs p = true) : (partOf H W rs p).length ≤ 81 := by
  unfold partOf
  rw [(psort_perm _).length_eq, List.length_map]
  exact Nat.le_trans ((farM_ok g h).toFar0.len (U := allS H W) fun q hq => mem_allS.mpr (isTold_in hq)) (allS_len g)
theorem mem_part {p q : Sq} : q ∈ partOf H W rs p ↔ ∃ n, (q, n) ∈ farM H W rs p := by
  unfold partOf
  rw [(psort_perm _).mem_iff, List.mem_map]
  exact ⟨fun ⟨e, m, z⟩ => ⟨e.2, by rw [← z]; exact m⟩, fun ⟨n, m⟩ => ⟨_, m, rfl⟩⟩
theorem mem_toldL {p : Sq} : p ∈ toldL H W rs ↔ isTold H W rs p = true := by
  unfold toldL
  rw [List.mem_filter]
  exact ⟨fun z => z.2, fun z => ⟨mem_allS.mpr (isTold_in z), z⟩⟩
/-- how the seas stand after some squares -/
structure SeasAt (H W : Nat) (rs : List (List Int)) (ps : List Sq) (st : List (List Sq) × List Sq) : Prop where
  made : ∀ l ∈ st.1, ∃ p, isTold H W rs p = true ∧ l = partOf H W rs p
  seen : ∀ q, q ∈ st.2 ↔ ∃ l ∈ st.1, q ∈ l
  all : ∀ p ∈ ps, p ∈ st.2
  len : st.2.length ≤ 81 * ps.length
  len1 : st.1.length ≤ ps.length
theorem SeasAt.step (g : Rc c H W rs) {ps : List Sq} {st : List (List Sq) × List Sq} (h : SeasAt H W rs ps st) {p : Sq} (t : isTold H W rs p = true) : SeasAt H W rs (ps ++ [p]) (seaStep H W rs st p) := by
  unfold seaStep
  by_cases q : p ∈ st.2
  · rw [if_pos q]
    refine ⟨h.made, h.seen, fun x m => ?_, ?_, ?_⟩
    · rcases List.mem_append.mp m with m | m
      · exact h.all x m
      · rw [List.mem_singleton] at m; subst m; exact q
    · have := h.len; rw [List.length_append, List.length_cons, List.length_nil]; omega
    · have := h.len1; rw [List.length_append, List.length_cons, List.length_nil]; omega
  · rw [if_neg q]
    have own : p ∈ partOf H W rs p := mem_part.mpr ⟨0, (farM_ok g t).toFar0.start⟩
    refine ⟨fun l m => ?_, fun x => ⟨fun m => ?_, fun ⟨l, m, y⟩ => ?_⟩, fun x m => ?_, ?_, ?_⟩
    · rcases List.mem_append.mp m with m | m
      · exact h.made l m
      · rw [List.mem_singleton] at m; exact ⟨p, t, m⟩
    · rcases List.mem_append.mp m with m | m
      · obtain ⟨l, ml, y⟩ := (h.seen x).mp m
        exact ⟨l, List.mem_append_left _ ml, y⟩
      · exact ⟨_, List.mem_append_right _ (List.mem_singleton_self _), m⟩
    · rcases List.mem_append.mp m with m | m
      · exact List.mem_append_left _ ((h.seen x).mpr ⟨l, m, y⟩)
      · rw [List.mem_singleton] at m; subst m
        exact List.mem_append_right _ y
    · rcases List.mem_append.mp m with m | m
      · exact List.mem_append_left _ (h.all x m)
      · rw [List.mem_singleton] at m; subst m
        exact List.mem_append_right _ own
    · have := h.len
      have := part_len g t
      simp only [List.length_append, List.length_cons, List.length_nil]
      omega
    · have := h.len1
      simp only [List.length_append, List.length_cons, List.length_nil]
      omega
theorem SeasAt.nil : SeasAt H W rs [] ([], []) := ⟨fun _ m => absurd m List.not_mem_nil, fun q => ⟨fun m => absurd m List.not_mem_nil, fun ⟨_, m, _⟩ => absurd m List.not_mem_nil⟩, fun _ m => absurd m List.not_mem_nil, Nat.zero_le _, Nat.zero_le _⟩
theorem SeasAt.to (g : Rc c H W rs) : ∀ (ps qs : List Sq) (st : List (List Sq) × List Sq), SeasAt H W rs ps st → (∀ q ∈ qs, isTold H W rs q = true) → SeasAt H W rs (ps ++ qs) (qs.foldl (seaStep H W rs) st)
  | ps, [], st, h, _ => by rw [List.append_nil]; exact h
  | ps, q :: qs, st, h, t => by
    have := SeasAt.to g (ps ++ [q]) qs _ (h.step g (t q (List.mem_cons_self ..))) fun x m => t x (List.mem_cons_of_mem _ m)
    rw [List.append_assoc] at this
    exact this
theorem seas_at (g : Rc c H W rs) : SeasAt H W rs (toldL H W rs) ((toldL H W rs).foldl (seaStep H W rs) ([], [])) := by
  have := SeasAt.to g [] (toldL H W rs) _ SeasAt.nil fun q m => mem_toldL.mp m
  exact this
end
/-! ### dicts with squares as keys, whatever they hold -/
def tget {α : Type} (m : List (Sq × α)) (p : Sq) : Option α := (m.find? fun e => decide (e.1 = p)).map (·.2)
def tput {α : Type} (m : List (Sq × α)) (p : Sq) (v : α) : List (Sq × α) := if (m.any fun e => decide (e.1 = p)) = true then m.map (fun e => if e.1 = p then (e.1, v) else e) else m ++ [(p, v)]
def tabD {α : Type} (f : α → D) (m : List (Sq × α)) : D := .dict (tagT :: m.map fun e => (sqD e.1, f e.2))
section
variable {α : Type} (f : α → D)
theorem look_tab (m : List (Sq × α)) (p : Sq) : lookD (m.map fun e => (sqD e.1, f e.2)) (sqD p) = (tget m p).map f := by
  unfold lookD tget
  rw [List.find?_map, Option.map_map, Option.map_map]
  have : (fun kv : D × D => keq kv.1 (sqD p)) ∘ (fun e : Sq × α => (sqD e.1, f e.2)) = fun e => decide (e.1 = p) := by
    funext e
    exact keq_sq e.1 p
  rw [this]
  rfl
theorem lookA_tab (m : List (Sq × α)) (p : Sq) : lookA (tabD f m) (sqD p) = some ((tget m p).map f) := by
  rw [← look_tab]
  rfl
theorem put_tab {m : List (Sq × α)} {p : Sq} {v : α} (l : m.length < 100000) : dputD (tabD f m) (sqD p) (f v) = some (tabD f (tput m p v)) := by
  have an : ((m.map fun e : Sq × α => (sqD e.1, f e.2)).any fun kv => keq kv.1 (sqD p)) = m.any fun e => decide (e.1 = p) := by
    rw [List.any_map]
    congr 1
    funext e
    exact keq_sq e.1 p
  show (if (m.map fun e : Sq × α => (sqD e.1, f e.2)).length < 100000 then some (PyData.dict (tagT :: putD (m.map fun e : Sq × α => (sqD e.1, f e.2)) (sqD p) (f v))) else none) = _
  rw [if_pos (by rw [List.length_map]; exact l)]
  unfold putD tput
  rw [an]
  by_cases q : (m.any fun e => decide (e.1 = p)) = true
  · rw [if_pos q, if_pos q]
    unfold tabD
    rw [List.map_map, List.map_map]
    congr 3
    refine List.map_congr_left fun e _ => ?_
    show (if keq (sqD e.1) (sqD p) = true then (sqD e.1, f v) else (sqD e.1, f e.2)) = (fun e : Sq × α => (sqD e.1, f e.2)) (if e.1 = p then (e.1, v) else e)
    rw [keq_sq]
    by_cases z : e.1 = p
    · rw [if_pos (decide_eq_true z), if_pos z]
    · rw [if_neg (by rw [decide_eq_false z]; decide), if_neg z]
  · rw [if_neg q, if_neg q]
    unfold tabD
    rw [List.map_append]
    rfl
end
section
variable {α : Type}
theorem tget_nil (p : Sq) : tget ([] : List (Sq × α)) p = none := rfl
theorem tget_cons (e : Sq × α) (m : List (Sq × α)) (p : Sq) : tget (e :: m) p = if e.1 = p then some e.2 else tget m p := by
  unfold tget
  rw [List.find?_cons]
  by_cases h : e.1 = p
  · rw [decide_eq_true h, if_pos h]; rfl
  · rw [decide_eq_false h, if_neg h]
theorem tget_any (p : Sq) : ∀ m : List (Sq × α), (m.any fun e => decide (e.1 = p)) = (tget m p).isSome
  | [] => rfl
  | e :: m => by
    rw [List.any_cons, tget_cons, tget_any p m]
    by_cases h : e.1 = p
    · rw [decide_eq_true h, if_pos h]; rfl
    · rw [decide_eq_false h, if_neg h, Bool.false_or]
theorem tget_app (p : Sq) (b : List (Sq × α)) : ∀ a : List (Sq × α), tget (a ++ b) p = (tget a p).or (tget b p)
  | [] => by rw [List.nil_append, tget_nil]; rfl
  | e :: a => by
    rw [List.cons_append, tget_cons, tget_cons, tget_app p b a]
    by_cases h : e.1 = p
    · rw [if_pos h, if_pos h]; rfl
    · rw [if_neg h, if_neg h]
theorem tget_repl (p q : Sq) (v : α) : ∀ m : List (Sq × α), tget (m.map fun e => if e.1 = p then (e.1, v) else e) q = if q = p then (tget m p).map fun _ => v else tget m q
  | [] => by
    rw [List.map_nil, tget_nil, tget_nil]
    split <;> rfl
  | e :: m => by
    rw [List.map_cons, tget_cons, tget_repl p q v m, tget_cons, tget_cons]
    by_cases h : e.1 = p
    · rw [if_pos h]
      by_cases k : q = p
      · subst k
        rw [if_pos h, if_pos rfl, if_pos h]
        rfl
      · rw [if_neg k, if_neg k]
        have ne : ¬ e.1 = q := fun z => k (z.symm.trans h)
        rw [if_neg ne, if_neg ne]
    · rw [if_neg h]
      by_cases k : q = p
      · subst k
        rw [if_neg h, if_pos rfl, if_pos rfl, if_neg h]
      · rw [if_neg k, if_neg k]
theorem tget_put (m : List (Sq × α)) (p q : Sq) (v : α) : tget (tput m p v) q = if q = p then some v else tget m q := by
  unfold tput
  by_cases a : (m.any fun e => decide (e.1 = p)) = true
  · rw [if_pos a, tget_repl]
    rw [tget_any] at a
    obtain ⟨x, ex⟩ := Option.isSome_iff_exists.mp a
    rw [ex]
    rfl
  · rw [if_neg a, tget_app, tget_cons, tget_nil]
    rw [tget_any] at a
    have n : tget m p = none := by
      cases z : tget m p with
      | none => rfl
      | some x => rw [z] at a; exact absurd rfl a
    by_cases k : q = p
    · subst k
      rw [if_pos rfl, if_pos rfl, n]
      rfl
    · rw [if_neg k, if_neg (fun z => k z.symm)]
      cases tget m q <;> rfl
theorem tput_keys (m : List (Sq × α)) (p : Sq) (v : α) : (tput m p v).map (·.1) = if (tget m p).isSome = true then m.map (·.1) else m.map (·.1) ++ [p] := by
  unfold tput
  rw [tget_any]
  by_cases a : (tget m p).isSome = true
  · rw [if_pos a, if_pos a, List.map_map]
    refine List.map_congr_left fun e _ => ?_
    show (if e.1 = p then (e.1, v) else e).1 = e.1
    split <;> rfl
  · rw [if_neg a, if_neg a, List.map_append]
    rfl
theorem tget_none {m : List (Sq × α)} {p : Sq} : tget m p = none ↔ p ∉ m.map (·.1) := by
  induction m with
  | nil => exact ⟨fun _ h => absurd h List.not_mem_nil, fun _ => rfl⟩
  | cons e m ih =>
    rw [tget_cons, List.map_cons, List.mem_cons]
    by_cases h : e.1 = p
    · rw [if_pos h]
      exact ⟨fun z => (by cases z), fun z => absurd (.inl h.symm) z⟩
    · rw [if_neg h, ih]
      exact ⟨fun z y => y.elim (fun w => h w.symm) z, fun z y => z (.inr y)⟩
theorem tput_nodup {m : List (Sq × α)} (h : (m.map (·.1)).Nodup) (p : Sq) (v : α) : ((tput m p v).map (·.1)).Nodup := by
  rw [tput_keys]
  split
  · exact h
  · rename_i a
    refine List.nodup_append.mpr ⟨h, by simp, fun x hx y hy => ?_⟩
    have hy : y = p := by simpa using hy
    subst hy
    rintro rfl
    have n : tget m x = none := by
      cases z : tget m x with
      | none => rfl
      | some w => rw [z] at a; exact absurd rfl a
    exact tget_none.mp n hx
end
/-! ### counts of rings -/
section
variable {c : Int} {H W : Nat} {rs : List (List Int)}
theorem isRing_told {r : List Sq} (h : isRing H W rs r = true) : ∀ p ∈ r, isTold H W rs p = true := by
  unfold isRing at h
  rw [Bool.and_eq_true, Bool.and_eq_true] at h
  exact List.all_eq_true.mp h.2.1
theorem isRing_two {r : List Sq} (h : isRing H W rs r = true) : 2 ≤ r.length := by
  unfold isRing at h
  rw [Bool.and_eq_true] at h
  exact of_decide_eq_true h.1
/-- a closed ring of good squares, of any length -/
structure RingQ (good : Sq → Bool) (r : List Sq) : Prop where
  two : 2 ≤ r.length
  ok : ∀ p ∈ r, good p = true
  adj : ∀ i, i < r.length → r.getD ((i + 1) % r.length) (0, 0) ∈ nexts (r.getD i (0, 0))
theorem RingOk.q {good : Sq → Bool} {r : List Sq} (h : RingOk good r) : RingQ good r := ⟨h.two, h.ok, h.adj⟩
theorem RingQ.is {r : List Sq} (h : RingQ (isTold H W rs) r) : isRing H W rs r = true := by
  unfold isRing
  rw [decide_eq_true h.two, List.all_eq_true.mpr h.ok]
  exact List.all_eq_true.mpr fun i hi => decide_eq_true (h.adj i (List.mem_range.mp hi))
theorem RingQ.of {r : List Sq} (h : isRing H W rs r = true) : RingQ (isTold H W rs) r := by
  refine ⟨isRing_two h, isRing_told h, fun i hi => ?_⟩
  unfold isRing at h
  rw [Bool.and_eq_true, Bool.and_eq_true] at h
  exact of_decide_eq_true (List.all_eq_true.mp h.2.2 i (List.mem_range.mpr hi))
end
/-! ### tables as rows -/
section
variable {c : Int} {H W : Nat} {rs : List (List Int)}
theorem part_told (g : Rc c H W rs) {p q : Sq} (t : isTold H W rs p = true) (m : q ∈ partOf H W rs p) : isTold H W rs q = true := by
  obtain ⟨n, hn⟩ := mem_part.mp m
  exact (farM_ok g t).toFar0.ok _ hn
end
/-! ### sets of squares, as dicts -/
def doneAll (d : List Sq) (l : List Sq) : List Sq := l.foldl (fun d q => if q ∈ d then d else d ++ [q]) d
theorem doneAll_len (l : List Sq) : ∀ d : List Sq, (doneAll d l).length ≤ d.length + l.length := by
  induction l with
  | nil => intro d; exact Nat.le_refl _
  | cons q l ih =>
    intro d
    have h := ih (if q ∈ d then d else d ++ [q])
    have e : doneAll d (q :: l) = doneAll (if q ∈ d then d else d ++ [q]) l := rfl
    rw [e]
    have : (if q ∈ d then d else d ++ [q]).length ≤ d.length + 1 := by split <;> simp
    simp only [List.length_cons]
    omega
theorem mem_doneAll (q : Sq) : ∀ (l d : List Sq), q ∈ doneAll d l ↔ q ∈ d ∨ q ∈ l
  | [], d => by unfold doneAll; simp
  | x :: l, d => by
    have e : doneAll d (x :: l) = doneAll (if x ∈ d then d else d ++ [x]) l := rfl
    rw [e, mem_doneAll q l]
    split
    · rename_i h
      rw [List.mem_cons]
      constructor
      · rintro (h | h)
        · exact .inl h
        · exact .inr (.inr h)
      · rintro (h | rfl | h)
        · exact .inl h
        · exact .inl ‹_›
        · exact .inr h
    · rw [List.mem_append, List.mem_singleton, List.mem_cons, or_assoc]

/-! ### ages: one neighbour -/
def ageStep (c : Int) (H W : Nat) (rs : List (List Int)) (a : Sq) (v : Int) (st : List (Sq × Int) × List Sq) (q : Sq) : List (Sq × Int) × List Sq :=
  if isTold H W rs q = true ∧ tget st.1 q = none then (tput st.1 q (v + stepI c (whatI H W rs a) (whatI H W rs q)), st.2 ++ [q]) else st
/-! ### ages: all of them -/
structure Ag (H W : Nat) (rs : List (List Int)) (k : Nat) (st : List (Sq × Int) × List Sq) : Prop where
  nd : (st.1.map (·.1)).Nodup
  told : ∀ p, (tget st.1 p).isSome = true → isTold H W rs p = true
  lnd : st.2.Nodup
  lin : ∀ p ∈ st.2, (tget st.1 p).isSome = true
  cl : ∀ p, (tget st.1 p).isSome = true → (∃ j, k ≤ j ∧ st.2[j]? = some p) ∨ ∀ q ∈ nexts p, isTold H W rs q = true → (tget st.1 q).isSome = true
/-- none is lost -/
def Mo (m m' : List (Sq × Int)) : Prop := ∀ p, (tget m p).isSome = true → (tget m' p).isSome = true
theorem Mo.put (m : List (Sq × Int)) (p : Sq) (v : Int) : Mo m (tput m p v) := fun q h => by
  rw [tget_put]
  split
  · rfl
  · exact h
section
variable {c : Int} {H W : Nat} {rs : List (List Int)} {a : Sq} {v : Int} {k : Nat}
theorem Ag.step {st : List (Sq × Int) × List Sq} (h : Ag H W rs k st) (hk : st.2[k]? = some a) (q : Sq) :
    Ag H W rs k (ageStep c H W rs a v st q) ∧ Mo st.1 (ageStep c H W rs a v st q).1 ∧ (ageStep c H W rs a v st q).2[k]? = some a ∧ (isTold H W rs q = true → (tget (ageStep c H W rs a v st q).1 q).isSome = true) := by
  unfold ageStep
  by_cases x : isTold H W rs q = true ∧ tget st.1 q = none
  · rw [if_pos x]
    have kl := (List.getElem?_eq_some_iff.mp hk).1
    have mo := Mo.put st.1 q (v + stepI c (whatI H W rs a) (whatI H W rs q))
    have own : (tget (tput st.1 q (v + stepI c (whatI H W rs a) (whatI H W rs q))) q).isSome = true := by rw [tget_put, if_pos rfl]; rfl
    refine ⟨⟨tput_nodup h.nd _ _, fun p hp => ?_, ?_, fun p m => ?_, fun p hp => ?_⟩, mo, ?_, fun _ => own⟩
    · rw [tget_put] at hp
      by_cases e : p = q
      · rw [e]; exact x.1
      · rw [if_neg e] at hp; exact h.told p hp
    · refine List.nodup_append.mpr ⟨h.lnd, List.nodup_cons.mpr ⟨List.not_mem_nil, .nil⟩, fun y my z mz => ?_⟩
      rw [List.mem_singleton.mp mz]
      intro e
      have := h.lin y my
      rw [e, x.2] at this
      cases this
    · rcases List.mem_append.mp m with m | m
      · exact mo p (h.lin p m)
      · rw [List.mem_singleton.mp m]; exact own
    · by_cases e : p = q
      · refine .inl ⟨st.2.length, by omega, ?_⟩
        rw [e]
        simp
      · rw [tget_put, if_neg e] at hp
        rcases h.cl p hp with ⟨j, j1, j2⟩ | z
        · exact .inl ⟨j, j1, by rw [List.getElem?_append_left (List.getElem?_eq_some_iff.mp j2).1]; exact j2⟩
        · exact .inr fun y my t => mo y (z y my t)
    · rw [List.getElem?_append_left kl]; exact hk
  · rw [if_neg x]
    refine ⟨h, fun _ z => z, hk, fun t => ?_⟩
    cases e : tget st.1 q with
    | none => exact absurd ⟨t, e⟩ x
    | some z => rfl
theorem Ag.steps : ∀ (qs : List Sq) {st : List (Sq × Int) × List Sq}, Ag H W rs k st → st.2[k]? = some a →
    Ag H W rs k (qs.foldl (ageStep c H W rs a v) st) ∧ Mo st.1 (qs.foldl (ageStep c H W rs a v) st).1 ∧ (qs.foldl (ageStep c H W rs a v) st).2[k]? = some a ∧ ∀ q ∈ qs, isTold H W rs q = true → (tget (qs.foldl (ageStep c H W rs a v) st).1 q).isSome = true
  | [], st, h, hk => ⟨h, fun _ z => z, hk, fun _ m => absurd m List.not_mem_nil⟩
  | q :: qs, st, h, hk => by
    obtain ⟨h1, h2, h3, h4⟩ := h.step (c := c) (v := v) hk q
    obtain ⟨k1, k2, k3, k4⟩ := Ag.steps qs h1 h3
    refine ⟨k1, fun p z => k2 p (h2 p z), k3, fun y m t => ?_⟩
    rcases List.mem_cons.mp m with rfl | m
    · exact k2 _ (h4 t)
    · exact k4 y m t
/-- a turn of the loop over range(81) -/
def ageTurn (c : Int) (H W : Nat) (rs : List (List Int)) (st : List (Sq × Int) × List Sq) (k : Nat) : List (Sq × Int) × List Sq := match st.2[k]? with
  | some a => (nexts a).foldl (ageStep c H W rs a ((tget st.1 a).getD 0)) st
  | none => st
theorem Ag.turn {st : List (Sq × Int) × List Sq} (h : Ag H W rs k st) : Ag H W rs (k + 1) (ageTurn c H W rs st k) ∧ Mo st.1 (ageTurn c H W rs st k).1 := by
  unfold ageTurn
  cases e : st.2[k]? with
  | none =>
    refine ⟨⟨h.nd, h.told, h.lnd, h.lin, fun p hp => ?_⟩, fun _ z => z⟩
    rcases h.cl p hp with ⟨j, j1, j2⟩ | z
    · have := (List.getElem?_eq_some_iff.mp j2).1
      have := List.getElem?_eq_none_iff.mp e
      omega
    · exact .inr z
  | some a =>
    dsimp only
    obtain ⟨k1, k2, k3, k4⟩ := Ag.steps (c := c) (v := (tget st.1 a).getD 0) (nexts a) h e
    refine ⟨⟨k1.nd, k1.told, k1.lnd, k1.lin, fun p hp => ?_⟩, k2⟩
    rcases k1.cl p hp with ⟨j, j1, j2⟩ | z
    · by_cases ej : j = k
      · subst ej
        rw [k3] at j2
        cases j2
        exact .inr fun y my t => k4 y my t
      · exact .inl ⟨j, by omega, j2⟩
    · exact .inr z
theorem Ag.lens {st : List (Sq × Int) × List Sq} (g : Rc c H W rs) (h : Ag H W rs k st) : st.1.length ≤ 81 ∧ st.2.length ≤ 81 := by
  have u := allS_len g
  have sub : ∀ p, isTold H W rs p = true → p ∈ allS H W := fun p t => mem_allS.mpr (isTold_in t)
  have key : ∀ e ∈ st.1.map (·.1), (tget st.1 e).isSome = true := fun e m => by
    cases q : tget st.1 e with
    | none => exact absurd m (tget_none.mp q)
    | some z => rfl
  have a1 := nodup_len _ _ h.nd fun e m => sub e (h.told e (key e m))
  have a2 := nodup_len _ _ h.lnd fun e m => sub e (h.told e (h.lin e m))
  rw [List.length_map] at a1
  omega
/-- the table between seas -/
structure Tb (H W : Nat) (rs : List (List Int)) (m : List (Sq × Int)) : Prop where
  nd : (m.map (·.1)).Nodup
  told : ∀ p, (tget m p).isSome = true → isTold H W rs p = true
  cl : ∀ p, (tget m p).isSome = true → ∀ q ∈ nexts p, isTold H W rs q = true → (tget m q).isSome = true
theorem Ag.start {m : List (Sq × Int)} (h : Tb H W rs m) {p : Sq} (t : isTold H W rs p = true) (v : Int) : Ag H W rs 0 (tput m p v, [p]) := by
  have mo := Mo.put m p v
  refine ⟨tput_nodup h.nd _ _, fun q hq => ?_, List.nodup_cons.mpr ⟨List.not_mem_nil, .nil⟩, fun q mq => ?_, fun q hq => ?_⟩
  · rw [tget_put] at hq
    by_cases e : q = p
    · rw [e]; exact t
    · rw [if_neg e] at hq; exact h.told q hq
  · rw [List.mem_singleton.mp mq]
    show (tget (tput m p v) p).isSome = true
    rw [tget_put, if_pos rfl]; rfl
  · by_cases e : q = p
    · exact .inl ⟨0, Nat.le_refl _, by rw [e]; rfl⟩
    · rw [tget_put, if_neg e] at hq
      exact .inr fun y my ty => mo y (h.cl q hq y my ty)
theorem Ag.tb {st : List (Sq × Int) × List Sq} (g : Rc c H W rs) (h : Ag H W rs 81 st) : Tb H W rs st.1 := ⟨h.nd, h.told, fun p hp => by
  rcases h.cl p hp with ⟨j, j1, j2⟩ | z
  · have := (List.getElem?_eq_some_iff.mp j2).1
    have := (h.lens g).2
    omega
  · exact z⟩
/-- all seas have ages -/
structure Aged (H W : Nat) (rs : List (List Int)) (m : List (Sq × Int)) : Prop where
  nd : (m.map (·.1)).Nodup
  told : ∀ p, (tget m p).isSome = true → isTold H W rs p = true
  has : ∀ l ∈ seas H W rs, ∀ q ∈ l, (tget m q).isSome = true
end
/-! ### rows that fit, rows that are laid -/
theorem seq_nx {f g : SF} {ρ ρ1 : En} (h : f ρ = .nx ρ1) : seqS f g ρ = g ρ1 := by unfold seqS; rw [h]
theorem for_src {t : Tg} {src : En → O (List D)} {body : SF} {ρ ρ1 : En} {ds : List D} (h : src ρ = .ok ds ρ1) : forS t src body ρ = forLoop t body ds ρ1 := by unfold forS; rw [h, then_ok]
/-! ### corners, sides about them -/
def acrossS (p : Sq) : List ((Sq × Sq) × Sq) :=
  [(((p.1, p.2), (p.1, p.2 + 1)), (p.1 - 1, p.2)), (((p.1, p.2 + 1), (p.1 + 1, p.2 + 1)), (p.1, p.2 + 1)), (((p.1 + 1, p.2 + 1), (p.1 + 1, p.2)), (p.1 + 1, p.2)), (((p.1 + 1, p.2), (p.1, p.2)), (p.1, p.2 - 1))]
section
variable {c : Int} {H W : Nat} {rs : List (List Int)}
def isSide (H W : Nat) (rs : List (List Int)) (p : Sq × Sq) : Bool := isTold H W rs p.1 && isTold H W rs p.2
/-- the steps about a corner -/
def whirlStep (c : Int) (H W : Nat) (rs : List (List Int)) (s : Int) (x : (Sq × Sq) × Sq) : Int := if isSide H W rs x.1 = true then s + stepI c (whatI H W rs x.1.1) (whatI H W rs x.1.2) else s
def whirlI (c : Int) (H W : Nat) (rs : List (List Int)) (p : Sq) : Int := (acrossS p).foldl (whirlStep c H W rs) 0
end
/-! ### an eye grows -/
abbrev GS := List Sq × List Sq × Bool
def gStep (told : Sq → Bool) (known : List Sq) (st : GS) (x : (Sq × Sq) × Sq) : GS :=
  if (told x.1.1 && told x.1.2) = true then st else if x.2 ∈ known then (if x.2 ∈ st.1 then st else (st.1 ++ [x.2], st.2.1 ++ [x.2], st.2.2)) else (st.1, st.2.1, true)
def gTurn (told : Sq → Bool) (known : List Sq) (st : GS) : GS := match st.2.1[st.2.1.length - 1]? with
  | none => st
  | some p => (acrossS p).foldl (gStep told known) (st.1, st.2.1.dropLast, st.2.2)
def gLoop (told : Sq → Bool) (known : List Sq) : Nat → GS → GS
  | 0, st => st
  | n + 1, st => if st.2.1 = [] then st else gLoop told known n (gTurn told known st)
structure GOk (known : List Sq) (st : GS) : Prop where
  nd : st.1.Nodup
  sub : ∀ p ∈ st.1, p ∈ known
  line : st.2.1.length ≤ known.length + st.1.length
def gMu (known : List Sq) (st : GS) : Nat := 2 * (known.length - st.1.length) + st.2.1.length
theorem GOk.len {known : List Sq} {st : GS} (h : GOk known st) : st.1.length ≤ known.length := nodup_len _ _ h.nd h.sub
theorem gStep_ok {told : Sq → Bool} {known : List Sq} {st : GS} (h : GOk known st) (x : (Sq × Sq) × Sq) : GOk known (gStep told known st x) ∧ gMu known (gStep told known st x) ≤ gMu known st := by
  unfold gStep
  split
  · exact ⟨h, Nat.le_refl _⟩
  · split
    · rename_i hk
      split
      · exact ⟨h, Nat.le_refl _⟩
      · rename_i hs
        have h' : GOk known (st.1 ++ [x.2], st.2.1 ++ [x.2], st.2.2) := by
          refine ⟨List.nodup_append.mpr ⟨h.nd, List.nodup_cons.mpr ⟨List.not_mem_nil, .nil⟩, fun y my z mz => ?_⟩, fun p m => ?_, ?_⟩
          · rw [List.mem_singleton.mp mz]
            exact fun e => hs (e ▸ my)
          · rcases List.mem_append.mp m with m | m
            · exact h.sub p m
            · rw [List.mem_singleton.mp m]; exact hk
          · have := h.line
            simp only [List.length_append, List.length_cons, List.length_nil]
            omega
        refine ⟨h', ?_⟩
        have l1 := h'.len
        unfold gMu
        simp only [List.length_append, List.length_cons, List.length_nil] at l1 ⊢
        omega
    · exact ⟨⟨h.nd, h.sub, h.line⟩, Nat.le_refl _⟩
theorem gSteps_ok {told : Sq → Bool} {known : List Sq} : ∀ (xs : List ((Sq × Sq) × Sq)) {st : GS}, GOk known st → GOk known (xs.foldl (gStep told known) st) ∧ gMu known (xs.foldl (gStep told known) st) ≤ gMu known st
  | [], _, h => ⟨h, Nat.le_refl _⟩
  | x :: xs, st, h => by
    obtain ⟨h1, m1⟩ := gStep_ok (told := told) h x
    obtain ⟨h2, m2⟩ := gSteps_ok (told := told) xs h1
    exact ⟨h2, Nat.le_trans m2 m1⟩
theorem gTurn_ok {told : Sq → Bool} {known : List Sq} {st : GS} (h : GOk known st) (hl : st.2.1 ≠ []) : GOk known (gTurn told known st) ∧ gMu known (gTurn told known st) < gMu known st := by
  have l0 : 0 < st.2.1.length := List.length_pos_iff.mpr hl
  unfold gTurn
  rw [List.getElem?_eq_getElem (by omega)]
  dsimp only
  have h' : GOk known (st.1, st.2.1.dropLast, st.2.2) := ⟨h.nd, h.sub, by have := h.line; show st.2.1.dropLast.length ≤ known.length + st.1.length; rw [List.length_dropLast]; omega⟩
  obtain ⟨h2, m2⟩ := gSteps_ok (told := told) (acrossS (st.2.1[st.2.1.length - 1])) h'
  refine ⟨h2, Nat.lt_of_le_of_lt m2 ?_⟩
  unfold gMu
  simp only [List.length_dropLast]
  omega
/-! ### .. as the program grows it -/
section
variable {c : Int} {H W : Nat} {rs : List (List Int)}
/-- the eye of a corner, and whether it opens to the outside -/
@[irreducible] def gRes (told : Sq → Bool) (known : List Sq) (p : Sq) : List Sq × Bool := (psort (gLoop told known 100000 ([p], [p], false)).1, (gLoop told known 100000 ([p], [p], false)).2.2)
theorem gLoop_ok {told : Sq → Bool} {known : List Sq} : ∀ (n : Nat) {st : GS}, GOk known st → GOk known (gLoop told known n st)
  | 0, _, h => h
  | n + 1, st, h => by
    unfold gLoop
    split
    · exact h
    · rename_i q
      exact gLoop_ok n (gTurn_ok h q).1
theorem gRes_len {told : Sq → Bool} {known : List Sq} {p : Sq} (hp : p ∈ known) : (gRes told known p).1.length ≤ known.length := by
  unfold gRes
  rw [(psort_perm _).length_eq]
  exact (gLoop_ok 100000 (st := ([p], [p], false)) ⟨List.nodup_cons.mpr ⟨List.not_mem_nil, .nil⟩, fun q m => by rw [List.mem_singleton.mp m]; exact hp, by simp⟩).len
end
/-! ### all eyes -/
/-- eyes, the corners' places, the corners that are done -/
abbrev ES := List (List Sq) × List (Sq × Int) × List Sq
def placeAll (m : List (Sq × Int)) (n : Int) (l : List Sq) : List (Sq × Int) := l.foldl (fun m q => tput m q n) m
def eStep (told : Sq → Bool) (known : List Sq) (st : ES) (p : Sq) : ES := if p ∈ st.2.2 then st else
  (if (gRes told known p).2 = true then st.1 else st.1 ++ [(gRes told known p).1], if (gRes told known p).2 = true then st.2.1 else placeAll st.2.1 st.1.length (gRes told known p).1, doneAll st.2.2 (gRes told known p).1)
theorem tput_len {α : Type} (m : List (Sq × α)) (p : Sq) (v : α) : (tput m p v).length ≤ m.length + 1 := by
  unfold tput
  split
  · rw [List.length_map]; omega
  · simp
theorem placeAll_len (n : Int) (l : List Sq) : ∀ m : List (Sq × Int), (placeAll m n l).length ≤ m.length + l.length := by
  induction l with
  | nil => intro m; exact Nat.le_refl _
  | cons q l ih =>
    intro m
    have h := ih (tput m q n)
    have e : placeAll m n (q :: l) = placeAll (tput m q n) n l := rfl
    rw [e]
    have := tput_len m q n
    simp only [List.length_cons]
    omega
section
variable {c : Int} {H W : Nat} {rs : List (List Int)}
/-- bounds after some corners -/
structure EOk (k : Nat) (st : ES) : Prop where
  f : st.1.length ≤ k
  l : ∀ l ∈ st.1, l.length ≤ 64
  m : st.2.1.length ≤ 64 * k
  d : st.2.2.length ≤ 64 * k
theorem EOk.step {told : Sq → Bool} {known : List Sq} {k : Nat} {st : ES} (h : EOk k st) (hk : known.length ≤ 64) {p : Sq} (hp : p ∈ known) : EOk (k + 1) (eStep told known st p) := by
  have gl := gRes_len (told := told) hp
  unfold eStep
  split
  · exact ⟨Nat.le_succ_of_le h.f, h.l, by have := h.m; omega, by have := h.d; omega⟩
  · have b1 := doneAll_len (gRes told known p).1 st.2.2
    have b2 := placeAll_len st.1.length (gRes told known p).1 st.2.1
    have hm := h.m
    have hd := h.d
    have hf := h.f
    refine ⟨?_, fun l ml => ?_, ?_, ?_⟩
    · dsimp only
      split
      · omega
      · rw [List.length_append]; simp only [List.length_cons, List.length_nil]; omega
    · dsimp only at ml
      split at ml
      · exact h.l l ml
      · rcases List.mem_append.mp ml with ml | ml
        · exact h.l l ml
        · rw [List.mem_singleton.mp ml]; omega
    · dsimp only
      split <;> omega
    · dsimp only
      omega
end
/-! ### where nothing is told -/
theorem gLoop_end {told : Sq → Bool} {known : List Sq} : ∀ (n : Nat) (st : GS), GOk known st → gMu known st < n → (gLoop told known n st).2.1 = []
  | 0, _, _, hm => absurd hm (Nat.not_lt_zero _)
  | n + 1, st, h, hm => by
    unfold gLoop
    by_cases q : st.2.1 = []
    · rw [if_pos q]; exact q
    · rw [if_neg q]
      obtain ⟨h2, m2⟩ := gTurn_ok (told := told) h q
      exact gLoop_end n _ h2 (by omega)
theorem gStep_mono {told : Sq → Bool} {known : List Sq} (st : GS) (x : (Sq × Sq) × Sq) : (st.2.2 = true → (gStep told known st x).2.2 = true) ∧ (∀ q ∈ st.1, q ∈ (gStep told known st x).1) ∧ (∀ q ∈ st.2.1, q ∈ (gStep told known st x).2.1) ∧ (∀ q ∈ (gStep told known st x).1, q ∈ st.1 ∨ q ∈ (gStep told known st x).2.1) ∧
    ((gStep told known st x).2.2 = true ∨ ((told x.1.1 && told x.1.2) = false → x.2 ∈ (gStep told known st x).1)) := by
  unfold gStep
  split
  · rename_i h
    exact ⟨id, fun _ m => m, fun _ m => m, fun _ m => .inl m, .inr fun z => by rw [h] at z; cases z⟩
  · split
    · split
      · rename_i hs
        exact ⟨id, fun _ m => m, fun _ m => m, fun _ m => .inl m, .inr fun _ => hs⟩
      · refine ⟨id, fun _ m => List.mem_append_left _ m, fun _ m => List.mem_append_left _ m, fun q m => ?_, .inr fun _ => List.mem_append_right _ List.mem_cons_self⟩
        rcases List.mem_append.mp m with m | m
        · exact .inl m
        · exact .inr (List.mem_append_right _ m)
    · exact ⟨fun _ => rfl, fun _ m => m, fun _ m => m, fun _ m => .inl m, .inl rfl⟩
theorem gSteps_mono {told : Sq → Bool} {known : List Sq} : ∀ (xs : List ((Sq × Sq) × Sq)) (st : GS), (st.2.2 = true → (xs.foldl (gStep told known) st).2.2 = true) ∧ (∀ q ∈ st.1, q ∈ (xs.foldl (gStep told known) st).1) ∧ (∀ q ∈ st.2.1, q ∈ (xs.foldl (gStep told known) st).2.1) ∧ (∀ q ∈ (xs.foldl (gStep told known) st).1, q ∈ st.1 ∨ q ∈ (xs.foldl (gStep told known) st).2.1) ∧
    ((xs.foldl (gStep told known) st).2.2 = true ∨ ∀ x ∈ xs, (told x.1.1 && told x.1.2) = false → x.2 ∈ (xs.foldl (gStep told known) st).1)
  | [], st => ⟨id, fun _ m => m, fun _ m => m, fun _ m => .inl m, .inr fun _ m => absurd m List.not_mem_nil⟩
  | x :: xs, st => by
    obtain ⟨a1, a2, a3, a4, a5⟩ := gStep_mono (told := told) (known := known) st x
    obtain ⟨b1, b2, b3, b4, b5⟩ := gSteps_mono xs (gStep told known st x)
    rw [List.foldl_cons]
    refine ⟨fun z => b1 (a1 z), fun q m => b2 q (a2 q m), fun q m => b3 q (a3 q m), fun q m => ?_, ?_⟩
    · rcases b4 q m with m | m
      · rcases a4 q m with m | m
        · exact .inl m
        · exact .inr (b3 q m)
      · exact .inr m
    · rcases a5 with z | z
      · exact .inl (b1 z)
      · rcases b5 with y | y
        · exact .inl y
        · refine .inr fun w mw hw => ?_
          rcases List.mem_cons.mp mw with rfl | mw
          · exact b2 _ (z hw)
          · exact y w mw hw
/-! ### what an eye reaches -/
def Bey (told : Sq → Bool) (q b : Sq) : Prop := ∃ x ∈ acrossS q, (told x.1.1 && told x.1.2) = false ∧ x.2 = b
inductive Rch (told : Sq → Bool) (known : List Sq) (p : Sq) : Sq → Prop
  | refl : Rch told known p p
  | step {q b : Sq} : Rch told known p q → Bey told q b → b ∈ known → Rch told known p b
structure GI (told : Sq → Bool) (known : List Sq) (p : Sq) (st : GS) : Prop where
  rch : ∀ q ∈ st.1, Rch told known p q
  sub : ∀ q ∈ st.2.1, q ∈ st.1
  opn : st.2.2 = true → ∃ q ∈ st.1, ∃ b, Bey told q b ∧ b ∉ known
  beg : p ∈ st.1
def GD (told : Sq → Bool) (known : List Sq) (st : GS) (q : Sq) : Prop := ∀ b, Bey told q b → (b ∈ known → b ∈ st.1) ∧ (b ∉ known → st.2.2 = true)
section
variable {told : Sq → Bool} {known : List Sq} {p : Sq}
theorem GI.step {st : GS} (h : GI told known p st) {q : Sq} {x : (Sq × Sq) × Sq} (mq : q ∈ st.1) (mx : x ∈ acrossS q) : GI told known p (gStep told known st x) := by
  unfold gStep
  split
  · exact h
  · rename_i ho
    have ho' : (told x.1.1 && told x.1.2) = false := Bool.eq_false_iff.mpr ho
    split
    · rename_i hk
      split
      · exact h
      · refine ⟨fun r m => ?_, fun r m => ?_, fun e => ?_, List.mem_append_left _ h.beg⟩
        · rcases List.mem_append.mp m with m | m
          · exact h.rch r m
          · rw [List.mem_singleton.mp m]; exact .step (h.rch q mq) ⟨x, mx, ho', rfl⟩ hk
        · rcases List.mem_append.mp m with m | m
          · exact List.mem_append_left _ (h.sub r m)
          · exact List.mem_append_right _ m
        · obtain ⟨r, m, b, hb⟩ := h.opn e
          exact ⟨r, List.mem_append_left _ m, b, hb⟩
    · rename_i hk
      exact ⟨h.rch, h.sub, fun _ => ⟨q, mq, x.2, ⟨x, mx, ho', rfl⟩, hk⟩, h.beg⟩
theorem GI.steps {q : Sq} : ∀ (xs : List ((Sq × Sq) × Sq)) {st : GS}, GI told known p st → q ∈ st.1 → (∀ x ∈ xs, x ∈ acrossS q) → GI told known p (xs.foldl (gStep told known) st)
  | [], _, h, _, _ => h
  | x :: xs, st, h, mq, hx => GI.steps xs (h.step mq (hx x List.mem_cons_self)) ((gStep_mono st x).2.1 q mq) fun y m => hx y (List.mem_cons_of_mem _ m)
theorem gSteps_did : ∀ (xs : List ((Sq × Sq) × Sq)) (st : GS), ∀ x ∈ xs, (told x.1.1 && told x.1.2) = false → (x.2 ∈ known → x.2 ∈ (xs.foldl (gStep told known) st).1) ∧ (x.2 ∉ known → (xs.foldl (gStep told known) st).2.2 = true)
  | [], _, _, m, _ => absurd m List.not_mem_nil
  | y :: xs, st, x, m, hx => by
    rw [List.foldl_cons]
    obtain ⟨b1, b2, _⟩ := gSteps_mono (told := told) (known := known) xs (gStep told known st y)
    rcases List.mem_cons.mp m with rfl | m
    · constructor
      · intro hk
        refine b2 _ ?_
        unfold gStep
        rw [if_neg (by rw [hx]; decide), if_pos hk]
        split
        · rename_i hs; exact hs
        · exact List.mem_append_right _ List.mem_cons_self
      · intro hk
        refine b1 ?_
        unfold gStep
        rw [if_neg (by rw [hx]; decide), if_neg hk]
    · exact gSteps_did xs _ x m hx
theorem GD.steps {st : GS} {q : Sq} (h : GD told known st q) (xs : List ((Sq × Sq) × Sq)) : GD told known (xs.foldl (gStep told known) st) q := fun b hb => by
  obtain ⟨b1, b2, _⟩ := gSteps_mono (told := told) (known := known) xs st
  exact ⟨fun k => b2 _ ((h b hb).1 k), fun k => b1 ((h b hb).2 k)⟩
theorem gSteps_gd (q : Sq) (st : GS) : GD told known ((acrossS q).foldl (gStep told known) st) q := fun b hb => by
  obtain ⟨x, mx, ho, rfl⟩ := hb
  exact gSteps_did _ st x mx ho
/-- what has been popped is done -/
def GA (told : Sq → Bool) (known : List Sq) (st : GS) : Prop := ∀ q ∈ st.1, q ∈ st.2.1 ∨ GD told known st q
theorem gTurn_inv {st : GS} (h : GI told known p st) (a : GA told known st) (hl : st.2.1 ≠ []) : GI told known p (gTurn told known st) ∧ GA told known (gTurn told known st) := by
  have l0 : 0 < st.2.1.length := List.length_pos_iff.mpr hl
  have el : st.2.1 = st.2.1.dropLast ++ [st.2.1[st.2.1.length - 1]'(by omega)] := by
    have := (List.dropLast_concat_getLast hl).symm
    rw [List.getLast_eq_getElem] at this
    exact this
  unfold gTurn
  rw [List.getElem?_eq_getElem (by omega)]
  dsimp only
  generalize st.2.1[st.2.1.length - 1]'(by omega) = r at el
  have mr : r ∈ st.1 := h.sub r (by rw [el]; exact List.mem_append_right _ List.mem_cons_self)
  have h0 : GI told known p (st.1, st.2.1.dropLast, st.2.2) := ⟨h.rch, fun q m => h.sub q (by rw [el]; exact List.mem_append_left _ m), h.opn, h.beg⟩
  obtain ⟨b1, b2, b3, b4, _⟩ := gSteps_mono (told := told) (known := known) (acrossS r) (st.1, st.2.1.dropLast, st.2.2)
  refine ⟨GI.steps (q := r) _ h0 mr fun x m => m, fun q m => ?_⟩
  rcases b4 q m with m | m
  · rcases a q m with z | z
    · rw [el] at z
      rcases List.mem_append.mp z with z | z
      · exact .inl (b3 q z)
      · rw [List.mem_singleton.mp z]; exact .inr (gSteps_gd r _)
    · exact .inr (GD.steps (st := (st.1, st.2.1.dropLast, st.2.2)) z _)
  · exact .inl m
theorem gLoop_inv : ∀ (n : Nat) {st : GS}, GI told known p st → GA told known st → GI told known p (gLoop told known n st) ∧ GA told known (gLoop told known n st)
  | 0, _, h, a => ⟨h, a⟩
  | n + 1, st, h, a => by
    unfold gLoop
    split
    · exact ⟨h, a⟩
    · rename_i q
      obtain ⟨h2, a2⟩ := gTurn_inv h a q
      exact gLoop_inv n h2 a2
/-- all that is reached, and whether the outside is -/
structure GF (told : Sq → Bool) (known : List Sq) (p : Sq) (st : GS) : Prop where
  nd : st.1.Nodup
  mem : ∀ q, q ∈ st.1 ↔ Rch told known p q
  opn : st.2.2 = true ↔ ∃ q, Rch told known p q ∧ ∃ b, Bey told q b ∧ b ∉ known
theorem GF.of {st : GS} (h : GI told known p st) (nd : st.1.Nodup) (a : ∀ q ∈ st.1, GD told known st q) : GF told known p st := by
  have mem : ∀ q, q ∈ st.1 ↔ Rch told known p q := fun q => by
    refine ⟨h.rch q, fun r => ?_⟩
    induction r with
    | refl => exact h.beg
    | step _ hb hk ih => exact (a _ ih _ hb).1 hk
  refine ⟨nd, mem, fun e => ?_, fun ⟨q, r, b, hb, hk⟩ => ?_⟩
  · obtain ⟨q, m, b, hb⟩ := h.opn e
    exact ⟨q, h.rch q m, b, hb⟩
  · exact (a q ((mem q).mpr r) b hb).2 hk
theorem start_ok (hp : p ∈ known) : GOk known ([p], [p], false) := ⟨List.nodup_cons.mpr ⟨List.not_mem_nil, .nil⟩, fun q m => by rw [List.mem_singleton.mp m]; exact hp, by simp⟩
theorem start_inv : GI told known p ([p], [p], false) := ⟨fun q m => by rw [List.mem_singleton.mp m]; exact .refl, fun _ m => m, fun z => (by cases z), List.mem_cons_self⟩
theorem gLoop_gf (hk : known.length ≤ 64) (hp : p ∈ known) : GF told known p (gLoop told known 100000 ([p], [p], false)) := by
  have e := gLoop_end (told := told) 100000 _ (start_ok hp) (by unfold gMu; simp only [List.length_cons, List.length_nil]; omega)
  obtain ⟨h, a⟩ := gLoop_inv (told := told) (known := known) (p := p) 100000 start_inv fun q m => .inl m
  refine GF.of h (gLoop_ok 100000 (start_ok hp)).nd fun q m => ?_
  rcases a q m with z | z
  · rw [e] at z; exact absurd z List.not_mem_nil
  · exact z
/-! ### the law's way: each corner found is looked at in its turn -/
def lTurn (told : Sq → Bool) (known : List Sq) (st : GS) (n : Nat) : GS := match st.1[n]? with
  | none => st
  | some q => (acrossS q).foldl (gStep told known) st
theorem gStep_pre (st : GS) (x : (Sq × Sq) × Sq) : st.1 <+: (gStep told known st x).1 := by
  unfold gStep
  split
  · exact List.prefix_rfl
  · split
    · split
      · exact List.prefix_rfl
      · exact List.prefix_append _ _
    · exact List.prefix_rfl
theorem gSteps_pre : ∀ (xs : List ((Sq × Sq) × Sq)) (st : GS), st.1 <+: (xs.foldl (gStep told known) st).1
  | [], _ => List.prefix_rfl
  | x :: xs, st => (gStep_pre st x).trans (gSteps_pre xs _)
structure LI (told : Sq → Bool) (known : List Sq) (p : Sq) (n : Nat) (st : GS) : Prop where
  gi : GI told known p st
  nd : st.1.Nodup
  sub : ∀ q ∈ st.1, q ∈ known
  did : ∀ k < n, ∀ q, st.1[k]? = some q → GD told known st q
theorem gSteps_nd : ∀ (xs : List ((Sq × Sq) × Sq)) (st : GS), st.1.Nodup → (∀ q ∈ st.1, q ∈ known) → (xs.foldl (gStep told known) st).1.Nodup ∧ ∀ q ∈ (xs.foldl (gStep told known) st).1, q ∈ known
  | [], _, h, s => ⟨h, s⟩
  | x :: xs, st, h, s => by
    rw [List.foldl_cons]
    have key : (gStep told known st x).1.Nodup ∧ ∀ q ∈ (gStep told known st x).1, q ∈ known := by
      unfold gStep
      split
      · exact ⟨h, s⟩
      · split
        · rename_i hk
          split
          · exact ⟨h, s⟩
          · rename_i hs
            refine ⟨List.nodup_append.mpr ⟨h, List.nodup_cons.mpr ⟨List.not_mem_nil, .nil⟩, fun y my z mz => ?_⟩, fun q m => ?_⟩
            · rw [List.mem_singleton.mp mz]
              exact fun e => hs (e ▸ my)
            · rcases List.mem_append.mp m with m | m
              · exact s q m
              · rw [List.mem_singleton.mp m]; exact hk
        · exact ⟨h, s⟩
    exact gSteps_nd xs _ key.1 key.2
theorem LI.turn {n : Nat} {st : GS} (h : LI told known p n st) : LI told known p (n + 1) (lTurn told known st n) := by
  unfold lTurn
  split
  · rename_i e
    refine ⟨h.gi, h.nd, h.sub, fun k hk q hq => ?_⟩
    rcases Nat.lt_succ_iff_lt_or_eq.mp hk with hk | rfl
    · exact h.did k hk q hq
    · rw [e] at hq; cases hq
  · rename_i q e
    have mq := List.mem_of_getElem? e
    have pre := gSteps_pre (told := told) (known := known) (acrossS q) st
    obtain ⟨nd, sb⟩ := gSteps_nd (told := told) (known := known) (acrossS q) st h.nd h.sub
    refine ⟨GI.steps (q := q) _ h.gi mq fun x m => m, nd, sb, fun k hk r hr => ?_⟩
    have ln := (List.getElem?_eq_some_iff.mp e).1
    have same : ∀ j, j < st.1.length → ((acrossS q).foldl (gStep told known) st).1[j]? = st.1[j]? := fun j hj => by
      obtain ⟨t, ht⟩ := pre
      rw [← ht, List.getElem?_append_left hj]
    rcases Nat.lt_succ_iff_lt_or_eq.mp hk with hk | rfl
    · rw [same k (by omega)] at hr
      exact (h.did k hk r hr).steps _
    · rw [same k ln, e] at hr
      cases hr
      exact gSteps_gd q st
/-! the sides are those of both corners -/
theorem Bey.symm {q b : Sq} (h : Bey told q b) : Bey told b q := by
  obtain ⟨x, mx, ho, rfl⟩ := h
  obtain ⟨i, j⟩ := q
  unfold acrossS at mx
  simp only [List.mem_cons, List.not_mem_nil, or_false] at mx
  rw [Bool.and_comm] at ho
  rcases mx with rfl | rfl | rfl | rfl
  · refine ⟨(((i - 1 + 1, j + 1), (i - 1 + 1, j)), (i - 1 + 1, j)), by unfold acrossS; simp, ?_, ?_⟩
    · rw [show i - 1 + 1 = i by omega]; exact ho
    · show (i - 1 + 1, j) = (i, j)
      rw [show i - 1 + 1 = i by omega]
  · refine ⟨(((i + 1, j + 1), (i, j + 1)), (i, j + 1 - 1)), by unfold acrossS; simp, ho, ?_⟩
    show (i, j + 1 - 1) = (i, j)
    rw [show j + 1 - 1 = j by omega]
  · refine ⟨(((i + 1, j), (i + 1, j + 1)), (i + 1 - 1, j)), by unfold acrossS; simp, ho, ?_⟩
    show (i + 1 - 1, j) = (i, j)
    rw [show i + 1 - 1 = i by omega]
  · refine ⟨(((i, j - 1 + 1), (i + 1, j - 1 + 1)), (i, j - 1 + 1)), by unfold acrossS; simp, ?_, ?_⟩
    · rw [show j - 1 + 1 = j by omega]; exact ho
    · show (i, j - 1 + 1) = (i, j)
      rw [show j - 1 + 1 = j by omega]
end
/-! ### each corner's eye has one place -/
section
variable {told : Sq → Bool} {known : List Sq} {p : Sq}
theorem gRes_gf (hk : known.length ≤ 64) (hp : p ∈ known) : ∃ st : GS, GF told known p st ∧ gRes told known p = (psort st.1, st.2.2) := by
  refine ⟨_, gLoop_gf hk hp, ?_⟩
  unfold gRes
  rfl
theorem gRes_mem (hk : known.length ≤ 64) (hp : p ∈ known) (q : Sq) : q ∈ (gRes told known p).1 ↔ Rch told known p q := by
  obtain ⟨st, h, e⟩ := gRes_gf (told := told) hk hp
  rw [e]
  exact (psort_perm st.1).mem_iff.trans (h.mem q)
theorem Rch.inK {q : Sq} (hp : p ∈ known) (h : Rch told known p q) : q ∈ known := by
  cases h with
  | refl => exact hp
  | step _ _ hk => exact hk
theorem Rch.back {q : Sq} (hp : p ∈ known) (h : Rch told known p q) : ∀ d : List Sq, (∀ r ∈ d, ∀ b, Bey told r b → b ∈ known → b ∈ d) → q ∈ d → p ∈ d := by
  induction h with
  | refl => exact fun _ _ m => m
  | step h1 hb _ ih => exact fun d hd m => ih d hd (hd _ m _ hb.symm (h1.inK hp))
theorem tget_placeAll (n : Int) (q : Sq) : ∀ (l : List Sq) (m : List (Sq × Int)), tget (placeAll m n l) q = if q ∈ l then some n else tget m q
  | [], m => by rw [if_neg List.not_mem_nil]; rfl
  | x :: l, m => by
    have e : placeAll m n (x :: l) = placeAll (tput m x n) n l := rfl
    rw [e, tget_placeAll n q l, tget_put]
    by_cases h : q ∈ l
    · rw [if_pos h, if_pos (List.mem_cons_of_mem _ h)]
    · rw [if_neg h]
      by_cases h2 : q = x
      · rw [if_pos h2, if_pos (by rw [h2]; exact List.mem_cons_self)]
      · rw [if_neg h2, if_neg (fun m => (List.mem_cons.mp m).elim h2 h)]
structure PI (told : Sq → Bool) (known : List Sq) (st : ES) : Prop where
  cl : ∀ q ∈ st.2.2, ∀ b, Bey told q b → b ∈ known → b ∈ st.2.2
  dn : ∀ l ∈ st.1, ∀ q ∈ l, q ∈ st.2.2
  pl : ∀ (k : Nat) l q, st.1[k]? = some l → q ∈ l → tget st.2.1 q = some (k : Int)
  no : ∀ q, (∀ l ∈ st.1, q ∉ l) → tget st.2.1 q = none
theorem PI.step {st : ES} (h : PI told known st) (hk : known.length ≤ 64) (hp : p ∈ known) : PI told known (eStep told known st p) := by
  unfold eStep
  split
  · exact h
  · rename_i hd
    have mm := gRes_mem (told := told) hk hp
    have cl : ∀ q ∈ doneAll st.2.2 (gRes told known p).1, ∀ b, Bey told q b → b ∈ known → b ∈ doneAll st.2.2 (gRes told known p).1 := fun q m b hb kb => by
      rw [mem_doneAll] at m ⊢
      rcases m with m | m
      · exact .inl (h.cl q m b hb kb)
      · exact .inr ((mm b).mpr (((mm q).mp m).step hb kb))
    cases o : (gRes told known p).2 with
    | true => exact ⟨cl, fun l ml q mq => (mem_doneAll q _ _).mpr (.inl (h.dn l ml q mq)), h.pl, h.no⟩
    | false =>
      refine ⟨cl, fun l ml q mq => ?_, fun k l q hl mq => ?_, fun q hq => ?_⟩
      · have ml : l ∈ st.1 ++ [(gRes told known p).1] := ml
        refine (mem_doneAll q _ _).mpr ?_
        rcases List.mem_append.mp ml with ml | ml
        · exact .inl (h.dn l ml q mq)
        · rw [List.mem_singleton.mp ml] at mq; exact .inr mq
      · have hl : (st.1 ++ [(gRes told known p).1])[k]? = some l := hl
        show tget (placeAll st.2.1 st.1.length (gRes told known p).1) q = _
        rw [tget_placeAll]
        by_cases lt : k < st.1.length
        · rw [List.getElem?_append_left lt] at hl
          rw [if_neg, h.pl k l q hl mq]
          intro m
          exact hd (((mm q).mp m).back hp st.2.2 h.cl (h.dn l (List.mem_of_getElem? hl) q mq))
        · have kl := (List.getElem?_eq_some_iff.mp hl).1
          rw [List.length_append] at kl
          simp only [List.length_cons, List.length_nil] at kl
          have ke : k = st.1.length := by omega
          subst ke
          rw [List.getElem?_append_right (Nat.le_refl _), Nat.sub_self] at hl
          cases hl
          rw [if_pos mq]
      · have hq : ∀ l ∈ st.1 ++ [(gRes told known p).1], q ∉ l := hq
        show tget (placeAll st.2.1 st.1.length (gRes told known p).1) q = _
        rw [tget_placeAll, if_neg (hq _ (List.mem_append_right _ List.mem_cons_self))]
        exact h.no q fun l ml => hq l (List.mem_append_left _ ml)
/-- the law's eyes -/
def lStep (told : Sq → Bool) (known : List Sq) (st : List Sq × List (List Sq)) (p : Sq) : List Sq × List (List Sq) :=
  if p ∈ st.1 then st else (st.1 ++ (gRes told known p).1, if (gRes told known p).2 = true then st.2 else st.2 ++ [(gRes told known p).1])
end
/-! ### the law's corners and eyes -/
theorem insB_P (x : Pr) : ∀ l : List Pr, insB SrtO.lexB x l = insP x l
  | [] => rfl
  | y :: ys => by
    unfold insB insP leP
    rw [insB_P x ys]
    cases SrtO.lexB y x <;> rfl
theorem sortB_P : ∀ l : List Pr, sortB SrtO.lexB l = psort l
  | [] => rfl
  | x :: xs => by
    unfold sortB psort
    rw [sortB_P xs, insB_P]
theorem prL_sqs : ∀ l : List Sq, prL (l.map sqD) = some l
  | [] => rfl
  | q :: l => by
    rw [List.map_cons]
    unfold prL
    rw [show prOf (sqD q) = some q from rfl, prL_sqs l]
    rfl
/-! ### calls, step by step -/
section
variable {c : Int} {H W : Nat} {rs : List (List Int)}
structure LOk (k : Nat) (st : List Sq × List (List Sq)) : Prop where
  d : st.1.length ≤ 64 * k
  f : st.2.length ≤ k
theorem LOk.step {told : Sq → Bool} {known : List Sq} {k : Nat} {st : List Sq × List (List Sq)} (h : LOk k st) (hk : known.length ≤ 64) {p : Sq} (hp : p ∈ known) : LOk (k + 1) (lStep told known st p) := by
  have gl := gRes_len (told := told) hp
  have h1 := h.d
  have h2 := h.f
  unfold lStep
  split
  · exact ⟨by omega, by omega⟩
  · refine ⟨?_, ?_⟩
    · dsimp only
      rw [List.length_append]; omega
    · dsimp only
      split
      · omega
      · rw [List.length_append]; simp only [List.length_cons, List.length_nil]; omega
end
/-! ### the program's walk outward from a square -/
def besideS (p : Sq) : List Sq := [(p.1 - 1, p.2), (p.1, p.2 - 1), (p.1, p.2 + 1), (p.1 + 1, p.2)]
theorem beside_mem {p q : Sq} : q ∈ besideS p ↔ q ∈ nexts p := by
  unfold besideS nexts
  simp only [List.mem_cons, List.not_mem_nil, or_false]
  constructor <;> (rintro (h | h | h | h) <;> simp [h])
def flStep (good : Sq → Bool) (d : Nat) (m : FM) (s : Sq) : FM := if (fget m s).isNone = true ∧ good s = true then m ++ [(s, d + 1)] else m
def flTurn (good : Sq → Bool) (m : FM) (n : Nat) : FM := match m[n]? with
  | none => m
  | some e => (besideS e.1).foldl (flStep good e.2) m
def flLoop (good : Sq → Bool) (p : Sq) (n : Nat) : FM := (List.range n).foldl (flTurn good) [(p, 0)]
section
variable {good : Sq → Bool} {first : Sq}
theorem flStep_pre (d : Nat) (m : FM) (s : Sq) : m <+: flStep good d m s := by
  unfold flStep
  split
  · exact List.prefix_append _ _
  · exact List.prefix_rfl
theorem flSteps_pre (d : Nat) : ∀ (ss : List Sq) (m : FM), m <+: ss.foldl (flStep good d) m
  | [], _ => List.prefix_rfl
  | s :: ss, m => (flStep_pre d m s).trans (flSteps_pre d ss _)
theorem Far0.fl {m : FM} (h : Far0 good first m) {e : Sq × Nat} (he : e ∈ m) {s : Sq} (hs : s ∈ nexts e.1) : Far0 good first (flStep good e.2 m s) ∧ (good s = true → ∃ n, (s, n) ∈ flStep good e.2 m s) := by
  unfold flStep
  by_cases c : (fget m s).isNone = true ∧ good s = true
  · rw [if_pos c]
    have nn : fget m s = none := by
      cases e : fget m s with
      | none => rfl
      | some _ => rw [e] at c; cases c.1
    have no := fget_none nn
    refine ⟨⟨?_, fun x m => ?_, fun x m z => ?_, fun x m z => ?_, List.mem_append_left _ h.start⟩, fun _ => ⟨_, List.mem_append_right _ (List.mem_singleton_self _)⟩⟩
    · rw [List.map_append, List.nodup_append]
      refine ⟨h.nd, by simp, fun a ha b hb => ?_⟩
      obtain ⟨x, mx, rfl⟩ := List.mem_map.mp ha
      have hb : b = s := by simpa using hb
      subst hb
      exact fun q => no x.2 (by rw [← q]; exact mx)
    · rcases List.mem_append.mp m with m | m
      · exact h.ok x m
      · rw [List.mem_singleton] at m; subst m; exact c.2
    · rcases List.mem_append.mp m with m | m
      · exact h.zero x m z
      · rw [List.mem_singleton] at m; subst m; cases z
    · rcases List.mem_append.mp m with m | m
      · obtain ⟨e', m', r⟩ := h.pre x m z
        exact ⟨e', List.mem_append_left _ m', r⟩
      · rw [List.mem_singleton] at m; subst m
        exact ⟨e, List.mem_append_left _ he, rfl, hs⟩
  · rw [if_neg c]
    refine ⟨h, fun g => ?_⟩
    cases e : fget m s with
    | some n => exact ⟨n, fget_mem e⟩
    | none => exact absurd ⟨by rw [e]; rfl, g⟩ c
theorem Far0.fls {e : Sq × Nat} : ∀ (ss : List Sq) {m : FM}, Far0 good first m → e ∈ m → (∀ s ∈ ss, s ∈ nexts e.1) → Far0 good first (ss.foldl (flStep good e.2) m) ∧ ∀ s ∈ ss, good s = true → ∃ n, (s, n) ∈ ss.foldl (flStep good e.2) m
  | [], _, h, _, _ => ⟨h, fun _ m => absurd m List.not_mem_nil⟩
  | s :: ss, m, h, he, hs => by
    obtain ⟨a, b⟩ := h.fl he (hs s List.mem_cons_self)
    obtain ⟨a2, b2⟩ := Far0.fls ss a ((flStep_pre e.2 m s).subset he) fun x m => hs x (List.mem_cons_of_mem _ m)
    rw [List.foldl_cons]
    refine ⟨a2, fun x mx g => ?_⟩
    rcases List.mem_cons.mp mx with rfl | mx
    · obtain ⟨n, hn⟩ := b g
      exact ⟨n, (flSteps_pre e.2 ss _).subset hn⟩
    · exact b2 x mx g
/-- n squares have been looked at -/
structure FlI (good : Sq → Bool) (first : Sq) (n : Nat) (m : FM) : Prop where
  f0 : Far0 good first m
  cl : ∀ k < n, ∀ e, m[k]? = some e → ∀ q ∈ nexts e.1, good q = true → ∃ j, (q, j) ∈ m
theorem FlI.turn {n : Nat} {m : FM} (h : FlI good first n m) : FlI good first (n + 1) (flTurn good m n) := by
  unfold flTurn
  cases e : m[n]? with
  | none =>
    refine ⟨h.f0, fun k hk x hx => ?_⟩
    rcases Nat.lt_succ_iff_lt_or_eq.mp hk with hk | rfl
    · exact h.cl k hk x hx
    · rw [e] at hx; cases hx
  | some y =>
    dsimp only
    have my := List.mem_of_getElem? e
    have pre := flSteps_pre (good := good) y.2 (besideS y.1) m
    obtain ⟨a, b⟩ := Far0.fls (good := good) (e := y) (besideS y.1) h.f0 my fun s ms => beside_mem.mp ms
    refine ⟨a, fun k hk x hx q hq g => ?_⟩
    have ln := (List.getElem?_eq_some_iff.mp e).1
    have same : ∀ j, j < m.length → ((besideS y.1).foldl (flStep good y.2) m)[j]? = m[j]? := fun j hj => by
      obtain ⟨t, ht⟩ := pre
      rw [← ht, List.getElem?_append_left hj]
    rcases Nat.lt_succ_iff_lt_or_eq.mp hk with hk | rfl
    · rw [same k (by omega)] at hx
      obtain ⟨j, hj⟩ := h.cl k hk x hx q hq g
      exact ⟨j, pre.subset hj⟩
    · rw [same k ln, e] at hx
      cases hx
      exact b q (beside_mem.mpr hq) g
theorem flLoop_i (g : good first = true) : ∀ n, FlI good first n (flLoop good first n)
  | 0 => ⟨(FarT.start g).f0, fun k hk => absurd hk (Nat.not_lt_zero _)⟩
  | n + 1 => by
    have := (flLoop_i g n).turn
    unfold flLoop
    rw [List.range_succ, List.foldl_append]
    exact this
/-- two walks outward meet the same squares -/
theorem FarOk.sub {m m' : FM} (h : FarOk good first m) (h' : FarOk good first m') : ∀ (t : Nat) (e : Sq × Nat), e ∈ m → e.2 = t → ∃ n, (e.1, n) ∈ m'
  | 0, e, me, z => by
    rw [h.zero e me z]
    exact ⟨0, h'.start⟩
  | t + 1, e, me, z => by
    obtain ⟨e', m1, r, a⟩ := h.pre e me (by omega)
    obtain ⟨n, hn⟩ := FarOk.sub h h' t e' m1 (by omega)
    exact h'.cl _ hn e.1 a (h.ok e me)
theorem FarOk.keys {m m' : FM} (h : FarOk good first m) (h' : FarOk good first m') : psort (m.map (·.1)) = psort (m'.map (·.1)) := by
  have pm : (m.map (·.1)).Perm (m'.map (·.1)) := (List.perm_ext_iff_of_nodup h.nd h'.nd).mpr fun q => by
    rw [List.mem_map, List.mem_map]
    constructor
    · rintro ⟨e, me, rfl⟩
      obtain ⟨n, hn⟩ := h.sub h' e.2 e me rfl
      exact ⟨_, hn, rfl⟩
    · rintro ⟨e, me, rfl⟩
      obtain ⟨n, hn⟩ := h'.sub h e.2 e me rfl
      exact ⟨_, hn, rfl⟩
  exact psorted_one (((psort_perm _).trans pm).trans (psort_perm _).symm) (psort_sorted _) (psort_sorted _)
end
/-! ### the seas, as the program finds them -/
def pStep (H W : Nat) (rs : List (List Int)) (st : List (List Sq) × List Sq) (p : Sq) : List (List Sq) × List Sq := if p ∉ st.2 ∧ isTold H W rs p = true then (st.1 ++ [partOf H W rs p], doneAll st.2 (partOf H W rs p)) else st
section
variable {c : Int} {H W : Nat} {rs : List (List Int)} {A : Str → Addr}
/-- how the seas stand in the program -/
structure PtI (H W : Nat) (rs : List (List Int)) (k : Nat) (st : List (List Sq) × List Sq) : Prop where
  d : st.2.length ≤ 81 * k
  f : st.1.length ≤ k
theorem PtI.step (g : Rc c H W rs) {k : Nat} {st : List (List Sq) × List Sq} (h : PtI H W rs k st) (p : Sq) : PtI H W rs (k + 1) (pStep H W rs st p) := by
  have h1 := h.d
  have h2 := h.f
  unfold pStep
  split
  · rename_i c
    have := part_len g c.2
    have := doneAll_len (partOf H W rs p) st.2
    refine ⟨by dsimp only; omega, by dsimp only; rw [List.length_append, List.length_cons, List.length_nil]; omega⟩
  · exact ⟨by omega, by omega⟩
end
/-! ### sums over lists -/
theorem isum_app (a b : List Int) : (a ++ b).sum = a.sum + b.sum := List.sum_append
def rsum (n : Nat) (f : Nat → Int) : Int := ((List.range n).map f).sum
theorem rsum_succ (n : Nat) (f : Nat → Int) : rsum (n + 1) f = rsum n f + f n := by
  unfold rsum
  rw [List.range_succ, List.map_append, isum_app]
  simp
/-! ### sums along rings -/
theorem Chn.and {R S : Sq → Sq → Prop} : ∀ {l : List Sq}, Chn R l → Chn S l → Chn (fun a b => R a b ∧ S a b) l
  | [], _, _ => trivial
  | [_], _, _ => trivial
  | _ :: _ :: _, h, k => ⟨⟨h.1, k.1⟩, Chn.and h.2 k.2⟩
theorem Chn.all {P : Sq → Prop} : ∀ {l : List Sq}, (∀ p ∈ l, P p) → Chn (fun a b => P a ∧ P b) l
  | [], _ => trivial
  | [_], _ => trivial
  | x :: y :: l, h => ⟨⟨h x List.mem_cons_self, h y (List.mem_cons_of_mem _ List.mem_cons_self)⟩, Chn.all fun p m => h p (List.mem_cons_of_mem _ m)⟩
/-! ### the steps at a corner, one by one -/
section
variable {c : Int} {H W : Nat} {rs : List (List Int)}
/-- the step along a side, nought where there is none -/
def sE (c : Int) (H W : Nat) (rs : List (List Int)) (p q : Sq) : Int := if (isTold H W rs p && isTold H W rs q) = true then stepI c (whatI H W rs p) (whatI H W rs q) else 0
theorem sE_op (hc : Clk c) (p q : Sq) : sE c H W rs q p = - sE c H W rs p q := by
  unfold sE
  rw [Bool.and_comm]
  split
  · exact stp4 hc
  · rfl
theorem whirl4 (p : Sq) : whirlI c H W rs p = sE c H W rs (p.1, p.2) (p.1, p.2 + 1) + sE c H W rs (p.1, p.2 + 1) (p.1 + 1, p.2 + 1) + sE c H W rs (p.1 + 1, p.2 + 1) (p.1 + 1, p.2) + sE c H W rs (p.1 + 1, p.2) (p.1, p.2) := by
  have k : ∀ (s : Int) (x : (Sq × Sq) × Sq), whirlStep c H W rs s x = s + sE c H W rs x.1.1 x.1.2 := fun s x => by
    unfold whirlStep sE isSide
    split <;> omega
  unfold whirlI acrossS
  simp only [List.foldl_cons, List.foldl_nil, k]
  omega
end
/-! ### the steps round all corners, by how often a ring goes round them -/
section
variable {c : Int} {H W : Nat} {rs : List (List Int)}
def eR (c : Int) (H W : Nat) (rs : List (List Int)) (a b : Int) : Int := sE c H W rs (a, b) (a, b + 1)
def eD (c : Int) (H W : Nat) (rs : List (List Int)) (a b : Int) : Int := sE c H W rs (a, b) (a + 1, b)
theorem whirl_rd (hc : Clk c) (a b : Int) : whirlI c H W rs (a, b) = eR c H W rs a b - eR c H W rs (a + 1) b + eD c H W rs a (b + 1) - eD c H W rs a b := by
  have e1 := sE_op (H := H) (W := W) (rs := rs) hc (a + 1, b) (a + 1, b + 1)
  have e2 := sE_op (H := H) (W := W) (rs := rs) hc (a, b) (a + 1, b)
  rw [whirl4]
  unfold eR eD
  dsimp only
  omega
/-- the steps to the right in a row, from a column on -/
def tR (c : Int) (H W : Nat) (rs : List (List Int)) (a j : Int) (n : Nat) : Int := rsum n fun k => if j ≤ (k : Int) then eR c H W rs a k else 0
theorem strip (hc : Clk c) (a j : Int) : ∀ n : Nat, rsum n (fun k => if j ≤ (k : Int) then whirlI c H W rs (a, (k : Int)) else 0) = tR c H W rs a j n - tR c H W rs (a + 1) j n + if j ≤ (n : Int) then eD c H W rs a n - eD c H W rs a (if 0 ≤ j then j else 0) else 0
  | 0 => by
    unfold tR
    show (0 : Int) = 0 - 0 + _
    split
    · split
      · rename_i h1 h2
        have : j = 0 := by omega
        subst this
        simp
      · simp
    · rfl
  | n + 1 => by
    unfold tR
    rw [rsum_succ, rsum_succ, rsum_succ, strip hc a j n]
    unfold tR
    have w := whirl_rd (H := H) (W := W) (rs := rs) hc a (n : Int)
    by_cases h : j ≤ (n : Int)
    · have h2 : j ≤ ((n + 1 : Nat) : Int) := by omega
      rw [if_pos h, if_pos h, if_pos h, if_pos h, if_pos h2, w]
      have : ((n + 1 : Nat) : Int) = (n : Int) + 1 := by omega
      rw [this]
      omega
    · rw [if_neg h, if_neg h, if_neg h, if_neg h]
      by_cases h2 : j ≤ ((n + 1 : Nat) : Int)
      · have e : j = ((n + 1 : Nat) : Int) := by omega
        rw [if_pos h2, if_pos (show 0 ≤ j by omega), e]
        omega
      · rw [if_neg h2]
        omega
end
/-! ### an eye's steps come to whole rounds -/
section
variable {c : Int} {H W : Nat} {rs : List (List Int)}
/-! ### the eyes are apart, and hold all corners that are not open -/
variable {told : Sq → Bool}
structure PJ (told : Sq → Bool) (known : List Sq) (st : ES) : Prop where
  eye : ∀ l ∈ st.1, ∃ p ∈ known, l = (gRes told known p).1 ∧ (gRes told known p).2 = false
  did : ∀ q ∈ st.2.2, (∃ l ∈ st.1, q ∈ l) ∨ ∃ p ∈ known, q ∈ (gRes told known p).1 ∧ (gRes told known p).2 = true
theorem PJ.step {known : List Sq} {st : ES} (h : PJ told known st) {p : Sq} (hp : p ∈ known) : PJ told known (eStep told known st p) ∧ (∀ q ∈ st.2.2, q ∈ (eStep told known st p).2.2) := by
  unfold eStep
  split
  · exact ⟨h, fun _ m => m⟩
  · refine ⟨?_, fun q m => (mem_doneAll q _ _).mpr (.inl m)⟩
    cases o : (gRes told known p).2 with
    | true =>
      rw [if_pos rfl]
      refine ⟨h.eye, fun q m => ?_⟩
      rcases (mem_doneAll q _ _).mp m with m | m
      · exact h.did q m
      · exact .inr ⟨p, hp, m, o⟩
    | false =>
      rw [if_neg (by decide)]
      refine ⟨fun l m => ?_, fun q m => ?_⟩
      · rcases List.mem_append.mp m with m | m
        · exact h.eye l m
        · rw [List.mem_singleton.mp m]; exact ⟨p, hp, rfl, o⟩
      · rcases (mem_doneAll q _ _).mp m with m | m
        · rcases h.did q m with ⟨l, ml, mq⟩ | z
          · exact .inl ⟨l, List.mem_append_left _ ml, mq⟩
          · exact .inr z
        · exact .inl ⟨_, List.mem_append_right _ List.mem_cons_self, m⟩
end
/-! ### walks -/
section
variable {good : Sq → Bool}
/-- from a to b, step by step -/
inductive Ws (good : Sq → Bool) (a : Sq) : Sq → List (Sq × Sq) → Prop
  | nil : Ws good a a []
  | snoc {b d : Sq} {l : List (Sq × Sq)} : Ws good a b l → d ∈ nexts b → good b = true → good d = true → Ws good a d (l ++ [(b, d)])
def sumF (f : Sq → Sq → Int) (l : List (Sq × Sq)) : Int := (l.map fun e => f e.1 e.2).sum
theorem sumF_snoc (f : Sq → Sq → Int) (l : List (Sq × Sq)) (b d : Sq) : sumF f (l ++ [(b, d)]) = sumF f l + f b d := by
  unfold sumF
  rw [List.map_append, isum_app]
  simp
end
/-! ### tables whose keys are pairs of squares -/
abbrev NT := List ((Sq × Sq) × Int)
/-! ### ages from a square on, as the program spreads them -/
abbrev AS := List (Sq × Int) × List Sq
def spStep (f : Sq → Sq → Int) (H W : Nat) (rs : List (List Int)) (here : Sq) (st : AS) (q : Sq) : AS :=
  if isTold H W rs q = true ∧ tget st.1 q = none then (st.1 ++ [(q, (tget st.1 here).getD 0 + f here q)], st.2 ++ [q]) else st
def spTurn (f : Sq → Sq → Int) (H W : Nat) (rs : List (List Int)) (st : AS) : AS := match st.2[st.2.length - 1]? with
  | none => st
  | some p => (besideS p).foldl (spStep f H W rs p) (st.1, st.2.dropLast)
def spLoop (f : Sq → Sq → Int) (H W : Nat) (rs : List (List Int)) : Nat → AS → AS
  | 0, st => st
  | n + 1, st => if st.2 = [] then st else spLoop f H W rs n (spTurn f H W rs st)
section
variable {c : Int} {H W : Nat} {rs : List (List Int)} {first : Sq} {f : Sq → Sq → Int}
abbrev stS (c : Int) (H W : Nat) (rs : List (List Int)) (p q : Sq) : Int := stepI c (whatI H W rs p) (whatI H W rs q)
/-- each square that has an age: by a walk from the first one; ex: who is being looked at -/
structure SpA (f : Sq → Sq → Int) (H W : Nat) (rs : List (List Int)) (first : Sq) (ex : Option Sq) (st : AS) : Prop where
  nd : (st.1.map (·.1)).Nodup
  told : ∀ e ∈ st.1, isTold H W rs e.1 = true
  start : first ∈ st.1.map (·.1)
  line : ∀ q ∈ st.2, q ∈ st.1.map (·.1)
  ws : ∀ e ∈ st.1, ∃ l, Ws (isTold H W rs) first e.1 l ∧ e.2 = whatI H W rs first + sumF f l
  cl : ∀ e ∈ st.1, e.1 ∈ st.2 ∨ ex = some e.1 ∨ ∀ r ∈ nexts e.1, isTold H W rs r = true → r ∈ st.1.map (·.1)
  le : st.2.length ≤ st.1.length
theorem tget_mem {α : Type} {m : List (Sq × α)} {p : Sq} {v : α} (h : tget m p = some v) : (p, v) ∈ m := by
  unfold tget at h
  obtain ⟨e, h1, h2⟩ := Option.map_eq_some_iff.mp h
  have a := List.mem_of_find?_eq_some h1
  have b := List.find?_some h1
  rw [decide_eq_true_iff] at b
  rw [← b, ← h2]
  exact a
theorem tget_key {α : Type} {m : List (Sq × α)} {p : Sq} (h : p ∈ m.map (·.1)) : ∃ v, tget m p = some v := by
  cases e : tget m p with
  | some v => exact ⟨v, rfl⟩
  | none => exact absurd h (tget_none.mp e)
theorem SpA.len (g : Rc c H W rs) {ex : Option Sq} {st : AS} (h : SpA f H W rs first ex st) : st.1.length ≤ 81 := by
  have := nodup_len _ _ h.nd fun x m => by
    obtain ⟨e, me, rfl⟩ := List.mem_map.mp m
    exact mem_allS.mpr (isTold_in (h.told e me))
  rw [List.length_map] at this
  exact Nat.le_trans this (allS_len g)
theorem SpA.step {here : Sq} {st : AS} (h : SpA f H W rs first (some here) st) (hh : here ∈ st.1.map (·.1)) {q : Sq} (hq : q ∈ nexts here) :
    SpA f H W rs first (some here) (spStep f H W rs here st q) ∧ here ∈ (spStep f H W rs here st q).1.map (·.1) ∧ (isTold H W rs q = true → q ∈ (spStep f H W rs here st q).1.map (·.1)) ∧ (∀ r ∈ st.1.map (·.1), r ∈ (spStep f H W rs here st q).1.map (·.1)) ∧
      2 * (81 - (spStep f H W rs here st q).1.length) + (spStep f H W rs here st q).2.length ≤ 2 * (81 - st.1.length) + st.2.length + (if (spStep f H W rs here st q).1.length ≤ 81 then 0 else 10000) := by
  unfold spStep
  by_cases cc : isTold H W rs q = true ∧ tget st.1 q = none
  · rw [if_pos cc]
    obtain ⟨v, ev⟩ := tget_key hh
    obtain ⟨l, wl, es⟩ := h.ws _ (tget_mem ev)
    dsimp only at wl es
    have keys : (st.1 ++ [(q, (tget st.1 here).getD 0 + f here q)]).map (·.1) = st.1.map (·.1) ++ [q] := by rw [List.map_append]; rfl
    have nq := tget_none.mp cc.2
    have th := h.told _ (tget_mem ev)
    refine ⟨⟨?_, fun e m => ?_, ?_, fun r m => ?_, fun e m => ?_, fun e m => ?_, ?_⟩, ?_, fun _ => ?_, fun r m => ?_, ?_⟩
    · dsimp only
      rw [keys, List.nodup_append]
      exact ⟨h.nd, by simp, fun a ha b hb z => nq (by rw [List.mem_singleton] at hb; rw [← hb, ← z]; exact ha)⟩
    · rcases List.mem_append.mp m with m | m
      · exact h.told e m
      · rw [List.mem_singleton] at m; subst m; exact cc.1
    · dsimp only
      rw [keys]; exact List.mem_append_left _ h.start
    · dsimp only
      rw [keys]
      rcases List.mem_append.mp m with m | m
      · exact List.mem_append_left _ (h.line r m)
      · exact List.mem_append_right _ m
    · rcases List.mem_append.mp m with m | m
      · exact h.ws e m
      · rw [List.mem_singleton] at m; subst m
        refine ⟨l ++ [(here, q)], wl.snoc hq th cc.1, ?_⟩
        rw [sumF_snoc, ev, Option.getD_some]
        dsimp only
        rw [es]
        show whatI H W rs first + sumF f l + f here q = whatI H W rs first + (sumF f l + f here q)
        omega
    · show e.1 ∈ st.2 ++ [q] ∨ _
      rcases List.mem_append.mp m with m | m
      · rcases h.cl e m with z | z | z
        · exact .inl (List.mem_append_left _ z)
        · exact .inr (.inl z)
        · refine .inr (.inr fun r hr t => ?_)
          dsimp only
          rw [keys]
          exact List.mem_append_left _ (z r hr t)
      · rw [List.mem_singleton] at m; subst m
        exact .inl (List.mem_append_right _ (List.mem_singleton_self _))
    · have := h.le
      simp only [List.length_append, List.length_cons, List.length_nil]
      omega
    · dsimp only
      rw [keys]; exact List.mem_append_left _ hh
    · dsimp only
      rw [keys]; exact List.mem_append_right _ (List.mem_singleton_self _)
    · dsimp only
      rw [keys]; exact List.mem_append_left _ m
    · simp only [List.length_append, List.length_cons, List.length_nil]
      have := h.le
      split <;> omega
  · rw [if_neg cc]
    refine ⟨h, hh, fun t => ?_, fun r m => m, by split <;> omega⟩
    cases e : tget st.1 q with
    | none => exact absurd ⟨t, e⟩ cc
    | some v => exact List.mem_map.mpr ⟨_, tget_mem e, rfl⟩
theorem SpA.steps (g : Rc c H W rs) {here : Sq} : ∀ (qs : List Sq) {st : AS}, SpA f H W rs first (some here) st → here ∈ st.1.map (·.1) → (∀ q ∈ qs, q ∈ nexts here) →
    SpA f H W rs first (some here) (qs.foldl (spStep f H W rs here) st) ∧ here ∈ (qs.foldl (spStep f H W rs here) st).1.map (·.1) ∧ (∀ q ∈ qs, isTold H W rs q = true → q ∈ (qs.foldl (spStep f H W rs here) st).1.map (·.1)) ∧ (∀ r ∈ st.1.map (·.1), r ∈ (qs.foldl (spStep f H W rs here) st).1.map (·.1)) ∧
      2 * (81 - (qs.foldl (spStep f H W rs here) st).1.length) + (qs.foldl (spStep f H W rs here) st).2.length ≤ 2 * (81 - st.1.length) + st.2.length
  | [], st, h, hh, _ => ⟨h, hh, fun _ m => absurd m List.not_mem_nil, fun _ m => m, Nat.le_refl _⟩
  | q :: qs, st, h, hh, hq => by
    obtain ⟨a1, a2, a3, a4, a5⟩ := h.step hh (hq q List.mem_cons_self)
    have l1 := a1.len g
    rw [if_pos l1] at a5
    obtain ⟨b1, b2, b3, b4, b5⟩ := SpA.steps g qs a1 a2 fun r m => hq r (List.mem_cons_of_mem _ m)
    rw [List.foldl_cons]
    refine ⟨b1, b2, fun r m t => ?_, fun r m => b4 r (a4 r m), by omega⟩
    rcases List.mem_cons.mp m with rfl | m
    · exact b4 _ (a3 t)
    · exact b3 r m t
theorem SpA.turn (g : Rc c H W rs) {st : AS} (h : SpA f H W rs first none st) (hl : st.2 ≠ []) : SpA f H W rs first none (spTurn f H W rs st) ∧ 2 * (81 - (spTurn f H W rs st).1.length) + (spTurn f H W rs st).2.length < 2 * (81 - st.1.length) + st.2.length := by
  have l0 : 0 < st.2.length := List.length_pos_iff.mpr hl
  have el : st.2 = st.2.dropLast ++ [st.2[st.2.length - 1]'(by omega)] := by
    have := (List.dropLast_concat_getLast hl).symm
    rw [List.getLast_eq_getElem] at this
    exact this
  unfold spTurn
  rw [List.getElem?_eq_getElem (by omega)]
  dsimp only
  generalize st.2[st.2.length - 1]'(by omega) = p at el
  have mp : p ∈ st.1.map (·.1) := h.line p (by rw [el]; exact List.mem_append_right _ (List.mem_singleton_self _))
  have h1 : SpA f H W rs first (some p) (st.1, st.2.dropLast) := by
    refine ⟨h.nd, h.told, h.start, fun q m => h.line q (by rw [el]; exact List.mem_append_left _ m), h.ws, fun e m => ?_, ?_⟩
    · rcases h.cl e m with z | z | z
      · rw [el] at z
        rcases List.mem_append.mp z with z | z
        · exact .inl z
        · rw [List.mem_singleton] at z; exact .inr (.inl (by rw [z]))
      · cases z
      · exact .inr (.inr z)
    · have := h.le
      show st.2.dropLast.length ≤ st.1.length
      rw [List.length_dropLast]; omega
  obtain ⟨b1, b2, b3, b4, b5⟩ := SpA.steps g (besideS p) h1 mp fun q m => beside_mem.mp m
  refine ⟨⟨b1.nd, b1.told, b1.start, b1.line, b1.ws, fun e m => ?_, b1.le⟩, ?_⟩
  · rcases b1.cl e m with z | z | z
    · exact .inl z
    · refine .inr (.inr fun r hr t => ?_)
      have z : p = e.1 := Option.some.inj z
      rw [← z] at hr
      exact b3 r (beside_mem.mpr hr) t
    · exact .inr (.inr z)
  · have : (st.1, st.2.dropLast).2.length = st.2.length - 1 := List.length_dropLast
    dsimp only at b5 this
    omega
theorem SpA.loop (g : Rc c H W rs) : ∀ (n : Nat) {st : AS}, SpA f H W rs first none st → 2 * (81 - st.1.length) + st.2.length < n → SpA f H W rs first none (spLoop f H W rs n st) ∧ (spLoop f H W rs n st).2 = []
  | 0, _, _, hm => absurd hm (Nat.not_lt_zero _)
  | n + 1, st, h, hm => by
    unfold spLoop
    by_cases q : st.2 = []
    · rw [if_pos q]; exact ⟨h, q⟩
    · rw [if_neg q]
      obtain ⟨h2, m2⟩ := h.turn g q
      exact SpA.loop g n h2 (by omega)
end
/-! .. in the program: with jumps -/
section
variable {c : Int} {H W : Nat} {rs : List (List Int)} {first : Sq} {T : NT}
/-- what spread tells -/
structure SprF (f : Sq → Sq → Int) (H W : Nat) (rs : List (List Int)) (first : Sq) (m : List (Sq × Int)) : Prop where
  nd : (m.map (·.1)).Nodup
  told : ∀ e ∈ m, isTold H W rs e.1 = true
  start : first ∈ m.map (·.1)
  ws : ∀ e ∈ m, ∃ l, Ws (isTold H W rs) first e.1 l ∧ e.2 = whatI H W rs first + sumF f l
  cl : ∀ e ∈ m, ∀ r ∈ nexts e.1, isTold H W rs r = true → r ∈ m.map (·.1)
end
/-! ### all ages, as the program gives them -/
section
variable {c : Int} {H W : Nat} {rs : List (List Int)} {A : Str → Addr}
theorem far_sub {good : Sq → Bool} {f f' : Sq} {m m' : FM} (h : FarOk good f m) (h' : FarOk good f' m') (h0 : ∃ n, (f, n) ∈ m') : ∀ (t : Nat) (e : Sq × Nat), e ∈ m → e.2 = t → ∃ n, (e.1, n) ∈ m'
  | 0, e, me, z => by
    rw [h.zero e me z]
    exact h0
  | t + 1, e, me, z => by
    obtain ⟨e', m1, r, a⟩ := h.pre e me (by omega)
    obtain ⟨n, hn⟩ := far_sub h h' h0 t e' m1 (by omega)
    exact h'.cl _ hn e.1 a (h.ok e me)
theorem part_adj (g : Rc c H W rs) {p q : Sq} (tp : isTold H W rs p = true) (tq : isTold H W rs q = true) (a : q ∈ nexts p) : partOf H W rs p = partOf H W rs q := by
  have fp := farM_ok g tp
  have fq := farM_ok g tq
  have h1 := fp.cl _ fp.toFar0.start q a tq
  have h2 := fq.cl _ fq.toFar0.start p (nexts_sym a) tp
  have pm : ((farM H W rs p).map (·.1)).Perm ((farM H W rs q).map (·.1)) := (List.perm_ext_iff_of_nodup fp.nd fq.nd).mpr fun x => by
    rw [List.mem_map, List.mem_map]
    constructor
    · rintro ⟨e, me, rfl⟩
      obtain ⟨n, hn⟩ := far_sub fp fq h2 e.2 e me rfl
      exact ⟨_, hn, rfl⟩
    · rintro ⟨e, me, rfl⟩
      obtain ⟨n, hn⟩ := far_sub fq fp h1 e.2 e me rfl
      exact ⟨_, hn, rfl⟩
  unfold partOf
  exact psorted_one (((psort_perm _).trans pm).trans (psort_perm _).symm) (psort_sorted _) (psort_sorted _)
theorem part_ws (g : Rc c H W rs) {p q : Sq} {l : List (Sq × Sq)} (h : Ws (isTold H W rs) p q l) : partOf H W rs p = partOf H W rs q := by
  induction h with
  | nil => rfl
  | snoc _ hn g1 g2 ih => rw [ih, part_adj g g1 g2 hn]
theorem part_far (g : Rc c H W rs) {p : Sq} (t : isTold H W rs p = true) : ∀ (n : Nat) (e : Sq × Nat), e ∈ farM H W rs p → e.2 = n → partOf H W rs e.1 = partOf H W rs p
  | 0, e, me, z => by rw [(farM_ok g t).toFar0.zero e me z]
  | n + 1, e, me, z => by
    have h := (farM_ok g t).toFar0
    obtain ⟨e', m1, r, a⟩ := h.pre e me (by omega)
    rw [← part_far g t n e' m1 (by omega), part_adj g (h.ok _ m1) (h.ok _ me) a]
theorem part_mem (g : Rc c H W rs) {p q : Sq} (t : isTold H W rs p = true) (m : q ∈ partOf H W rs p) : partOf H W rs q = partOf H W rs p := by
  obtain ⟨n, hn⟩ := mem_part.mp m
  exact part_far g t n _ hn rfl
/-- the square a part is told from -/
def headO (H W : Nat) (rs : List (List Int)) (q : Sq) : Sq := (partOf H W rs q).headD (0, 0)
theorem SprF.all (g : Rc c H W rs) {f : Sq → Sq → Int} {h : Sq} {m : List (Sq × Int)} (t : isTold H W rs h = true) (s : SprF f H W rs h m) : ∀ (n : Nat) (e : Sq × Nat), e ∈ farM H W rs h → e.2 = n → e.1 ∈ m.map (·.1)
  | 0, e, me, z => by rw [(farM_ok g t).toFar0.zero e me z]; exact s.start
  | n + 1, e, me, z => by
    have f := (farM_ok g t).toFar0
    obtain ⟨e', m1, r, a⟩ := f.pre e me (by omega)
    obtain ⟨x, mx, ex⟩ := List.mem_map.mp (SprF.all g t s n e' m1 (by omega))
    exact s.cl x mx e.1 (by rw [ex]; exact a) (f.ok _ me)
/-- a table of ages: each square by steps from the head of its part -/
structure TaF (f : Sq → Sq → Int) (H W : Nat) (rs : List (List Int)) (m : List (Sq × Int)) : Prop where
  nd : (m.map (·.1)).Nodup
  told : ∀ e ∈ m, isTold H W rs e.1 = true
  ws : ∀ e ∈ m, ∃ l, Ws (isTold H W rs) (headO H W rs e.1) e.1 l ∧ e.2 = whatI H W rs (headO H W rs e.1) + sumF f l
theorem mem_tput {m : List (Sq × Int)} {p : Sq} {v : Int} {e : Sq × Int} (h : e ∈ tput m p v) : e = (p, v) ∨ e ∈ m := by
  unfold tput at h
  split at h
  · obtain ⟨x, mx, ex⟩ := List.mem_map.mp h
    split at ex
    · rename_i q
      left; rw [← ex, q]
    · right; rw [← ex]; exact mx
  · rcases List.mem_append.mp h with h | h
    · exact .inr h
    · exact .inl (by simpa using h)
theorem key_tput {m : List (Sq × Int)} {p : Sq} {v : Int} {q : Sq} (h : q = p ∨ q ∈ m.map (·.1)) : q ∈ (tput m p v).map (·.1) := by
  rw [tput_keys]
  split
  · rename_i s
    rcases h with rfl | h
    · obtain ⟨v, hv⟩ := Option.isSome_iff_exists.mp s
      exact List.mem_map.mpr ⟨_, tget_mem hv, rfl⟩
    · exact h
  · rcases h with rfl | h
    · exact List.mem_append_right _ (List.mem_singleton_self _)
    · exact List.mem_append_left _ h
def tputs (m l : List (Sq × Int)) : List (Sq × Int) := l.foldl (fun a e => tput a e.1 e.2) m
theorem tputs_mem : ∀ (l m : List (Sq × Int)) {e : Sq × Int}, e ∈ tputs m l → e ∈ l ∨ e ∈ m
  | [], m, e, h => .inr h
  | x :: l, m, e, h => by
    rcases tputs_mem l _ h with h | h
    · exact .inl (List.mem_cons_of_mem _ h)
    · rcases mem_tput h with h | h
      · exact .inl (by rw [h]; exact List.mem_cons_self)
      · exact .inr h
theorem tputs_key : ∀ (l m : List (Sq × Int)) {q : Sq}, q ∈ l.map (·.1) ∨ q ∈ m.map (·.1) → q ∈ (tputs m l).map (·.1)
  | [], m, q, h => h.elim (fun z => absurd z List.not_mem_nil) id
  | x :: l, m, q, h => by
    refine tputs_key l _ ?_
    rcases h with h | h
    · rcases List.mem_cons.mp h with h | h
      · exact .inr (key_tput (.inl h))
      · exact .inl h
    · exact .inr (key_tput (.inr h))
theorem tputs_nd : ∀ (l m : List (Sq × Int)), (m.map (·.1)).Nodup → ((tputs m l).map (·.1)).Nodup
  | [], m, h => h
  | x :: l, m, h => tputs_nd l _ (tput_nodup h x.1 x.2)
theorem tab_len (g : Rc c H W rs) {m : List (Sq × Int)} (nd : (m.map (·.1)).Nodup) (t : ∀ e ∈ m, isTold H W rs e.1 = true) : m.length ≤ 81 := by
  have u := nodup_len _ _ nd fun e me => by
    obtain ⟨x, mx, ex⟩ := List.mem_map.mp me
    exact mem_allS.mpr (isTold_in (by rw [← ex]; exact t x mx))
  rw [List.length_map] at u
  exact Nat.le_trans u (allS_len g)
theorem TaF.spread (g : Rc c H W rs) {f : Sq → Sq → Int} {m l : List (Sq × Int)} (hm : TaF f H W rs m) {p q0 : Sq} {r : List Sq} (t : isTold H W rs p = true) (ep : partOf H W rs p = q0 :: r) (s : SprF f H W rs q0 l) : TaF f H W rs (tputs m l) ∧ (∀ q ∈ partOf H W rs p, q ∈ (tputs m l).map (·.1)) ∧ ∀ q ∈ m.map (·.1), q ∈ (tputs m l).map (·.1) := by
  have m0 : q0 ∈ partOf H W rs p := by rw [ep]; exact List.mem_cons_self
  have t0 := part_told g t m0
  have e0 := part_mem g t m0
  refine ⟨⟨tputs_nd l m hm.nd, fun e me => ?_, fun e me => ?_⟩, fun q mq => ?_, fun q mq => tputs_key l m (.inr mq)⟩
  · rcases tputs_mem l m me with me | me
    · exact s.told e me
    · exact hm.told e me
  · rcases tputs_mem l m me with me | me
    · obtain ⟨w, ww, ew⟩ := s.ws e me
      have hd : headO H W rs e.1 = q0 := by
        unfold headO
        rw [← part_ws g ww, e0, ep]
        rfl
      rw [hd]
      exact ⟨w, ww, ew⟩
    · exact hm.ws e me
  · refine tputs_key l m (.inl ?_)
    rw [← e0] at mq
    obtain ⟨n, hn⟩ := mem_part.mp mq
    exact s.all g t0 n _ hn rfl
end
/-! ### laid just where even -/
section
variable {c : Int} {H W : Nat} {rs : List (List Int)}
theorem sum_mod (hc : Clk c) {a b : Sq} {l : List (Sq × Sq)} (h : Ws (isTold H W rs) a b l) : ∃ k, sumF (stS c H W rs) l = whatI H W rs b - whatI H W rs a + c * k := by
  induction h with
  | nil => exact ⟨0, by show (0 : Int) = _; omega⟩
  | @snoc b d l _ hn g1 g2 ih =>
    obtain ⟨k, e⟩ := ih
    obtain ⟨k', e'⟩ := stp_k (x := whatI H W rs b) (y := whatI H W rs d) hc
    refine ⟨k + k', ?_⟩
    rw [sumF_snoc, e, show stS c H W rs b d = stepI c (whatI H W rs b) (whatI H W rs d) from rfl, e', Int.mul_add]
    omega
end
/-! ### the law's ages, by walks -/
section
variable {c : Int} {H W : Nat} {rs : List (List Int)}
/-- each entry by steps from the head of its part -/
def Wv (c : Int) (H W : Nat) (rs : List (List Int)) (m : List (Sq × Int)) : Prop := ∀ e ∈ m, isTold H W rs e.1 = true ∧ ∃ l, Ws (isTold H W rs) (headO H W rs e.1) e.1 l ∧ e.2 = whatI H W rs (headO H W rs e.1) + sumF (stS c H W rs) l
theorem Wv.step (g : Rc c H W rs) {a q : Sq} {v : Int} {st : List (Sq × Int) × List Sq} (h : Wv c H W rs st.1) (ha : tget st.1 a = some v) (hq : q ∈ nexts a) : Wv c H W rs (ageStep c H W rs a v st q).1 ∧ tget (ageStep c H W rs a v st q).1 a = some v := by
  unfold ageStep
  split
  · rename_i cc
    obtain ⟨ta, l, wl, el⟩ := h _ (tget_mem ha)
    refine ⟨fun e me => ?_, ?_⟩
    · rcases mem_tput me with me | me
      · rw [me]
        have hh : headO H W rs a = headO H W rs q := by unfold headO; rw [part_adj g ta cc.1 hq]
        dsimp only at wl el ⊢
        rw [hh] at wl el
        refine ⟨cc.1, l ++ [(a, q)], wl.snoc hq ta cc.1, ?_⟩
        rw [sumF_snoc, el]
        show _ = _ + (_ + stepI c (whatI H W rs a) (whatI H W rs q))
        omega
      · exact h e me
    · show tget (tput st.1 q _) a = some v
      rw [tget_put]
      split
      · rename_i z
        rw [← z, ha] at cc
        cases cc.2
      · exact ha
  · exact ⟨h, ha⟩
theorem Wv.steps (g : Rc c H W rs) {a : Sq} {v : Int} : ∀ (qs : List Sq) {st : List (Sq × Int) × List Sq}, Wv c H W rs st.1 → tget st.1 a = some v → (∀ q ∈ qs, q ∈ nexts a) → Wv c H W rs (qs.foldl (ageStep c H W rs a v) st).1
  | [], st, h, _, _ => h
  | q :: qs, st, h, ha, hq => by
    obtain ⟨h1, h2⟩ := h.step g ha (hq q List.mem_cons_self)
    exact Wv.steps g qs h1 h2 fun x m => hq x (List.mem_cons_of_mem _ m)
theorem Wv.turn (g : Rc c H W rs) (st : List (Sq × Int) × List Sq) (k : Nat) (ag : Ag H W rs k st) (h : Wv c H W rs st.1) : Wv c H W rs (ageTurn c H W rs st k).1 := by
  unfold ageTurn
  cases e : st.2[k]? with
  | none => exact h
  | some a =>
    obtain ⟨v, hv⟩ := Option.isSome_iff_exists.mp (ag.lin a (List.mem_of_getElem? e))
    dsimp only
    rw [hv]
    exact h.steps g (nexts a) hv fun q m => m
end
/-! ### bent rows -/
section
variable {i k j : Nat} {ds cs : List D} {ρ ρ1 : En} {h h2 : En → Option D}
theorem ixN_nat {n k : Nat} (hk : k < n) : ixN n (k : Int) = some k := by unfold ixN; simp; omega
theorem ixR_at (hs : ρ[i]? = some (.tre (.list ds))) (hh : h ρ = some (.int (k : Int))) (hk : ds[k]? = some (bx (.list cs))) : ixR i (fun _ => some []) h ρ = some [k] := by
  have hk1 := (List.getElem?_eq_some_iff.mp hk).1
  unfold ixR
  rw [hs, hh]
  simp only [Option.bind_some, Slot.tree, getIn, ixN_nat hk1, hk, unbox_bx, List.nil_append]
theorem get_at1 (hk : ds[k]? = some (bx (.list cs))) : getIn (.list ds) [k] = some (.list cs) := by
  simp only [getIn, kids, hk, Option.bind_some, unbox_bx]
theorem set_at1 (hk : ds[k]? = some (bx (.list cs))) (c' : D) : setIn (.list ds) [k] c' = .list (ds.set k (bx c')) := by
  simp only [setIn, kids, hk, Option.bind_some, unbox_bx, withKids]
theorem setR_at {g : En → Option (List Nat)} {fa : EF} {z : D} (e : fa ρ = .ok (.st z) ρ1) (hs : ρ1[i]? = some (.tre (.list ds))) (hg : g ρ1 = some [k]) (hh : h2 ρ1 = some (.int (j : Int))) (hk : ds[k]? = some (bx (.list cs))) (hj : j < cs.length) :
    setR i g h2 fa ρ = .nx (ρ1.set i (.tre (.list (ds.set k (bx (.list (cs.set j z))))))) := by
  unfold setR
  rw [e, then_ok, hs, hg, hh]
  simp only [Slot.tree, get_at1 hk, ixN_nat hj, set_at1 hk, Slot.putT]
end
theorem C_runT {α : Type} {t : Tg} {vs : List Nat} {src : En → O (List D)} {te : CF} {ρ ρ0 : En} (ρ1 : En) (f g : α → D) (xs : List α) (hs : src ρ = .ok (xs.map f) ρ0) (hw : wipeE ρ0 vs = ρ1)
    (h : ∀ x ∈ xs, ∃ ρ2, t.put (f x) ρ1 = some ρ2 ∧ ∃ ρ3, te ρ2 = .ok (g x) ρ3 ∧ wipeE ρ3 vs = ρ1) (hl : xs.length ≤ 100000) : compT t vs src yes te ρ = .ok (.list (xs.map fun x => bx (g x))) ρ1 := by
  have key : ∀ xs : List α, (∀ x ∈ xs, ∃ ρ2, t.put (f x) ρ1 = some ρ2 ∧ ∃ ρ3, te ρ2 = .ok (g x) ρ3 ∧ wipeE ρ3 vs = ρ1) → compLoopT t vs yes te (xs.map f) ρ1 = .ok (xs.map fun x => bx (g x)) ρ1 := by
    intro xs
    induction xs with
    | nil => exact fun _ => rfl
    | cons x xs ih =>
      intro h
      obtain ⟨ρ2, e1, ρ3, e3, e4⟩ := h x (List.mem_cons_self ..)
      have ih := ih fun e m => h e (List.mem_cons_of_mem _ m)
      rw [List.map_cons]
      unfold compLoopT
      simp only [e1, yes, noEr_ok, bind_ok, if_true, e3, e4, ih, List.map_cons]
  unfold compT
  rw [hs, bind_ok, hw, key xs h, noEr_ok, bind_ok, if_pos (short_map (f := fun x => bx (g x)) hl)]
/-! ### cut, laid in -/
theorem range_set {α : Type} (f : Nat → α) (n i : Nat) (x : α) : ((List.range n).map f).set i x = (List.range n).map fun k => if k = i then x else f k := by
  refine List.ext_getElem? fun k => ?_
  rw [List.getElem?_set, List.length_map, List.length_range, List.getElem?_map]
  by_cases q : i = k
  · subst q
    rw [if_pos rfl]
    by_cases z : i < n
    · rw [if_pos z, List.getElem?_map, List.getElem?_range z]
      simp
    · rw [if_neg z, List.getElem?_eq_none (by rw [List.length_map, List.length_range]; omega)]
  · rw [if_neg q, List.getElem?_map]
    by_cases z : k < n
    · rw [List.getElem?_range z]
      show some (f k) = some (if k = i then x else f k)
      rw [if_neg fun e => q e.symm]
    · rw [List.getElem?_eq_none (by rw [List.length_range]; omega)]
      rfl
theorem grid_set {h w : Nat} {f : Nat → Nat → Int} {i : Nat} (g : Nat → Int) : (grid h w f).set i ((List.range w).map g) = grid h w fun k j => if k = i then g j else f k j := by
  unfold grid
  rw [range_set]
  refine List.map_congr_left fun k _ => ?_
  by_cases q : k = i
  · rw [if_pos q]
    exact List.map_congr_left fun j _ => (if_pos q).symm
  · rw [if_neg q]
    exact List.map_congr_left fun j _ => (if_neg q).symm
/-! ### a chart with one square told anew -/
theorem stripA_mapG {α : Type} (f g : α → D) (xs : List α) (h : ∀ x ∈ xs, DL.strip (f x) = g x) : DL.stripA (xs.map f) = xs.map g := by
  induction xs with
  | nil => rfl
  | cons x xs ih =>
    show DL.strip (f x) :: DL.stripA (xs.map f) = _
    rw [h x (List.mem_cons_self ..), ih fun e m => h e (List.mem_cons_of_mem _ m)]
    rfl
theorem stripA_ints (r : List Int) : DL.stripA (r.map PyData.int) = r.map PyData.int := stripA_mapG PyData.int PyData.int r fun _ _ => rfl
theorem strip_lists (rs : List (List Int)) : DL.strip (bx (.list (rs.map fun r => bx (.list (r.map PyData.int))))) = .list (rs.map fun r => .list (r.map PyData.int)) := by
  show PyData.list (DL.stripA _) = _
  rw [stripA_mapG _ (fun r => .list (r.map PyData.int)) rs fun r _ => by
    show PyData.list (DL.stripA (r.map PyData.int)) = _
    rw [stripA_ints]]
def withF (rs : List (List Int)) (i j : Nat) (v : Int) (a b : Nat) : Int := if a = i ∧ b = j then v else cell rs a b
def withR (H W : Nat) (rs : List (List Int)) (i j : Nat) (v : Int) : List (List Int) := grid H W (withF rs i j v)
theorem Rc.set {c : Int} {H W : Nat} {rs : List (List Int)} (g : Rc c H W rs) {i j : Nat} {v : Int} (hi : i < H) : rs.set i ((rs.getD i []).set j v) = withR H W rs i j v := by
  have m : rs.getD i [] ∈ rs := getD_inG (by rw [g.len]; exact hi)
  have e1 : (rs.getD i []).set j v = (List.range W).map fun b => if b = j then v else cell rs i b := by
    conv => lhs; rw [← list_range (rs.getD i []) 0, g.rect _ m]
    rw [range_set]
    rfl
  rw [e1]
  conv => lhs; rw [g.eq_grid]
  rw [grid_set]
  refine grid_congr fun a b ha hb => ?_
  unfold withF
  by_cases q : a = i
  · subst q
    rw [if_pos rfl]
    by_cases z : b = j
    · rw [if_pos z, if_pos ⟨rfl, z⟩]
    · rw [if_neg z, if_neg fun y => z y.2, cell_grid ha hb]
  · rw [if_neg q, if_neg fun y => q y.1]
theorem Rc.withR {c v : Int} {H W : Nat} {rs : List (List Int)} (g : Rc c H W rs) {i j : Nat} (hv : -2 ≤ v ∧ v < c) : Rc c H W (withR H W rs i j v) :=
  Rc.of_grid g.clk g.h1 g.h9 g.w1 g.w9 fun a b ha hb => by
    unfold withF
    split
    · exact hv
    · exact g.cell_ok ha hb

/-! ### how far it is, told exactly -/
/-- so many steps over good squares -/
inductive Stp (good : Sq → Bool) (p : Sq) : Sq → Nat → Prop
  | nil : Stp good p p 0
  | snoc {q r : Sq} {n : Nat} : Stp good p q n → r ∈ nexts q → good r = true → Stp good p r (n + 1)
section
variable {good : Sq → Bool}
theorem Stp.cons {p q : Sq} (a : q ∈ nexts p) (g : good q = true) : ∀ {r : Sq} {n : Nat}, Stp good q r n → Stp good p r (n + 1)
  | _, _, .nil => .snoc .nil a g
  | _, _, .snoc h b c => .snoc (Stp.cons a g h) b c
theorem Stp.trans {p q : Sq} {n : Nat} (h : Stp good p q n) : ∀ {r : Sq} {m : Nat}, Stp good q r m → Stp good p r (n + m)
  | _, _, .nil => h
  | _, _, .snoc k b c => .snoc (Stp.trans h k) b c
/-- a walk outward that tells the least numbers of steps -/
structure FarX (good : Sq → Bool) (first : Sq) (m : FM) : Prop extends Far0 good first m where
  cx : ∀ e ∈ m, ∀ q ∈ nexts e.1, good q = true → ∃ n, (q, n) ∈ m ∧ n ≤ e.2 + 1
section
variable {first : Sq} {m : FM}
theorem Far0.stp (h : Far0 good first m) : ∀ (n : Nat) (q : Sq), (q, n) ∈ m → Stp good first q n
  | 0, q, mq => by
    have z : q = first := h.zero _ mq rfl
    rw [z]; exact .nil
  | n + 1, q, mq => by
    obtain ⟨e, me, a, b⟩ := h.pre _ mq (Nat.succ_pos n)
    have a : e.2 = n := by simp only at a; omega
    exact .snoc (Far0.stp h n e.1 (by rw [← a]; exact me)) b (h.ok _ mq)
theorem FarX.le (h : FarX good first m) : ∀ {q : Sq} {n : Nat}, Stp good first q n → ∃ k, (q, k) ∈ m ∧ k ≤ n
  | _, _, .nil => ⟨0, h.start, Nat.le_refl 0⟩
  | _, _, .snoc a b c => by
    obtain ⟨k, mk, lk⟩ := FarX.le h a
    obtain ⟨j, mj, lj⟩ := h.cx _ mk _ b c
    exact ⟨j, mj, by simp only at lj; omega⟩
theorem FarX.get (h : FarX good first m) {q : Sq} {n : Nat} (s : Stp good first q n) : ∃ k, fget m q = some k ∧ k ≤ n := by
  obtain ⟨k, a, b⟩ := h.le s
  exact ⟨k, fget_of h.nd a, b⟩
theorem FarX.stp (h : FarX good first m) {q : Sq} {n : Nat} (s : fget m q = some n) : Stp good first q n := h.toFar0.stp n q (fget_mem s)
end
/-- told from beside: one step more at most -/
theorem FarX.beside {p p' q : Sq} {m m' : FM} {n : Nat} (h : FarX good p m) (h' : FarX good p' m') (a : p ∈ nexts p') (e : fget m q = some n) : ∃ k, fget m' q = some k ∧ k ≤ n + 1 := by
  have gp : good p = true := h.ok _ h.start
  exact h'.get (Stp.cons a gp (h.stp e))
/-- the first n squares looked at, in the order of their numbers -/
structure FlX (good : Sq → Bool) (first : Sq) (n : Nat) (m : FM) : Prop extends FlI good first n m where
  asc : ∀ (i j : Nat) (a b : Sq × Nat), i ≤ j → m[i]? = some a → m[j]? = some b → a.2 ≤ b.2
  top : ∀ a : Sq × Nat, m[n]? = some a → ∀ b ∈ m, b.2 ≤ a.2 + 1
  cx : ∀ k < n, ∀ e, m[k]? = some e → ∀ q ∈ nexts e.1, good q = true → ∃ j, (q, j) ∈ m ∧ j ≤ e.2 + 1
theorem flSteps_new (d : Nat) : ∀ (ss : List Sq) (m : FM) (b : Sq × Nat), b ∈ ss.foldl (flStep good d) m → b ∈ m ∨ b.2 = d + 1
  | [], m, b, h => .inl h
  | s :: ss, m, b, h => by
    rw [List.foldl_cons] at h
    rcases flSteps_new d ss _ b h with h | h
    · unfold flStep at h
      split at h
      · rcases List.mem_append.mp h with h | h
        · exact .inl h
        · rw [List.mem_singleton] at h; subst h; exact .inr rfl
      · exact .inl h
    · exact .inr h
theorem FlX.turn {first : Sq} {n : Nat} {m : FM} (h : FlX good first n m) : FlX good first (n + 1) (flTurn good m n) := by
  have h1 := h.toFlI.turn
  refine ⟨h1, ?_, ?_, ?_⟩
  all_goals unfold flTurn at h1 ⊢
  all_goals cases e : m[n]? with
    | none => ?_
    | some y => ?_
  · exact h.asc
  · dsimp only
    obtain ⟨t, ht⟩ := flSteps_pre (good := good) y.2 (besideS y.1) m
    have tn : ∀ b ∈ t, b.2 = y.2 + 1 := by
      -- what is added
      have : ∀ (ss : List Sq) (m t : FM), m ++ t = ss.foldl (flStep good y.2) m → ∀ b ∈ t, b.2 = y.2 + 1 := by
        intro ss
        induction ss with
        | nil =>
          intro m t q b mb
          have : t = [] := by
            have := congrArg List.length q
            rw [List.foldl_nil, List.length_append] at this
            exact List.eq_nil_of_length_eq_zero (by omega)
          subst this
          cases mb
        | cons s ss ih =>
          intro m t q b mb
          rw [List.foldl_cons] at q
          unfold flStep at q
          split at q
          · obtain ⟨t2, e2⟩ := flSteps_pre (good := good) y.2 ss (m ++ [(s, y.2 + 1)])
            have e3 : t = (s, y.2 + 1) :: t2 := by
              have : m ++ t = m ++ ((s, y.2 + 1) :: t2) := by
                rw [q]
                show _ = m ++ ([(s, y.2 + 1)] ++ t2)
                rw [← List.append_assoc, e2]
                rfl
              exact List.append_cancel_left this
            rw [e3] at mb
            rcases List.mem_cons.mp mb with mb | mb
            · rw [mb]
            · exact ih _ t2 e2 b mb
          · exact ih m t q b mb
      exact this _ _ _ ht
    intro i j a b hij ha hb
    rw [← ht] at ha hb
    by_cases ji : j < m.length
    · rw [List.getElem?_append_left (by omega)] at ha
      rw [List.getElem?_append_left ji] at hb
      exact h.asc i j a b hij ha hb
    · rw [List.getElem?_append_right (by omega)] at hb
      have hb2 := tn b (List.mem_of_getElem? hb)
      by_cases ii : i < m.length
      · rw [List.getElem?_append_left ii] at ha
        have := h.top y e a (List.mem_of_getElem? ha)
        omega
      · rw [List.getElem?_append_right (by omega)] at ha
        rw [tn a (List.mem_of_getElem? ha), hb2]
        exact Nat.le_refl _
  · intro a ha
    have l1 := (List.getElem?_eq_some_iff.mp ha).1
    have l2 := List.getElem?_eq_none_iff.mp e
    dsimp only at l1
    omega
  · dsimp only
    intro a ha b hb
    have ya : y.2 ≤ a.2 := by
      obtain ⟨t, ht⟩ := flSteps_pre (good := good) y.2 (besideS y.1) m
      rw [← ht] at ha
      by_cases ji : n + 1 < m.length
      · rw [List.getElem?_append_left ji] at ha
        exact h.asc n (n + 1) y a (by omega) e ha
      · rw [List.getElem?_append_right (by omega)] at ha
        have : a ∈ (besideS y.1).foldl (flStep good y.2) m := by rw [← ht]; exact List.mem_append_right _ (List.mem_of_getElem? ha)
        rcases flSteps_new y.2 _ m a this with z | z
        · have n1 : a ∉ m := fun ma => by
            have nd := h1.f0.nd
            rw [e] at nd
            dsimp only at nd
            rw [← ht, List.map_append, List.nodup_append] at nd
            exact nd.2.2 a.1 (List.mem_map.mpr ⟨a, ma, rfl⟩) a.1 (List.mem_map.mpr ⟨a, List.mem_of_getElem? ha, rfl⟩) rfl
          exact absurd z n1
        · omega
    rcases flSteps_new y.2 _ m b hb with z | z
    · have := h.top y e b z
      omega
    · omega
  · intro k hk x hx q hq g
    rcases Nat.lt_succ_iff_lt_or_eq.mp hk with hk | rfl
    · exact h.cx k hk x hx q hq g
    · dsimp only at hx
      rw [e] at hx; cases hx
  · dsimp only
    intro k hk x hx q hq g
    have pre := flSteps_pre (good := good) y.2 (besideS y.1) m
    have ln := (List.getElem?_eq_some_iff.mp e).1
    have same : ∀ j, j < m.length → ((besideS y.1).foldl (flStep good y.2) m)[j]? = m[j]? := fun j hj => by
      obtain ⟨t, ht⟩ := pre
      rw [← ht, List.getElem?_append_left hj]
    rcases Nat.lt_succ_iff_lt_or_eq.mp hk with hk | rfl
    · rw [same k (by omega)] at hx
      obtain ⟨j, hj, lj⟩ := h.cx k hk x hx q hq g
      exact ⟨j, pre.subset hj, lj⟩
    · have hx2 := hx
      rw [same k ln, e] at hx
      cases hx
      rw [e] at h1
      obtain ⟨j, hj⟩ := h1.cl k (by omega) y hx2 q hq g
      dsimp only at hj
      refine ⟨j, hj, ?_⟩
      rcases flSteps_new y.2 _ m _ hj with z | z
      · exact h.top y e _ z
      · simp only at z; omega
theorem FlX.start {first : Sq} (g : good first = true) : FlX good first 0 [(first, 0)] :=
  ⟨flLoop_i g 0, fun i j a b _ ha hb => by
    have l1 := (List.getElem?_eq_some_iff.mp ha).1
    have l2 := (List.getElem?_eq_some_iff.mp hb).1
    simp only [List.length_cons, List.length_nil] at l1 l2
    have : i = 0 := by omega
    subst this
    have : j = 0 := by omega
    subst this
    rw [ha] at hb
    cases hb
    exact Nat.le_refl _, fun a ha b hb => by
    rw [List.mem_singleton] at hb; subst hb; exact Nat.zero_le _, fun k hk => absurd hk (Nat.not_lt_zero _)⟩
end
/-! ### tides: let down pass by pass -/
abbrev Rm := Sq × Sq × Int
structure RS where
  tb : List (Sq × Int)
  cm : List (Sq × Sq)
  la : Option Sq
def tv (m : List (Sq × Int)) (p : Sq) : Int := (tget m p).getD 0
def rlx (s : RS) (r : Rm) : RS := if tv s.tb r.1 + r.2.2 < tv s.tb r.2.1 then ⟨tput s.tb r.2.1 (tv s.tb r.1 + r.2.2), tput s.cm r.2.1 r.1, some r.2.1⟩ else s
def pass (R : List Rm) (s : RS) : RS := R.foldl rlx ⟨s.tb, s.cm, none⟩
theorem tv_put (m : List (Sq × Int)) (p q : Sq) (v : Int) : tv (tput m p v) q = if q = p then v else tv m q := by
  unfold tv
  rw [tget_put]
  split <;> rfl
/-! what was let down, and by which square -/
def chain (cm : List (Sq × Sq)) : Sq → List Sq → Prop
  | _, [] => True
  | x, y :: l => tget cm x = some y ∧ chain cm y l
def wsum (w : Sq → Sq → Int) : Sq → List Sq → Int
  | _, [] => 0
  | x, y :: l => w y x + wsum w y l
def endOf : Sq → List Sq → Sq
  | x, [] => x
  | _, y :: l => endOf y l
/-- k passes begun; done, todo: the rows of the pass; st: in which pass a square was let down last -/
structure BI (R done todo : List Rm) (w : Sq → Sq → Int) (k : Nat) (st : Sq → Nat) (s : RS) : Prop where
  td : ∀ r ∈ todo, tv s.tb r.2.1 ≤ tv s.tb r.1 + r.2.2 ∨ k ≤ st r.1 + 1
  dn : ∀ r ∈ done, tv s.tb r.2.1 ≤ tv s.tb r.1 + r.2.2 ∨ k ≤ st r.1
  top : ∀ p, st p ≤ k
  cm : ∀ v, 0 < st v → ∃ u, tget s.cm v = some u ∧ st v ≤ st u + 1
  ed : ∀ v u, tget s.cm v = some u → (u, v, w u v) ∈ R ∧ tv s.tb u + w u v ≤ tv s.tb v
  cy : ∀ x l, l ≠ [] → chain s.cm x l → endOf x l = x → wsum w x l < 0
  la : ∀ v, s.la = some v → st v = k
  los : ∀ v, s.la = some v → ∃ r ∈ R, r.2.1 = v
section
variable {R : List Rm} {w : Sq → Sq → Int}
theorem chain_le {tb : List (Sq × Int)} {cm : List (Sq × Sq)} (h : ∀ v u, tget cm v = some u → tv tb u + w u v ≤ tv tb v) : ∀ (l : List Sq) (x : Sq), chain cm x l → wsum w x l + tv tb (endOf x l) ≤ tv tb x
  | [], x, _ => by unfold wsum endOf; omega
  | y :: l, x, ⟨a, b⟩ => by
    have := chain_le h l y b
    have := h x y a
    unfold wsum endOf
    omega
theorem chain_put {tb : List (Sq × Int)} {cm : List (Sq × Sq)} {u v : Sq} (h : ∀ v u, tget cm v = some u → tv tb u + w u v ≤ tv tb v) (lt : tv tb u + w u v < tv tb v) : ∀ (l : List Sq) (x : Sq), chain (tput cm v u) x l → chain cm x l ∨ wsum w x l + tv tb (endOf x l) < tv tb x
  | [], _, _ => .inl trivial
  | y :: l, x, ⟨a, b⟩ => by
    have h2 : ∀ a b, tget (tput cm v u) a = some b → tv tb b + w b a ≤ tv tb a := fun a b e => by
      rw [tget_put] at e
      by_cases q : a = v
      · rw [if_pos q] at e; cases e; rw [q]; omega
      · rw [if_neg q] at e; exact h a b e
    have l1 := chain_le h2 l y b
    have l2 := h2 x y a
    rw [tget_put] at a
    by_cases q : x = v
    · rw [if_pos q] at a
      cases a
      subst q
      right
      unfold wsum endOf
      omega
    · rw [if_neg q] at a
      rcases chain_put h lt l y b with c | c
      · exact .inl ⟨a, c⟩
      · right
        unfold wsum endOf
        omega
theorem BI.step {done todo : List Rm} {k : Nat} {st : Sq → Nat} {s : RS} {r : Rm} (hR : ∀ r ∈ R, r.2.2 = w r.1 r.2.1 ∧ r.1 ≠ r.2.1) (hr : r ∈ R) (k0 : 0 < k) (h : BI R done (r :: todo) w k st s) : ∃ st', BI R (done ++ [r]) todo w k st' (rlx s r) := by
  obtain ⟨u, v, x⟩ := r
  obtain ⟨rw_, ne⟩ := hR _ hr
  have rw_ : x = w u v := rw_
  have ne : u ≠ v := ne
  subst rw_
  unfold rlx
  dsimp only
  by_cases c : tv s.tb u + w u v < tv s.tb v
  · rw [if_pos c]
    have su : k ≤ st u + 1 := (h.td _ List.mem_cons_self).elim (fun z => by dsimp only at z; omega) id
    have le : ∀ p, tv (tput s.tb v (tv s.tb u + w u v)) p ≤ tv s.tb p := fun p => by
      rw [tv_put]
      split
      · rename_i q; subst q; omega
      · omega
    have same : ∀ p, p ≠ v → tv (tput s.tb v (tv s.tb u + w u v)) p = tv s.tb p := fun p q => by rw [tv_put, if_neg q]
    have new : tv (tput s.tb v (tv s.tb u + w u v)) v = tv s.tb u + w u v := by rw [tv_put, if_pos rfl]
    refine ⟨fun p => if p = v then k else st p, ⟨fun r m => ?_, fun r m => ?_, fun p => ?_, fun p hp => ?_, fun a b e => ?_, fun a l nl ch en => ?_, fun a e => ?_, fun a e => ?_⟩⟩
    · dsimp only
      by_cases q : r.1 = v
      · rw [if_pos q]; exact .inr (Nat.le_succ k)
      · rw [if_neg q, same _ q]
        have := le r.2.1
        rcases h.td r (List.mem_cons_of_mem _ m) with z | z
        · exact .inl (by omega)
        · exact .inr z
    · dsimp only
      by_cases q : r.1 = v
      · rw [if_pos q]; exact .inr (Nat.le_refl k)
      · rw [if_neg q, same _ q]
        have := le r.2.1
        rcases List.mem_append.mp m with m | m
        · rcases h.dn r m with z | z
          · exact .inl (by omega)
          · exact .inr z
        · rw [List.mem_singleton] at m
          subst m
          left
          dsimp only
          rw [new]
          exact Int.le_refl _
    · show (if p = v then k else st p) ≤ k
      split
      · exact Nat.le_refl k
      · exact h.top p
    · have hp : 0 < (if p = v then k else st p) := hp
      show ∃ y, tget (tput s.cm v u) p = some y ∧ (if p = v then k else st p) ≤ (if y = v then k else st y) + 1
      rw [tget_put]
      by_cases q : p = v
      · rw [if_pos q, if_pos q]
        exact ⟨u, rfl, by rw [if_neg ne]; exact su⟩
      · rw [if_neg q, if_neg q]
        rw [if_neg q] at hp
        obtain ⟨y, ey, ly⟩ := h.cm p hp
        refine ⟨y, ey, ?_⟩
        have := h.top p
        split <;> omega
    · rw [tget_put] at e
      by_cases q : a = v
      · rw [if_pos q] at e
        cases e
        subst q
        rw [new, same _ ne]
        exact ⟨hr, Int.le_refl _⟩
      · rw [if_neg q] at e
        obtain ⟨z1, z2⟩ := h.ed a b e
        rw [same _ q]
        have := le b
        dsimp only
        exact ⟨z1, by omega⟩
    · dsimp only at ch
      rcases chain_put (fun a b e => (h.ed a b e).2) c l a ch with z | z
      · exact h.cy a l nl z en
      · rw [en] at z; omega
    · dsimp only at e ⊢
      cases e
      rw [if_pos rfl]
    · dsimp only at e
      cases e
      exact ⟨_, hr, rfl⟩
  · rw [if_neg c]
    refine ⟨st, ⟨fun r m => h.td r (List.mem_cons_of_mem _ m), fun r m => ?_, h.top, h.cm, h.ed, h.cy, h.la, h.los⟩⟩
    rcases List.mem_append.mp m with m | m
    · exact h.dn r m
    · rw [List.mem_singleton] at m
      subst m
      exact .inl (by dsimp only; omega)
theorem BI.steps (hR : ∀ r ∈ R, r.2.2 = w r.1 r.2.1 ∧ r.1 ≠ r.2.1) {k : Nat} (k0 : 0 < k) : ∀ (todo : List Rm) {done : List Rm} {st : Sq → Nat} {s : RS}, (∀ r ∈ todo, r ∈ R) → BI R done todo w k st s → ∃ st', BI R (done ++ todo) [] w k st' (todo.foldl rlx s)
  | [], done, st, s, _, h => ⟨st, by rw [List.append_nil]; exact h⟩
  | r :: todo, done, st, s, hm, h => by
    obtain ⟨st1, h1⟩ := h.step hR (hm r List.mem_cons_self) k0
    obtain ⟨st2, h2⟩ := BI.steps hR k0 todo (fun x m => hm x (List.mem_cons_of_mem _ m)) h1
    rw [List.append_assoc] at h2
    exact ⟨st2, h2⟩
theorem BI.pass (hR : ∀ r ∈ R, r.2.2 = w r.1 r.2.1 ∧ r.1 ≠ r.2.1) {k : Nat} {st : Sq → Nat} {s : RS} (h : BI R R [] w k st s) : ∃ st', BI R R [] w (k + 1) st' (pass R s) := by
  have h0 : BI R [] R w (k + 1) st ⟨s.tb, s.cm, none⟩ := ⟨fun r m => (h.dn r m).imp id fun z => by omega, fun r m => absurd m List.not_mem_nil, fun p => Nat.le_succ_of_le (h.top p), h.cm, h.ed, h.cy, fun v e => (by cases e), fun v e => (by cases e)⟩
  obtain ⟨st', h1⟩ := h0.steps hR (Nat.succ_pos k) R fun _ m => m
  exact ⟨st', h1⟩
end
/-! going back -/
def back (cm : List (Sq × Sq)) (x : Sq) : Nat → Sq
  | 0 => x
  | n + 1 => (tget cm (back cm x n)).getD (back cm x n)
/-- some two of so many are alike -/
theorem two_alike {U : List Sq} {f : Nat → Sq} {n : Nat} (h : ∀ i, i ≤ n → f i ∈ U) (hn : U.length ≤ n) : ∃ i j, i < j ∧ j ≤ n ∧ f i = f j := by
  refine Classical.byContradiction fun no => ?_
  have nd : ((List.range (n + 1)).map f).Nodup := by
    unfold List.Nodup
    rw [List.pairwise_map]
    refine List.Pairwise.imp_of_mem ?_ List.pairwise_lt_range
    intro a b ha hb lt e
    exact no ⟨a, b, lt, by have := List.mem_range.mp hb; omega, e⟩
  have := nodup_len _ U nd fun x mx => by
    obtain ⟨i, hi, rfl⟩ := List.mem_map.mp mx
    exact h i (by have := List.mem_range.mp hi; omega)
  rw [List.length_map, List.length_range] at this
  omega
/-- what going back meets when the last of the passes let something down -/
structure Bck (R : List Rm) (w : Sq → Sq → Int) (U : List Sq) (cm : List (Sq × Sq)) (x : Sq) (n : Nat) : Prop where
  df : ∀ m, tget cm (back cm x m) = some (back cm x (m + 1))
  ed : ∀ m, (back cm x (m + 1), back cm x m, w (back cm x (m + 1)) (back cm x m)) ∈ R
  round : ∃ P, 0 < P ∧ P ≤ n ∧ back cm x (n + P) = back cm x n
  cy : ∀ x l, l ≠ [] → chain cm x l → endOf x l = x → wsum w x l < 0
section
variable {R : List Rm} {w : Sq → Sq → Int} {U : List Sq}
theorem BI.back {n : Nat} {st : Sq → Nat} {s : RS} {x : Sq} (h : BI R R [] w (n + 1) st s) (e : s.la = some x) (hU : ∀ r ∈ R, r.1 ∈ U ∧ r.2.1 ∈ U) (hn : U.length ≤ n) : Bck R w U s.cm x n := by
  have s1 : ∀ m, m ≤ n → n + 1 ≤ st (LW.back s.cm x m) + m := by
    intro m
    induction m with
    | zero => intro _; have := h.la x e; show n + 1 ≤ st x + 0; omega
    | succ m ih =>
      intro hm
      have i1 := ih (by omega)
      obtain ⟨u, eu, lu⟩ := h.cm _ (show 0 < st (LW.back s.cm x m) by omega)
      have : LW.back s.cm x (m + 1) = u := by
        show (tget s.cm (LW.back s.cm x m)).getD _ = u
        rw [eu]; rfl
      rw [this]
      omega
  have d1 : ∀ m, m ≤ n → tget s.cm (LW.back s.cm x m) = some (LW.back s.cm x (m + 1)) := fun m hm => by
    have := s1 m hm
    obtain ⟨u, eu, lu⟩ := h.cm _ (show 0 < st (LW.back s.cm x m) by omega)
    have q : LW.back s.cm x (m + 1) = u := by
      show (tget s.cm (LW.back s.cm x m)).getD _ = u
      rw [eu]; rfl
    rw [q, eu]
  have inU : ∀ i, i ≤ n → LW.back s.cm x i ∈ U := fun i hi => by
    have := h.ed _ _ (d1 i hi)
    exact (hU _ this.1).2
  obtain ⟨i, j, lt, jn, eq⟩ := two_alike inU hn
  have per : ∀ m, LW.back s.cm x (j + m) = LW.back s.cm x (i + m) := by
    intro m
    induction m with
    | zero => exact eq.symm
    | succ m ih =>
      show (tget s.cm (LW.back s.cm x (j + m))).getD (LW.back s.cm x (j + m)) = (tget s.cm (LW.back s.cm x (i + m))).getD (LW.back s.cm x (i + m))
      rw [ih]
  have df : ∀ m, tget s.cm (LW.back s.cm x m) = some (LW.back s.cm x (m + 1)) := by
    intro m
    induction m using Nat.strongRecOn with
    | _ m ih =>
      by_cases hm : m ≤ n
      · exact d1 m hm
      · have e1 := per (m - j)
        have e2 := per (m + 1 - j)
        rw [show j + (m - j) = m by omega] at e1
        rw [show j + (m + 1 - j) = m + 1 by omega, show i + (m + 1 - j) = (i + (m - j)) + 1 by omega] at e2
        rw [e1, e2]
        exact ih _ (by omega)
  refine ⟨df, fun m => (h.ed _ _ (df m)).1, ⟨j - i, by omega, by omega, ?_⟩, h.cy⟩
  have := per (n - i)
  rw [show j + (n - i) = n + (j - i) by omega, show i + (n - i) = n by omega] at this
  exact this
end
/-! ### tides, ring_back: in the program -/
/-- tables over some squares -/
structure TI (U : List Sq) (s : RS) : Prop where
  tb : s.tb.map (·.1) = U
  nd : (s.cm.map (·.1)).Nodup
  cm : ∀ p ∈ s.cm.map (·.1), p ∈ U
theorem TI.key {U : List Sq} {s : RS} (h : TI U s) {p : Sq} (m : p ∈ U) : tget s.tb p = some (tv s.tb p) := by
  unfold tv
  cases e : tget s.tb p with
  | none => exact absurd (by rw [h.tb]; exact m) (tget_none.mp e)
  | some v => rfl
theorem TI.rlx {U : List Sq} {s : RS} (h : TI U s) {r : Rm} (m : r.2.1 ∈ U) : TI U (rlx s r) := by
  unfold LW.rlx
  split
  · refine ⟨?_, tput_nodup h.nd _ _, fun p mp => ?_⟩
    · show (tput s.tb r.2.1 _).map (·.1) = U
      rw [tput_keys, if_pos (by rw [h.key m]; rfl), h.tb]
    · have mp : p ∈ (tput s.cm r.2.1 r.1).map (·.1) := mp
      rw [tput_keys] at mp
      split at mp
      · exact h.cm p mp
      · rcases List.mem_append.mp mp with mp | mp
        · exact h.cm p mp
        · rw [List.mem_singleton] at mp; rw [mp]; exact m
  · exact h
theorem TI.rlxs {U : List Sq} : ∀ (R : List Rm) {s : RS}, TI U s → (∀ r ∈ R, r.2.1 ∈ U) → TI U (R.foldl LW.rlx s)
  | [], _, h, _ => h
  | r :: R, _, h, m => TI.rlxs R (h.rlx (m r List.mem_cons_self)) fun x mx => m x (List.mem_cons_of_mem _ mx)
theorem TI.pass {U : List Sq} {R : List Rm} {s : RS} (h : TI U s) (m : ∀ r ∈ R, r.2.1 ∈ U) : TI U (pass R s) := TI.rlxs R (s := ⟨s.tb, s.cm, none⟩) ⟨h.tb, h.nd, h.cm⟩ m
/-! ### fills: the plain law -/
section
variable {c : Int} {H W : Nat} {rs : List (List Int)} {tb : List (Sq × Int)}
theorem minL_mem {l : List Int} (h : l ≠ []) : minL l ∈ l ∧ ∀ x ∈ l, minL l ≤ x := by
  cases l with
  | nil => exact absurd rfl h
  | cons x r =>
    obtain ⟨a, b, d⟩ := minL_at r x
    refine ⟨?_, fun y m => ?_⟩
    · rcases a with a | a
      · show r.foldl _ x ∈ _
        rw [a]
        exact List.mem_cons_self
      · exact List.mem_cons_of_mem _ a
    · rcases List.mem_cons.mp m with rfl | m
      · exact b
      · exact d y m
end
/-! ### hidden charts: ages drawn near one another -/
theorem maxL_mem {l : List Int} (h : l ≠ []) : maxL l ∈ l ∧ ∀ x ∈ l, x ≤ maxL l := by
  cases l with
  | nil => exact absurd rfl h
  | cons x r =>
    obtain ⟨a, b, d⟩ := maxL_at r x
    refine ⟨?_, fun y m => ?_⟩
    · rcases a with a | a
      · show r.foldl _ x ∈ _
        rw [a]
        exact List.mem_cons_self
      · exact List.mem_cons_of_mem _ a
    · rcases List.mem_cons.mp m with rfl | m
      · exact b
      · exact d y m
/-- the two squares ahead of one -/
def nearS (p : Sq) : List Sq := [(p.1 - 1, p.2), (p.1, p.2 - 1)]
def nearL (m : List (Sq × Int)) (p : Sq) : List Int := ((nearS p).filter fun q => (tget m q).isSome).map (tv m)
def lowH (cm : Int) (l : List Int) : Int := if l.isEmpty = true then 0 else maxL (l.map fun x => x - cm)
def topH (c cm : Int) (l : List Int) : Int := if l.isEmpty = true then c else minL (l.map fun x => x + cm)
def newH (c cm : Int) (l : List Int) (b : Box) : Int × Box := if lowH cm l ≤ topH c cm l then (lowH cm l + (take b (topH c cm l - lowH cm l + 1)).1, (take b (topH c cm l - lowH cm l + 1)).2) else ((lowH cm l + topH c cm l) / 2, b)
/-- near what stands ahead -/
theorem newH_near {c cm hf : Int} {l : List Int} {b : Box} (h1 : 1 ≤ cm) (h2 : cm ≤ hf) (hl : ∀ x ∈ l, ∀ y ∈ l, y ≤ x + 2 * hf) {x : Int} (hx : x ∈ l) : (newH c cm l b).1 ≤ x + hf ∧ x ≤ (newH c cm l b).1 + hf := by
  have ne : l ≠ [] := fun z => by rw [z] at hx; cases hx
  have ie : ¬ l.isEmpty = true := fun z => ne (List.isEmpty_iff.mp z)
  have n1 : (l.map fun x => x - cm) ≠ [] := fun z => ne (List.map_eq_nil_iff.mp z)
  have n2 : (l.map fun x => x + cm) ≠ [] := fun z => ne (List.map_eq_nil_iff.mp z)
  obtain ⟨a1, a2⟩ := maxL_mem n1
  obtain ⟨b1, b2⟩ := minL_mem n2
  have le1 : x - cm ≤ lowH cm l := by unfold lowH; rw [if_neg ie]; exact a2 _ (List.mem_map.mpr ⟨x, hx, rfl⟩)
  have le2 : topH c cm l ≤ x + cm := by unfold topH; rw [if_neg ie]; exact b2 _ (List.mem_map.mpr ⟨x, hx, rfl⟩)
  obtain ⟨u, mu, eu⟩ := List.mem_map.mp a1
  obtain ⟨v, mv, ev⟩ := List.mem_map.mp b1
  have el : lowH cm l = u - cm := by unfold lowH; rw [if_neg ie, ← eu]
  have et : topH c cm l = v + cm := by unfold topH; rw [if_neg ie, ← ev]
  have d1 := hl u mu x hx
  have d2 := hl x hx u mu
  have d3 := hl v mv x hx
  have d4 := hl x hx v mv
  have d5 := hl u mu v mv
  have d6 := hl v mv u mu
  unfold newH
  by_cases q : lowH cm l ≤ topH c cm l
  · rw [if_pos q]
    have t1 := take_nn b (show 0 < topH c cm l - lowH cm l + 1 by omega)
    have t2 := take_lt b (show 0 < topH c cm l - lowH cm l + 1 by omega)
    dsimp only
    omega
  · rw [if_neg q]
    dsimp only
    rw [el, et] at q ⊢
    rw [el] at le1
    rw [et] at le2
    omega
theorem newH_in {c cm B : Int} {l : List Int} {b : Box} (hc : 0 ≤ c) (h1 : 1 ≤ cm) (hB : c ≤ B) (hl : ∀ x ∈ l, -B ≤ x ∧ x ≤ B) : -(B + cm) ≤ (newH c cm l b).1 ∧ (newH c cm l b).1 ≤ B + cm ∧ (lowH cm l ≤ topH c cm l → topH c cm l - lowH cm l + 1 ≤ 2 * (B + cm) + 1) := by
  have lo : -(B + cm) ≤ lowH cm l ∧ lowH cm l ≤ B + cm := by
    unfold lowH
    by_cases ie : l.isEmpty = true
    · rw [if_pos ie]; omega
    · rw [if_neg ie]
      have n1 : (l.map fun x => x - cm) ≠ [] := fun z => ie (List.isEmpty_iff.mpr (List.map_eq_nil_iff.mp z))
      obtain ⟨u, mu, eu⟩ := List.mem_map.mp (maxL_mem n1).1
      have := hl u mu
      omega
  have tp : -(B + cm) ≤ topH c cm l ∧ topH c cm l ≤ B + cm := by
    unfold topH
    by_cases ie : l.isEmpty = true
    · rw [if_pos ie]; omega
    · rw [if_neg ie]
      have n1 : (l.map fun x => x + cm) ≠ [] := fun z => ie (List.isEmpty_iff.mpr (List.map_eq_nil_iff.mp z))
      obtain ⟨u, mu, eu⟩ := List.mem_map.mp (minL_mem n1).1
      have := hl u mu
      omega
  unfold newH
  by_cases q : lowH cm l ≤ topH c cm l
  · rw [if_pos q]
    have t1 := take_nn b (show 0 < topH c cm l - lowH cm l + 1 by omega)
    have t2 := take_lt b (show 0 < topH c cm l - lowH cm l + 1 by omega)
    dsimp only
    omega
  · rw [if_neg q]
    dsimp only
    omega
/-- k squares have their ages -/
structure Hid (H W : Nat) (hf : Int) (k : Nat) (m : List (Sq × Int)) : Prop where
  keys : m.map (·.1) = (allS H W).take k
  near : ∀ p q, q ∈ nearS p → p ∈ m.map (·.1) → q ∈ m.map (·.1) → tv m p ≤ tv m q + hf ∧ tv m q ≤ tv m p + hf
  bnd : ∀ p ∈ m.map (·.1), -(20 + 8 * (k : Int)) ≤ tv m p ∧ tv m p ≤ 20 + 8 * (k : Int)
theorem all_at {H W k : Nat} {p : Sq} (h : (allS H W)[k]? = some p) : k < W * H ∧ p = (((k / W : Nat) : Int), ((k % W : Nat) : Int)) := by
  unfold allS at h
  rw [List.getElem?_map] at h
  cases e : (List.range (W * H))[k]? with
  | none => rw [e] at h; cases h
  | some j =>
    rw [e] at h
    obtain ⟨a, b⟩ := List.getElem?_eq_some_iff.mp e
    rw [List.getElem_range] at b
    subst b
    cases h
    exact ⟨by rw [List.length_range] at a; exact a, rfl⟩
theorem all_before {H W k i j : Nat} (h : k < W * H) (hj : j < W) (hl : W * i + j < k) : ((i : Int), (j : Int)) ∈ (allS H W).take k := by
  have e : (allS H W)[W * i + j]? = some ((i : Int), (j : Int)) := by
    unfold allS
    rw [List.getElem?_map, List.getElem?_range (by omega)]
    show some (((((W * i + j) / W : Nat) : Int)), (((W * i + j) % W : Nat) : Int)) = some _
    rw [Nat.mul_add_div (by omega), Nat.mul_add_mod, Nat.div_eq_of_lt hj, Nat.mod_eq_of_lt hj]
    rfl
  refine List.mem_of_getElem? (i := W * i + j) ?_
  rw [List.getElem?_take, if_pos hl]
  exact e
theorem all_lt {H W k : Nat} {p : Sq} (hk : k ≤ W * H) (h : p ∈ (allS H W).take k) : ∃ i j : Nat, p = ((i : Int), (j : Int)) ∧ j < W ∧ W * i + j < k := by
  obtain ⟨n, hn, e⟩ := List.mem_iff_getElem.mp h
  rw [List.length_take] at hn
  rw [List.getElem_take] at e
  have e2 : (allS H W)[n]? = some p := by rw [List.getElem?_eq_getElem (by omega), e]
  obtain ⟨a, b⟩ := all_at e2
  have w0 : 0 < W := by
    rcases Nat.eq_zero_or_pos W with z | z
    · subst z; simp at a
    · exact z
  have := Nat.div_add_mod n W
  exact ⟨n / W, n % W, b, Nat.mod_lt _ w0, by omega⟩
theorem Hid.step {H W : Nat} {c cm hf : Int} {k : Nat} {m : List (Sq × Int)} {b : Box} {p : Sq} (hc : Clk c) (h1 : 1 ≤ cm) (h2 : cm ≤ hf) (h3 : hf ≤ 8) (h81 : W * H ≤ 81) (h : Hid H W hf k m) (hp : (allS H W)[k]? = some p) :
    Hid H W hf (k + 1) (m ++ [(p, (newH c cm (nearL m p) b).1)]) ∧ tget m p = none ∧ (lowH cm (nearL m p) ≤ topH c cm (nearL m p) → topH c cm (nearL m p) - lowH cm (nearL m p) + 1 ≤ 10000) := by
  obtain ⟨kl, ep⟩ := all_at hp
  have w0 : 0 < W := by
    rcases Nat.eq_zero_or_pos W with z | z
    · subst z; simp at kl
    · exact z
  have dm := Nat.div_add_mod k W
  have ml := Nat.mod_lt k w0
  have np : p ∉ m.map (·.1) := fun z => by
    rw [h.keys] at z
    obtain ⟨i, j, e, hj, lt⟩ := all_lt (H := H) (W := W) (k := k) (by omega) z
    rw [ep] at e
    injection e with e1 e2
    have e1 : k / W = i := by omega
    have e2 : k % W = j := by omega
    subst e1 e2
    omega
  have tn : tget m p = none := tget_none.mpr np
  have tva : ∀ q ∈ m.map (·.1), tv (m ++ [(p, (newH c cm (nearL m p) b).1)]) q = tv m q := fun q mq => by
    unfold tv
    rw [tget_app]
    cases e : tget m q with
    | none => exact absurd mq (tget_none.mp e)
    | some v => rfl
  have tvp : tv (m ++ [(p, (newH c cm (nearL m p) b).1)]) p = (newH c cm (nearL m p) b).1 := by
    unfold tv
    rw [tget_app, tn, tget_cons, if_pos rfl]
    rfl
  have nl : ∀ x ∈ nearL m p, ∃ q ∈ nearS p, q ∈ m.map (·.1) ∧ x = tv m q := fun x mx => by
    obtain ⟨q, mq, e⟩ := List.mem_map.mp mx
    obtain ⟨m1, m2⟩ := List.mem_filter.mp mq
    refine ⟨q, m1, ?_, e.symm⟩
    refine Classical.byContradiction fun z => ?_
    rw [tget_none.mpr z] at m2
    cases m2
  have nl2 : ∀ q ∈ nearS p, q ∈ m.map (·.1) → tv m q ∈ nearL m p := fun q m1 m2 => List.mem_map.mpr ⟨q, List.mem_filter.mpr ⟨m1, by
    cases e : tget m q with
    | none => exact absurd m2 (tget_none.mp e)
    | some v => rfl⟩, rfl⟩
  -- two squares ahead: through the one between them
  have two : ∀ x ∈ nearL m p, ∀ y ∈ nearL m p, y ≤ x + 2 * hf := fun x mx y my => by
    obtain ⟨q, m1, m2, rfl⟩ := nl x mx
    obtain ⟨r, r1, r2, rfl⟩ := nl y my
    have hf0 : 0 ≤ hf := by omega
    by_cases qr : q = r
    · rw [qr]; omega
    · -- one above, one to the left
      have both : (p.1 - 1, p.2) ∈ m.map (·.1) ∧ (p.1, p.2 - 1) ∈ m.map (·.1) := by
        unfold nearS at m1 r1
        rcases List.mem_cons.mp m1 with rfl | m1
        · rcases List.mem_cons.mp r1 with rfl | r1
          · exact absurd rfl qr
          · rw [List.mem_singleton] at r1; subst r1; exact ⟨m2, r2⟩
        · rw [List.mem_singleton] at m1; subst m1
          rcases List.mem_cons.mp r1 with rfl | r1
          · exact ⟨r2, m2⟩
          · rw [List.mem_singleton] at r1; subst r1; exact absurd rfl qr
      have dg : (p.1 - 1, p.2 - 1) ∈ m.map (·.1) := by
        obtain ⟨u1, u2⟩ := both
        rw [h.keys] at u1 u2 ⊢
        obtain ⟨i, j, e, hj, lt⟩ := all_lt (H := H) (W := W) (k := k) (by omega) u1
        obtain ⟨i2, j2, e2, hj2, lt2⟩ := all_lt (H := H) (W := W) (k := k) (by omega) u2
        injection e with e1 e3
        injection e2 with e4 e5
        have e6 : p.1 - 1 = (i : Int) := e1
        have e7 : p.2 - 1 = (j2 : Int) := e5
        have jj : j = j2 + 1 := by omega
        rw [e6, e7]
        refine all_before kl hj2 (by subst jj; omega)
      have a1 := h.near (p.1 - 1, p.2) (p.1 - 1, p.2 - 1) (List.mem_cons_of_mem _ (List.mem_singleton_self _)) both.1 dg
      have a2 := h.near (p.1, p.2 - 1) (p.1 - 1, p.2 - 1) List.mem_cons_self both.2 dg
      unfold nearS at m1 r1
      have : (q = (p.1 - 1, p.2) ∧ r = (p.1, p.2 - 1)) ∨ (q = (p.1, p.2 - 1) ∧ r = (p.1 - 1, p.2)) := by
        rcases List.mem_cons.mp m1 with m1 | m1
        · rcases List.mem_cons.mp r1 with r1 | r1
          · exact absurd (m1.trans r1.symm) qr
          · exact .inl ⟨m1, List.mem_singleton.mp r1⟩
        · rcases List.mem_cons.mp r1 with r1 | r1
          · exact .inr ⟨List.mem_singleton.mp m1, r1⟩
          · exact absurd ((List.mem_singleton.mp m1).trans (List.mem_singleton.mp r1).symm) qr
      rcases this with ⟨rfl, rfl⟩ | ⟨rfl, rfl⟩ <;> omega
  have bn := newH_in (b := b) (c := c) (cm := cm) (B := 20 + 8 * (k : Int)) (l := nearL m p) (by have := hc.lo; omega) h1 (by have := hc.hi; omega) fun x mx => by
    obtain ⟨q, _, m2, rfl⟩ := nl x mx
    exact h.bnd q m2
  refine ⟨⟨?_, fun u v hv mu mv => ?_, fun u mu => ?_⟩, tn, fun z => ?_⟩
  · rw [List.map_append, h.keys, List.take_succ, hp]
    rfl
  · rw [List.map_append] at mu mv
    have up : ∀ u, u ∈ m.map (·.1) ++ ([(p, (newH c cm (nearL m p) b).1)] : List (Sq × Int)).map (·.1) → u ∈ m.map (·.1) ∨ u = p := fun u mu => (List.mem_append.mp mu).imp id fun z => List.mem_singleton.mp z
    rcases up u mu with mu1 | rfl
    · rcases up v mv with mv1 | rfl
      · rw [tva u mu1, tva v mv1]
        exact h.near u v hv mu1 mv1
      · -- the new one is never ahead
        exfalso
        rw [h.keys] at mu1
        obtain ⟨i, j, e, hj, lt⟩ := all_lt (H := H) (W := W) (k := k) (by omega) mu1
        rw [e, ep] at hv
        unfold nearS at hv
        rcases List.mem_cons.mp hv with hv | hv
        · injection hv with a1 a2
          have a1 : ((k / W : Nat) : Int) = (i : Int) - 1 := a1
          have a2 : ((k % W : Nat) : Int) = (j : Int) := a2
          have : i = k / W + 1 := by omega
          have j2 : j = k % W := by omega
          subst this j2
          rw [Nat.mul_add, Nat.mul_one] at lt
          omega
        · rw [List.mem_singleton] at hv
          injection hv with a1 a2
          have a1 : ((k / W : Nat) : Int) = (i : Int) := a1
          have a2 : ((k % W : Nat) : Int) = (j : Int) - 1 := a2
          have : i = k / W := by omega
          have j2 : j = k % W + 1 := by omega
          subst this j2
          omega
    · rcases up v mv with mv1 | rfl
      · rw [tvp, tva v mv1]
        exact newH_near h1 h2 two (nl2 v hv mv1)
      · exfalso
        unfold nearS at hv
        rcases List.mem_cons.mp hv with hv | hv
        · have := congrArg Prod.fst hv
          dsimp only at this
          omega
        · rw [List.mem_singleton] at hv
          have := congrArg Prod.snd hv
          dsimp only at this
          omega
  · rw [List.map_append] at mu
    rcases List.mem_append.mp mu with mu | mu
    · rw [tva u mu]
      have := h.bnd u mu
      omega
    · have mu : u = p := List.mem_singleton.mp mu
      subst mu
      rw [tvp]
      obtain ⟨b1, b2, _⟩ := bn
      omega
  · have := bn.2.2 z
    have := hc.hi
    omega

/-! ### fills judged by the law; charts thinned -/
section
variable {c : Int} {H W : Nat} {rs rs' : List (List Int)}
/-- some squares made land or untold -/
def Thin (H W : Nat) (rs rs' : List (List Int)) : Prop := ∀ i j, i < H → j < W → cell rs' i j = cell rs i j ∨ cell rs' i j = -2 ∨ cell rs' i j = -1
theorem withR_cell {i j : Nat} {v : Int} {a b : Nat} (ha : a < H) (hb : b < W) : cell (withR H W rs i j v) a b = if a = i ∧ b = j then v else cell rs a b := by
  unfold withR
  rw [cell_grid ha hb]
  rfl
theorem Thin.put (h : Thin H W rs rs') {i j : Nat} {v : Int} (hv : v = -2 ∨ v = -1) : Thin H W rs (withR H W rs' i j v) := fun a b ha hb => by
  rw [withR_cell ha hb]
  split
  · exact .inr hv
  · exact h a b ha hb
end
/-! ### breaks and jumps -/
section
variable {c : Int} {H W : Nat} {rs : List (List Int)}
/-- the jump between two squares -/
def vI (m : List (Sq × Int)) (p : Sq) : Int := (tget m p).getD 0
def jI (c : Int) (H W : Nat) (rs : List (List Int)) (m : List (Sq × Int)) (s : Sq × Sq) : Int := (vI m s.2 - vI m s.1 - stepI c (whatI H W rs s.1) (whatI H W rs s.2)) / c
theorem vI_some {m : List (Sq × Int)} {p : Sq} (h : (tget m p).isSome = true) : tget m p = some (vI m p) := by
  obtain ⟨v, e⟩ := Option.isSome_iff_exists.mp h
  unfold vI
  rw [e]; rfl
end
/-! ### breaks of a table, as rows and as the law has them -/
section
variable {c : Int} {H W : Nat} {rs : List (List Int)}
/-- a table with an age for each told square, even with its hour -/
structure LTb (c : Int) (H W : Nat) (rs : List (List Int)) (m : List (Sq × Int)) : Prop where
  told : ∀ p, (tget m p).isSome = true → isTold H W rs p = true
  has : ∀ p, isTold H W rs p = true → (tget m p).isSome = true
  md : ∀ p v, tget m p = some v → (v - whatI H W rs p) % c = 0
end
/-! ### rows of ages: small facts -/
theorem Aged.len {c : Int} {H W : Nat} {rs : List (List Int)} (g : Rc c H W rs) {m : List (Sq × Int)} (h : Aged H W rs m) : m.length ≤ 81 := by
  have u := nodup_len _ _ h.nd fun e me => mem_allS.mpr (isTold_in (h.told e (by
    cases q : tget m e with
    | none => exact absurd me (tget_none.mp q)
    | some z => rfl)))
  rw [List.length_map] at u
  exact Nat.le_trans u (allS_len g)
theorem Aged.put {H W : Nat} {rs : List (List Int)} {m : List (Sq × Int)} (h : Aged H W rs m) {p : Sq} (hp : (tget m p).isSome = true) (v : Int) : Aged H W rs (tput m p v) := by
  refine ⟨tput_nodup h.nd _ _, fun q hq => ?_, fun l ml q mq => Mo.put m p v q (h.has l ml q mq)⟩
  rw [tget_put] at hq
  by_cases e : q = p
  · rw [e]; exact h.told p hp
  · rw [if_neg e] at hq; exact h.told q hq
/-! ### breaks laid -/
section
variable {c : Int} {H W : Nat} {rs : List (List Int)} {A : Str → Addr}
/-! .. the breaks of a table lay it -/
theorem LTb.step (g : Rc c H W rs) {m : List (Sq × Int)} (h : LTb c H W rs m) {p q : Sq} (t1 : isTold H W rs p = true) (t2 : isTold H W rs q = true) : c * jI c H W rs m (p, q) = vI m q - vI m p - stepI c (whatI H W rs p) (whatI H W rs q) := by
  have c0 : 0 < c := by have := g.clk.lo; omega
  have m1 := h.md p _ (vI_some (h.has p t1))
  have m2 := h.md q _ (vI_some (h.has q t2))
  obtain ⟨r, er, r0, rc, hr⟩ := stp_raw (c := c) (x := whatI H W rs p) (y := whatI H W rs q) g.clk
  unfold jI
  dsimp only
  refine Int.mul_ediv_cancel' ?_
  have d1 := Int.dvd_of_emod_eq_zero m1
  have d2 := Int.dvd_of_emod_eq_zero m2
  have d3 : c ∣ (whatI H W rs q - whatI H W rs p) - stepI c (whatI H W rs p) (whatI H W rs q) := by
    have e1 : c ∣ (whatI H W rs q - whatI H W rs p) - r := by
      rw [← er]
      exact Int.dvd_self_sub_emod
    rcases hr with ⟨_, e⟩ | ⟨_, e⟩
    · rw [e, show whatI H W rs q - whatI H W rs p - (r - c) = (whatI H W rs q - whatI H W rs p - r) + c by omega]
      exact Int.dvd_add e1 (Int.dvd_refl c)
    · rw [e]; exact e1
  have := Int.dvd_add (Int.dvd_sub d2 d1) d3
  rw [show vI m q - whatI H W rs q - (vI m p - whatI H W rs p) + (whatI H W rs q - whatI H W rs p - stepI c (whatI H W rs p) (whatI H W rs q)) = vI m q - vI m p - stepI c (whatI H W rs p) (whatI H W rs q) by omega] at this
  exact this
/-- a table, each sea moved so that its first square keeps its hour -/
def gvI (H W : Nat) (rs : List (List Int)) (m : List (Sq × Int)) (p : Sq) : Int := vI m p - (vI m (headO H W rs p) - whatI H W rs (headO H W rs p))
/-! .. weights -/
end
/-! ### tables lifted by tides; grounded -/
/-- ages of all told squares, even with their hours -/
structure LG (c : Int) (H W : Nat) (rs : List (List Int)) (m : List (Sq × Int)) : Prop where
  ag : Aged H W rs m
  md : ∀ p v, tget m p = some v → (v - whatI H W rs p) % c = 0
section
variable {c : Int} {H W : Nat} {rs : List (List Int)}
theorem Aged.all (g : Rc c H W rs) {m : List (Sq × Int)} (h : Aged H W rs m) {q : Sq} (t : isTold H W rs q = true) : (tget m q).isSome = true := by
  have sa := seas_at g
  obtain ⟨l, ml, mq⟩ := (sa.seen q).mp (sa.all q (mem_toldL.mpr t))
  exact h.has l ml q mq
theorem LG.tb (g : Rc c H W rs) {m : List (Sq × Int)} (h : LG c H W rs m) : LTb c H W rs m := ⟨h.ag.told, fun _ t => h.ag.all g t, h.md⟩
theorem Wv.md (g : Rc c H W rs) {m : List (Sq × Int)} (h : Wv c H W rs m) : ∀ p v, tget m p = some v → (v - whatI H W rs p) % c = 0 := fun p v e => by
  obtain ⟨_, l, wl, el⟩ := h _ (tget_mem e)
  obtain ⟨k, ek⟩ := sum_mod g.clk wl
  dsimp only at el ek
  rw [el, ek, show whatI H W rs (headO H W rs p) + (whatI H W rs p - whatI H W rs (headO H W rs p) + c * k) - whatI H W rs p = c * k by omega]
  exact Int.mul_emod_right c k
theorem LG.put (g : Rc c H W rs) {m : List (Sq × Int)} (h : LG c H W rs m) {p : Sq} (hp : (tget m p).isSome = true) (k : Int) : LG c H W rs (tput m p (vI m p + c * k)) := by
  refine ⟨h.ag.put hp _, fun q v e => ?_⟩
  rw [tget_put] at e
  by_cases z : q = p
  · rw [if_pos z] at e
    have e := Option.some.inj e
    have := h.md p _ (vI_some hp)
    rw [← e, z, show vI m p + c * k - whatI H W rs p = vI m p - whatI H W rs p + c * k by omega, Int.add_mul_emod_self_left]
    exact this
  · rw [if_neg z] at e
    exact h.md q v e
/-! .. grounded -/
structure Gd (H W : Nat) (rs : List (List Int)) (m G : List (Sq × Int)) : Prop where
  nd : (G.map (·.1)).Nodup
  val : ∀ e ∈ G, isTold H W rs e.1 = true ∧ e.2 = gvI H W rs m e.1
theorem Gd.put {m G : List (Sq × Int)} (h : Gd H W rs m G) {p : Sq} (t : isTold H W rs p = true) {v : Int} (ev : v = gvI H W rs m p) : Gd H W rs m (tput G p v) := by
  refine ⟨tput_nodup h.nd _ _, fun e me => ?_⟩
  rcases mem_tput me with me | me
  · rw [me]; exact ⟨t, ev⟩
  · exact h.val e me
theorem Gd.len (g : Rc c H W rs) {m G : List (Sq × Int)} (h : Gd H W rs m G) : G.length ≤ 81 := tab_len g h.nd fun e me => (h.val e me).1
end
/-! ### texts read -/
/-- what a sign tells -/
def hx (c : Nat) : Option Int := if 48 ≤ c ∧ c ≤ 57 then some ((c : Int) - 48) else if 97 ≤ c ∧ c ≤ 101 then some ((c : Int) - 87) else if c = 35 then some (-1) else if c = 46 then some (-2) else none
def intsO (r : List (Option Int)) : List Int := r.map (·.getD 0)
/-- a row that is no row of a chart: the k-th -/
def badR (c : Int) (k : Nat) (r : List (Option Int)) : Bool := r.any (·.isNone) || (!(decide (1 ≤ r.length) && decide (r.length ≤ 9)) || (decide (8 < k) || decide (c ≤ maxL (intsO r))))
def good (c : Int) (w k : Nat) (r : List (Option Int)) : Bool := !badR c k r && decide (r.length = w)
/-! ### deeds in words -/
theorem sh_str {z : Str} (h : ∀ c ∈ z.cps.toList, c < 0x110000) : SeqAt.shaped (.str z) = true := okN_shaped (n := 0) (by decide) (show PyData.strOk z = true by
  unfold PyData.strOk
  rw [← Array.all_toList]
  exact List.all_eq_true.mpr fun c m => decide_eq_true (h c m))
/-- a name -/
structure Nm (z : Str) : Prop where
  lo : 1 ≤ z.length
  hi : z.length ≤ 8
  c : ∀ c ∈ z.cps.toList, 97 ≤ c ∧ c ≤ 122
theorem Nm.sh {z : Str} (h : Nm z) : SeqAt.shaped (.str z) = true := sh_str fun c m => by have := h.c c m; omega
/-- a number of up to six figures -/
def numS (n : Nat) : Str := Str.ofString (toString ((n : Nat) : Int))
/-! the kinds of things -/
/-- a word for a square -/
def oW (o : Int) : Str := if o = -1 then Str.ofString "land" else if o = -2 then Str.ofString "sea" else numS o.toNat
/-! ### the law's own writing -/
/-- the k-th thing d comes to the word s -/
def StepOk (w : Str) (k : Nat) (d : D) (s : Str) : Prop := d = .str s ∨ (∃ n : Nat, n < 1000000 ∧ d = .int (n : Int) ∧ s = numS n) ∨ ∃ o : Int, -2 ≤ o ∧ o < 1000000 ∧ d = .int o ∧ s = oW o ∧ ((w = Str.ofString "tell" ∧ k = 4) ∨ (w = Str.ofString "right" ∧ k = 3))
def LW (w : Str) : Nat → List D → List Str → Prop
  | _, [], [] => True
  | k, d :: ds, s :: ss => StepOk w k d s ∧ LW w (k + 1) ds ss
  | _, _, _ => False
/-! ### objects: how the layer's functions answer -/
theorem lendF_ok {f : EF} {ρ ρ1 : En} {d : D} (h : f (lend ρ) = .ok (.st d) ρ1) (l : lf d = true) : lendF f ρ = .ok (.st d) ρ := by
  unfold lendF
  rw [h]
  show (if lfV (.st d) = true then O.ok (Vl.st d) ρ else .bad) = _
  rw [if_pos (show lfV (.st d) = true from l)]
theorem lendB_ok {f : BF} {ρ ρ1 : En} {b : Bool} (h : f (lend ρ) = .ok b ρ1) : lendB f ρ = .ok b ρ := by
  unfold lendB
  rw [h]
  rfl
theorem exprS_ok {f : EF} {ρ ρ1 : En} {d : D} (h : f ρ = .ok (.st d) ρ1) : exprS f ρ = .nx ρ1 := by
  unfold exprS
  rw [h, then_ok]
theorem callM_ok {c m : Str} {md : List Md} {F : List D → R} {dd : List D} {fo : EF} {fa : AF} {ρ ρ0 ρ1 : En} {kvs : List (D × D)} {xs : List Vl} {ds : List D} {d out : D} {fr : Bool} (h0 : fo ρ = .ok (.st (.dict ((.none, .str c) :: kvs))) ρ0) (hk : lookI m kvs = none)
    (ha : fa ρ0 = .ok xs ρ1) (hg : argD md (xs ++ dd.map Vl.st) = some ds) (e : F (.dict ((.none, .str c) :: kvs) :: ds) = .ok d fr out) : callM c m md F dd fo fa ρ = .ok (.st d) ρ1 := by
  unfold callM
  rw [h0, bind_ok]
  try dsimp only
  rw [if_pos ⟨rfl, hk⟩, ha, bind_ok]
  try dsimp only
  rw [hg]
  try dsimp only
  rw [e]
theorem dputR_ok {i : Nat} {g : En → Option (List Nat)} {fk fv : EF} {ρ ρ1 ρ2 : En} {v k d c c' : D} {s : DL.Slot} {path : List Nat} (hv : fv ρ = .ok (.st v) ρ1) (hs : ρ1[i]? = some s) (hg : g ρ1 = some path) (ht : s.tree = some d) (hi : getIn d path = some c) (fl : flatT c = true) (ni : isInsD c = false)
    (hk : fk (lend ρ1) = .ok (.st k) ρ2) (hp : dputD c k v = some c') (lk : lf k = true) (nn : isN c' = false) : dputR i g fk fv ρ = .nx (ρ1.set i (s.putT (setIn d path c'))) := by
  unfold dputR
  rw [hv, then_ok, hs, hg]
  try dsimp only
  rw [ht]
  try dsimp only
  rw [hi]
  try dsimp only
  rw [if_pos ⟨fl, ni⟩, hk]
  try dsimp only
  rw [hp]
  try dsimp only
  rw [if_pos ⟨lk, nn⟩]
theorem lendT {d v : D} (h : DL.strip (bx d) = v) : lendS (.atr d) = .val v ∧ lendS (.tre d) = .val v := by
  constructor
  · show (match (some (DL.strip (bx d)) : Option D) with | some d => DL.Slot.val d | none => DL.Slot.un) = _
    rw [h]
  · show (match (some (DL.strip (bx d)) : Option D) with | some d => DL.Slot.val d | none => DL.Slot.un) = _
    rw [h]
/-- a comprehension over a dict at a plain place -/
theorem X_run {α : Type} {t : Tg} {vs : List Nat} {h : En → Option D} {te : EF} {ρ : En} (ρ1 : En) (kvs : List (D × D)) (f g : α → D) (xs : List α) (hh : h (lend ρ) = some (.dict kvs)) (n1 : isN (.dict kvs) = false) (n2 : isInsD (.dict kvs) = false) (hk : keysOf (.dict kvs) = xs.map f) (hw : wipeE (lend ρ) vs = ρ1)
    (hx : ∀ x ∈ xs, ∃ ρ2, t.put (f x) ρ1 = some ρ2 ∧ ∃ ρ3, te ρ2 = .ok (.st (g x)) ρ3 ∧ wipeE ρ3 vs = ρ1) (hl : xs.length ≤ 100000) (hf : ∀ x ∈ xs, lf (g x) = true) : compX t vs h yes te ρ = .ok (.list (xs.map g)) ρ := by
  have key : ∀ xs : List α, (∀ x ∈ xs, ∃ ρ2, t.put (f x) ρ1 = some ρ2 ∧ ∃ ρ3, te ρ2 = .ok (.st (g x)) ρ3 ∧ wipeE ρ3 vs = ρ1) → compLoop t vs yes te (xs.map f) ρ1 = .ok (xs.map g) ρ1 := by
    intro xs
    induction xs with
    | nil => exact fun _ => rfl
    | cons x xs ih =>
      intro h
      obtain ⟨ρ2, e1, ρ3, e3, e4⟩ := h x (List.mem_cons_self ..)
      have ih := ih fun e m => h e (List.mem_cons_of_mem _ m)
      rw [List.map_cons]
      unfold compLoop
      simp only [e1, yes, noEr_ok, bind_ok, if_true, e3, e4, ih, List.map_cons]
  have lfx : ∀ xs : List α, (∀ x ∈ xs, lf (g x) = true) → lfA (xs.map g) = true := by
    intro xs
    induction xs with
    | nil => exact fun _ => rfl
    | cons x xs ih =>
      intro h
      rw [List.map_cons, lfA, h x List.mem_cons_self, ih fun y m => h y (List.mem_cons_of_mem _ m)]
      rfl
  unfold compX
  rw [hh]
  try dsimp only
  rw [if_neg (by
    intro z
    rcases z with z | z
    · rw [n1] at z; cases z
    · rw [n2] at z; cases z), hk, hw, key xs hx]
  try dsimp only
  rw [if_pos ⟨short_map hl, lfx xs hf⟩]
theorem mkT_ok {c : Str} {md : List Md} {F : D → List D → R} {dd : List D} {fa : AF} {ρ ρ1 : En} {xs : List Vl} {ds : List D} {d : D} (ha : fa ρ = .ok xs ρ1) (hg : argD md (xs ++ dd.map Vl.st) = some ds) (e : F (.dict [(.none, .str c)]) ds = .ok .none false d) : mkT c md F dd fa ρ = .ok d ρ1 := by
  unfold mkT
  rw [ha, bind_ok]
  try dsimp only
  rw [hg]
  try dsimp only
  rw [e]
theorem frzC_ok {cf : CF} {ρ ρ1 : En} {d z : D} (h : cf ρ = .ok d ρ1) (hz : DL.strip (bx d) = z) : frzC cf ρ = .ok (.st z) ρ1 := by
  unfold frzC
  rw [h, bind_ok, hz]
/-! ### dicts of ints -/
section
variable {α : Type} (f : α → D)
def iget {α : Type} (m : List (Int × α)) (k : Int) : Option α := (m.find? fun e => decide (e.1 = k)).map (·.2)
def iput {α : Type} (m : List (Int × α)) (k : Int) (v : α) : List (Int × α) := if (m.any fun e => decide (e.1 = k)) = true then m.map (fun e => if e.1 = k then (e.1, v) else e) else m ++ [(k, v)]
def itD {α : Type} (f : α → D) (m : List (Int × α)) : D := .dict (m.map fun e => (.int e.1, f e.2))
theorem asK_it (m : List (Int × α)) : asK (itD f m) = some (m.map fun e => (.int e.1, f e.2)) := by cases m <;> rfl
theorem asT_it (m : List (Int × α)) : asT (itD f m) = none := by cases m <;> rfl
theorem look_it (m : List (Int × α)) (k : Int) : lookD (m.map fun e => (.int e.1, f e.2)) (.int k) = (iget m k).map f := by
  unfold lookD iget
  rw [List.find?_map, Option.map_map, Option.map_map]
  rfl
theorem lookA_it (m : List (Int × α)) (k : Int) : lookA (itD f m) (.int k) = some ((iget m k).map f) := by
  rw [← look_it]
  show (asK (itD f m)).bind _ = _
  rw [asK_it]
  rfl
theorem get_it {m : List (Int × α)} {k : Int} {v : α} (h : iget m k = some v) : dgetD (itD f m) (.int k) = some (f v) := by
  unfold dgetD
  rw [lookA_it, h]
  rfl
theorem size_it (m : List (Int × α)) : dsizeD (itD f m) = some (.int (m.length : Int)) := by
  unfold dsizeD
  rw [asT_it, asK_it]
  show some (PyData.int ((m.map fun e : Int × α => ((PyData.int e.1, f e.2) : D × D)).length : Int)) = _
  rw [List.length_map]
theorem any_it (m : List (Int × α)) (k : Int) : ((m.map fun e : Int × α => ((.int e.1, f e.2) : D × D)).any fun kv => keq kv.1 (.int k)) = m.any fun e => decide (e.1 = k) := by
  rw [List.any_map]
  rfl
theorem put_it {m : List (Int × α)} {k : Int} {v : α} (l : m.length < 100000) : dputD (itD f m) (.int k) (f v) = some (itD f (iput m k v)) := by
  show ((asK (itD f m)).bind fun kvs => (key1 (.int k)).bind fun _ => if kvs.length < 100000 then some (PyData.dict (putD kvs (.int k) (f v))) else none) = _
  rw [asK_it, Option.bind_some]
  show (if (m.map fun e : Int × α => ((PyData.int e.1, f e.2) : D × D)).length < 100000 then _ else none) = _
  rw [if_pos (by rw [List.length_map]; exact l)]
  unfold putD iput itD
  rw [any_it]
  by_cases q : (m.any fun e => decide (e.1 = k)) = true
  · rw [if_pos q, if_pos q, List.map_map, List.map_map]
    congr 2
    refine List.map_congr_left fun e _ => ?_
    show (if decide (e.1 = k) = true then _ else _) = (fun e : Int × α => ((PyData.int e.1, f e.2) : D × D)) (if e.1 = k then (e.1, v) else e)
    by_cases z : e.1 = k
    · rw [if_pos (decide_eq_true z), if_pos z]
    · rw [if_neg (by rw [decide_eq_false z]; decide), if_neg z]
  · rw [if_neg q, if_neg q, List.map_append]
    rfl
theorem keys_it (m : List (Int × α)) : keysOf (itD f m) = (m.map (·.1)).map PyData.int := by
  unfold keysOf
  rw [asT_it]
  show (m.map fun e : Int × α => ((PyData.int e.1, f e.2) : D × D)).map (·.1) = _
  rw [List.map_map, List.map_map]
  rfl
theorem isN_it (m : List (Int × α)) : isN (itD f m) = false := by cases m <;> rfl
theorem isI_it (m : List (Int × α)) : isInsD (itD f m) = false := by cases m <;> rfl
theorem kids_it (m : List (Int × α)) : kids (itD f m) = m.map fun e => f e.2 := by
  cases m with
  | nil => rfl
  | cons e m =>
    show (((.int e.1, f e.2) : D × D) :: m.map fun e : Int × α => ((PyData.int e.1, f e.2) : D × D)).map (·.2) = _
    rw [List.map_cons, List.map_map]
    rfl
theorem flat_it (hf : ∀ x, unbox (f x) = none) (m : List (Int × α)) : flatT (itD f m) = true := by
  unfold flatT
  rw [kids_it, List.all_eq_true]
  intro d hd
  obtain ⟨e, _, rfl⟩ := List.mem_map.mp hd
  rw [hf]
  rfl
theorem strip_it (hf : ∀ x, DL.strip (f x) = f x) (m : List (Int × α)) : DL.strip (bx (itD f m)) = itD f m := by
  have key : ∀ m : List (Int × α), stripK (m.map fun e => ((.int e.1, f e.2) : D × D)) = m.map fun e => (.int e.1, f e.2) := by
    intro m
    induction m with
    | nil => rw [List.map_nil, stripK]
    | cons x m ih => rw [List.map_cons, stripK, ih, hf]
  unfold itD bx
  rw [DL.strip, key]
theorem iput_new {m : List (Int × α)} {k : Int} (v : α) (h : iget m k = none) : iput m k v = m ++ [(k, v)] := by
  unfold iput
  rw [if_neg]
  intro q
  obtain ⟨x, mx, z⟩ := List.any_eq_true.mp q
  unfold iget at h
  have := List.find?_eq_none.mp (Option.map_eq_none_iff.mp h) x mx
  exact this z
theorem iget_none {m : List (Int × α)} {k : Int} (h : k ∉ m.map (·.1)) : iget m k = none := by
  unfold iget
  rw [Option.map_eq_none_iff, List.find?_eq_none]
  intro x mx z
  exact h (List.mem_map.mpr ⟨x, mx, of_decide_eq_true z⟩)
end
/-! ### logs -/
abbrev E4 := Int × Int × Int × Int
def ent (e : E4) : D := .tuple [.int e.1, .int e.2.1, .int e.2.2.1, .int e.2.2.2]
def entE (x : Int × E4) : D := .tuple [.int x.1, .int x.2.1, .int x.2.2.1, .int x.2.2.2.1, .int x.2.2.2.2]
structure Lg where
  c : Int
  h : Int
  w : Int
  rows : List (Int × E4)
  after : Int
abbrev lgK (l : Lg) (d : D) : List (D × D) := [(.str "clock", .int l.c), (.str "high", .int l.h), (.str "wide", .int l.w), (.str "rows", d), (.str "after", .int l.after)]
abbrev lgT (l : Lg) : D := .dict ((.none, .str "Log") :: lgK l (bx (itD ent l.rows)))
abbrev lgV (l : Lg) : D := .dict ((.none, .str "Log") :: lgK l (itD ent l.rows))
theorem strip_i (i : Int) : DL.strip (.int i) = .int i := by
  rw [DL.strip]
  all_goals (intro ds h; simp at h)
theorem strip_ent (e : E4) : DL.strip (ent e) = ent e := by
  unfold ent
  rw [DL.strip]
  all_goals (intro ds h; simp at h)
theorem strip_lg (l : Lg) : DL.strip (bx (lgT l)) = lgV l := by
  unfold bx
  rw [DL.strip]
  simp only [stripK, strip_i]
  have := strip_it ent strip_ent l.rows
  rw [this]
  rw [DL.strip]
  all_goals (intro ds h; simp at h)
section
variable {l : Lg}
theorem lg_clock : fldD "Log" "clock" (lgV l) = some (.int l.c) := by kernel_rfl
theorem lg_high : fldD "Log" "high" (lgV l) = some (.int l.h) := by kernel_rfl
theorem lg_wide : fldD "Log" "wide" (lgV l) = some (.int l.w) := by kernel_rfl
theorem lg_rows : fldD "Log" "rows" (lgV l) = some (itD ent l.rows) := by kernel_rfl
theorem lg_after : fldD "Log" "after" (lgV l) = some (.int l.after) := by kernel_rfl
theorem lt_ii (i j : Int) : ltD (.int i) (.int j) = some (.bool (decide (i < j))) := rfl
theorem gt_ii (i j : Int) : gtD (.int i) (.int j) = some (.bool (decide (j < i))) := rfl
theorem ge_ii (i j : Int) : geD (.int i) (.int j) = some (.bool (decide (j ≤ i))) := rfl
theorem day_ok {d : Int} (h : 0 ≤ d ∧ d ≤ 999) : F_need_day [.int d] = .ok .none false .none := by
  simp only [F_need_day, f_need_day, runD, runO, out0, slots0, List.replicate, List.append_nil, List.cons_append, List.nil_append, List.length_cons, List.length_nil, retS, retC, retO, retN, seqS, ifS, asg, asgO, exprS, appS, setS, augS, asgT, asgL, raiseS, nxS, op1, op2, op2C, tst, andF, orF, ifF, andB, orB, notB, chF, cst, vr, frz, frC, lstC, tupF, consF, nilF, bltF, bltC, one_d, bind_ok, bind_er, bind_bad, then_ok, then_er, then_bad, opt_some, opt_none, Vl.get, Slot.get, Slot.put, Slot.cont, Slot.lst, Slot.mut, Slot.shal, stables, sh, gets, argD, argB, callF, callO, callC, callB, callW, pick, Pk.of, and_self, boxC, partF, slF, srcF, srcR1, srcR2, srcZ, forS, popF, noEr_ok, noEr_er, yes, List.getElem?_cons_zero, List.getElem?_cons_succ, List.set_cons_zero, List.set_cons_succ, Option.bind_some, Option.bind_none, Option.map_some, Option.map_none, if_true, if_false, Bool.false_eq_true, if_pos, List.map_cons, List.map_nil, add_int, sub_int, negD, notD, boolOf, isD, isntD, isNone, Tg.put, Tg.puts, sh0, sh1, sh2, sh3, sh4, sh5, sh6, sh7, sh8, sh9, sh10, sh11, sh12, sh13, sh14, sh15, sh16, step_nx, step_ct, ptN, isN, Nat.add_one_sub_one, Nat.sub_self, Nat.zero_add, Nat.reduceAdd, Nat.reduceSub, lt_ii, gt_ii, decide_eq_false (show ¬ d < 0 by omega), decide_eq_false (show ¬ 999 < d by omega)]
theorem one_ok {c o : Int} (h : -2 ≤ o ∧ o < c) : F_need_one [.int c, .int o] = .ok .none false .none := by
  simp only [F_need_one, f_need_one, runD, runO, out0, slots0, List.replicate, List.append_nil, List.cons_append, List.nil_append, List.length_cons, List.length_nil, retS, retC, retO, retN, seqS, ifS, asg, asgO, exprS, appS, setS, augS, asgT, asgL, raiseS, nxS, op1, op2, op2C, tst, andF, orF, ifF, andB, orB, notB, chF, cst, vr, frz, frC, lstC, tupF, consF, nilF, bltF, bltC, one_d, bind_ok, bind_er, bind_bad, then_ok, then_er, then_bad, opt_some, opt_none, Vl.get, Slot.get, Slot.put, Slot.cont, Slot.lst, Slot.mut, Slot.shal, stables, sh, gets, argD, argB, callF, callO, callC, callB, callW, pick, Pk.of, and_self, boxC, partF, slF, srcF, srcR1, srcR2, srcZ, forS, popF, noEr_ok, noEr_er, yes, List.getElem?_cons_zero, List.getElem?_cons_succ, List.set_cons_zero, List.set_cons_succ, Option.bind_some, Option.bind_none, Option.map_some, Option.map_none, if_true, if_false, Bool.false_eq_true, if_pos, List.map_cons, List.map_nil, add_int, sub_int, negD, notD, boolOf, isD, isntD, isNone, Tg.put, Tg.puts, sh0, sh1, sh2, sh3, sh4, sh5, sh6, sh7, sh8, sh9, sh10, sh11, sh12, sh13, sh14, sh15, sh16, step_nx, step_ct, ptN, isN, Nat.add_one_sub_one, Nat.sub_self, Nat.zero_add, Nat.reduceAdd, Nat.reduceSub, lt_ii, ge_ii, decide_eq_false (show ¬ o < -2 by omega), decide_eq_false (show ¬ c ≤ o by omega)]
theorem side_ok {n : Int} (h : 1 ≤ n ∧ n ≤ 9) : F_need_side [.int n] = .ok .none false .none := by
  simp only [F_need_side, f_need_side, runD, runO, out0, slots0, List.replicate, List.append_nil, List.cons_append, List.nil_append, List.length_cons, List.length_nil, retS, retC, retO, retN, seqS, ifS, asg, asgO, exprS, appS, setS, augS, asgT, asgL, raiseS, nxS, op1, op2, op2C, tst, andF, orF, ifF, andB, orB, notB, chF, cst, vr, frz, frC, lstC, tupF, consF, nilF, bltF, bltC, one_d, bind_ok, bind_er, bind_bad, then_ok, then_er, then_bad, opt_some, opt_none, Vl.get, Slot.get, Slot.put, Slot.cont, Slot.lst, Slot.mut, Slot.shal, stables, sh, gets, argD, argB, callF, callO, callC, callB, callW, pick, Pk.of, and_self, boxC, partF, slF, srcF, srcR1, srcR2, srcZ, forS, popF, noEr_ok, noEr_er, yes, List.getElem?_cons_zero, List.getElem?_cons_succ, List.set_cons_zero, List.set_cons_succ, Option.bind_some, Option.bind_none, Option.map_some, Option.map_none, if_true, if_false, Bool.false_eq_true, if_pos, List.map_cons, List.map_nil, add_int, sub_int, negD, notD, boolOf, isD, isntD, isNone, Tg.put, Tg.puts, sh0, sh1, sh2, sh3, sh4, sh5, sh6, sh7, sh8, sh9, sh10, sh11, sh12, sh13, sh14, sh15, sh16, step_nx, step_ct, ptN, isN, Nat.add_one_sub_one, Nat.sub_self, Nat.zero_add, Nat.reduceAdd, Nat.reduceSub, lt_ii, gt_ii, decide_eq_false (show ¬ n < 1 by omega), decide_eq_false (show ¬ 9 < n by omega)]
def Lg.on (l : Lg) (r k : Int) : Prop := 0 ≤ r ∧ r < l.h ∧ 0 ≤ k ∧ k < l.w
theorem sq_ok {r k : Int} (h : l.on r k) : F_Log_M_need_square [lgV l, .int r, .int k] = .ok .none false .none := by
  obtain ⟨h1, h2, h3, h4⟩ := h
  have fh := lg_high (l := l)
  have fw := lg_wide (l := l)
  generalize lgV l = V at fh fw
  simp only [F_Log_M_need_square, f_Log_M_need_square, runD, runO, out0, slots0, List.replicate, List.append_nil, List.cons_append, List.nil_append, List.length_cons, List.length_nil, retS, retC, retO, retN, seqS, ifS, asg, asgO, exprS, appS, setS, augS, asgT, asgL, raiseS, nxS, op1, op2, op2C, tst, andF, orF, ifF, andB, orB, notB, chF, cst, vr, frz, frC, lstC, tupF, consF, nilF, bltF, bltC, one_d, bind_ok, bind_er, bind_bad, then_ok, then_er, then_bad, opt_some, opt_none, Vl.get, Slot.get, Slot.put, Slot.cont, Slot.lst, Slot.mut, Slot.shal, stables, sh, gets, argD, argB, callF, callO, callC, callB, callW, pick, Pk.of, and_self, boxC, partF, slF, srcF, srcR1, srcR2, srcZ, forS, popF, noEr_ok, noEr_er, yes, List.getElem?_cons_zero, List.getElem?_cons_succ, List.set_cons_zero, List.set_cons_succ, Option.bind_some, Option.bind_none, Option.map_some, Option.map_none, if_true, if_false, Bool.false_eq_true, if_pos, List.map_cons, List.map_nil, add_int, sub_int, negD, notD, boolOf, isD, isntD, isNone, Tg.put, Tg.puts, sh0, sh1, sh2, sh3, sh4, sh5, sh6, sh7, sh8, sh9, sh10, sh11, sh12, sh13, sh14, sh15, sh16, step_nx, step_ct, ptN, isN, Nat.add_one_sub_one, Nat.sub_self, Nat.zero_add, Nat.reduceAdd, Nat.reduceSub, fh, fw, lt_ii, ge_ii, decide_eq_false (show ¬ r < 0 by omega), decide_eq_false (show ¬ l.h ≤ r by omega), decide_eq_false (show ¬ k < 0 by omega), decide_eq_false (show ¬ l.w ≤ k by omega)]
abbrev adS (T : D) (r k o d : Int) : En := [.atr T, .val (.int r), .val (.int k), .val (.int o), .val (.int d)]
abbrev adL (V : D) (r k o d : Int) : En := [.val V, .val (.int r), .val (.int k), .val (.int o), .val (.int d)]
theorem lend_ad (r k o d : Int) : lend (adS (lgT l) r k o d) = adL (lgV l) r k o d := by
  show [lendS (.atr (lgT l)), _, _, _, _] = _
  rw [(lendT (strip_lg l)).1]
  rfl
def Lg.add (l : Lg) (e : E4) : Lg := ⟨l.c, l.h, l.w, iput l.rows l.after e, l.after + 1⟩
abbrev ad1 : EF := lendF (callM "Log" "need_square" [.p, .p] F_Log_M_need_square [] (vr 0) (consF (vr 1) (consF (vr 2) nilF)))
abbrev ad2 : EF := lendF (callF [.p, .p] F_need_one [] (consF (op1 (fldD "Log" "clock") (vr 0)) (consF (vr 3) nilF)))
abbrev ad3 : EF := callF [.p] F_need_day [] (consF (vr 4) nilF)
abbrev ad4 : BF := lendB (bF (op2 geD (bltF (one dsizeD) (consF (op1 (fldD "Log" "rows") (vr 0)) nilF)) (cst (.int (200)))))
theorem noAt {m : Str} (d : D) (h : lookI m [(.str "clock", .none), (.str "high", .none), (.str "wide", .none), (.str "rows", .none), (.str "after", .none)] = none) : lookI m (lgK l d) = none := by
  unfold lgK
  unfold lookI at h ⊢
  split at h
  · cases h
  · rename_i h1
    rw [if_neg h1]
    unfold lookI at h ⊢
    split at h
    · cases h
    · rename_i h1
      rw [if_neg h1]
      unfold lookI at h ⊢
      split at h
      · cases h
      · rename_i h1
        rw [if_neg h1]
        unfold lookI at h ⊢
        split at h
        · cases h
        · rename_i h1
          rw [if_neg h1]
          unfold lookI at h ⊢
          split at h
          · cases h
          · rename_i h1
            rw [if_neg h1]
            exact h
theorem ad1_ok {r k : Int} (o d : Int) (h : l.on r k) : exprS ad1 (adS (lgT l) r k o d) = .nx (adS (lgT l) r k o d) := by
  refine exprS_ok (lendF_ok (d := .none) (ρ1 := adL (lgV l) r k o d) ?_ rfl)
  rw [lend_ad]
  exact callM_ok (ρ0 := adL (lgV l) r k o d) (xs := [.st (.int r), .st (.int k)]) (ds := [.int r, .int k]) rfl (noAt _ (by decide +kernel)) rfl rfl (sq_ok h)
theorem ad2_ok {o : Int} (r k d : Int) (h : -2 ≤ o ∧ o < l.c) : exprS ad2 (adS (lgT l) r k o d) = .nx (adS (lgT l) r k o d) := by
  refine exprS_ok (lendF_ok (d := .none) (ρ1 := adL (lgV l) r k o d) ?_ rfl)
  rw [lend_ad]
  have fc := lg_clock (l := l)
  have e := one_ok h
  generalize lgV l = V at fc
  simp only [adL, runD, runO, out0, slots0, List.replicate, List.append_nil, List.cons_append, List.nil_append, List.length_cons, List.length_nil, retS, retC, retO, retN, seqS, ifS, asg, asgO, exprS, appS, setS, augS, asgT, asgL, raiseS, nxS, op1, op2, op2C, tst, andF, orF, ifF, andB, orB, notB, chF, cst, vr, frz, frC, lstC, tupF, consF, nilF, bltF, bltC, one_d, bind_ok, bind_er, bind_bad, then_ok, then_er, then_bad, opt_some, opt_none, Vl.get, Slot.get, Slot.put, Slot.cont, Slot.lst, Slot.mut, Slot.shal, stables, sh, gets, argD, argB, callF, callO, callC, callB, callW, pick, Pk.of, and_self, boxC, partF, slF, srcF, srcR1, srcR2, srcZ, forS, popF, noEr_ok, noEr_er, yes, List.getElem?_cons_zero, List.getElem?_cons_succ, List.set_cons_zero, List.set_cons_succ, Option.bind_some, Option.bind_none, Option.map_some, Option.map_none, if_true, if_false, Bool.false_eq_true, if_pos, List.map_cons, List.map_nil, add_int, sub_int, negD, notD, boolOf, isD, isntD, isNone, Tg.put, Tg.puts, sh0, sh1, sh2, sh3, sh4, sh5, sh6, sh7, sh8, sh9, sh10, sh11, sh12, sh13, sh14, sh15, sh16, step_nx, step_ct, ptN, isN, Nat.add_one_sub_one, Nat.sub_self, Nat.zero_add, Nat.reduceAdd, Nat.reduceSub, fc, e]
theorem ad3_ok {d : Int} (T : D) (r k o : Int) (h : 0 ≤ d ∧ d ≤ 999) : exprS ad3 (adS T r k o d) = .nx (adS T r k o d) := by
  have e := day_ok h
  simp only [adS, runD, runO, out0, slots0, List.replicate, List.append_nil, List.cons_append, List.nil_append, List.length_cons, List.length_nil, retS, retC, retO, retN, seqS, ifS, asg, asgO, exprS, appS, setS, augS, asgT, asgL, raiseS, nxS, op1, op2, op2C, tst, andF, orF, ifF, andB, orB, notB, chF, cst, vr, frz, frC, lstC, tupF, consF, nilF, bltF, bltC, one_d, bind_ok, bind_er, bind_bad, then_ok, then_er, then_bad, opt_some, opt_none, Vl.get, Slot.get, Slot.put, Slot.cont, Slot.lst, Slot.mut, Slot.shal, stables, sh, gets, argD, argB, callF, callO, callC, callB, callW, pick, Pk.of, and_self, boxC, partF, slF, srcF, srcR1, srcR2, srcZ, forS, popF, noEr_ok, noEr_er, yes, List.getElem?_cons_zero, List.getElem?_cons_succ, List.set_cons_zero, List.set_cons_succ, Option.bind_some, Option.bind_none, Option.map_some, Option.map_none, if_true, if_false, Bool.false_eq_true, if_pos, List.map_cons, List.map_nil, add_int, sub_int, negD, notD, boolOf, isD, isntD, isNone, Tg.put, Tg.puts, sh0, sh1, sh2, sh3, sh4, sh5, sh6, sh7, sh8, sh9, sh10, sh11, sh12, sh13, sh14, sh15, sh16, step_nx, step_ct, ptN, isN, Nat.add_one_sub_one, Nat.sub_self, Nat.zero_add, Nat.reduceAdd, Nat.reduceSub, e]
theorem ad4_eq (r k o d : Int) : ad4 (adS (lgT l) r k o d) = .ok (decide (200 ≤ (l.rows.length : Int))) (adS (lgT l) r k o d) := by
  refine lendB_ok (ρ1 := adL (lgV l) r k o d) ?_
  rw [lend_ad]
  have fr := lg_rows (l := l)
  have sz := size_it ent l.rows
  generalize lgV l = V at fr
  generalize itD ent l.rows = M at fr sz
  simp only [adL, runD, runO, out0, slots0, List.replicate, List.append_nil, List.cons_append, List.nil_append, List.length_cons, List.length_nil, retS, retC, retO, retN, seqS, ifS, asg, asgO, exprS, appS, setS, augS, asgT, asgL, raiseS, nxS, op1, op2, op2C, tst, andF, orF, ifF, andB, orB, notB, chF, cst, vr, frz, frC, lstC, tupF, consF, nilF, bltF, bltC, one_d, bind_ok, bind_er, bind_bad, then_ok, then_er, then_bad, opt_some, opt_none, Vl.get, Slot.get, Slot.put, Slot.cont, Slot.lst, Slot.mut, Slot.shal, stables, sh, gets, argD, argB, callF, callO, callC, callB, callW, pick, Pk.of, and_self, boxC, partF, slF, srcF, srcR1, srcR2, srcZ, forS, popF, noEr_ok, noEr_er, yes, List.getElem?_cons_zero, List.getElem?_cons_succ, List.set_cons_zero, List.set_cons_succ, Option.bind_some, Option.bind_none, Option.map_some, Option.map_none, if_true, if_false, Bool.false_eq_true, if_pos, List.map_cons, List.map_nil, add_int, sub_int, negD, notD, boolOf, isD, isntD, isNone, Tg.put, Tg.puts, sh0, sh1, sh2, sh3, sh4, sh5, sh6, sh7, sh8, sh9, sh10, sh11, sh12, sh13, sh14, sh15, sh16, step_nx, step_ct, ptN, isN, Nat.add_one_sub_one, Nat.sub_self, Nat.zero_add, Nat.reduceAdd, Nat.reduceSub, fr, sz, ge_ii]
theorem flat_ent (m : List (Int × E4)) : flatT (itD ent m) = true := flat_it ent (fun _ => rfl) m
theorem ad5_eq (r k o d : Int) (hl : l.rows.length < 1000) : dputR 0 (fldR 0 "Log" "rows" (fun _ => some [])) (op1 (fldD "Log" "after") (vr 0)) (tupF (consF (vr 4) (consF (vr 1) (consF (vr 2) (consF (vr 3) nilF))))) (adS (lgT l) r k o d) = .nx (adS (lgT ⟨l.c, l.h, l.w, iput l.rows l.after (d, r, k, o), l.after⟩) r k o d) := by
  have fa := lg_after (l := l)
  refine (dputR_ok (v := ent (d, r, k, o)) (k := .int l.after) (c := itD ent l.rows) (c' := itD ent (iput l.rows l.after (d, r, k, o))) (path := [3]) (d := lgT l) (s := .atr (lgT l)) (ρ1 := adS (lgT l) r k o d) (ρ2 := adL (lgV l) r k o d) ?_ rfl (by kernel_rfl) rfl rfl (flat_ent _) (isI_it _ _) ?_ (put_it ent (by omega)) rfl (isN_it _ _)).trans rfl
  · generalize lgT l = T
    simp only [adS, runD, runO, out0, slots0, List.replicate, List.append_nil, List.cons_append, List.nil_append, List.length_cons, List.length_nil, retS, retC, retO, retN, seqS, ifS, asg, asgO, exprS, appS, setS, augS, asgT, asgL, raiseS, nxS, op1, op2, op2C, tst, andF, orF, ifF, andB, orB, notB, chF, cst, vr, frz, frC, lstC, tupF, consF, nilF, bltF, bltC, one_d, bind_ok, bind_er, bind_bad, then_ok, then_er, then_bad, opt_some, opt_none, Vl.get, Slot.get, Slot.put, Slot.cont, Slot.lst, Slot.mut, Slot.shal, stables, sh, gets, argD, argB, callF, callO, callC, callB, callW, pick, Pk.of, and_self, boxC, partF, slF, srcF, srcR1, srcR2, srcZ, forS, popF, noEr_ok, noEr_er, yes, List.getElem?_cons_zero, List.getElem?_cons_succ, List.set_cons_zero, List.set_cons_succ, Option.bind_some, Option.bind_none, Option.map_some, Option.map_none, if_true, if_false, Bool.false_eq_true, if_pos, List.map_cons, List.map_nil, add_int, sub_int, negD, notD, boolOf, isD, isntD, isNone, Tg.put, Tg.puts, sh0, sh1, sh2, sh3, sh4, sh5, sh6, sh7, sh8, sh9, sh10, sh11, sh12, sh13, sh14, sh15, sh16, step_nx, step_ct, ptN, isN, Nat.add_one_sub_one, Nat.sub_self, Nat.zero_add, Nat.reduceAdd, Nat.reduceSub, ent]
  · rw [lend_ad]
    generalize lgV l = V at fa
    simp only [adL, runD, runO, out0, slots0, List.replicate, List.append_nil, List.cons_append, List.nil_append, List.length_cons, List.length_nil, retS, retC, retO, retN, seqS, ifS, asg, asgO, exprS, appS, setS, augS, asgT, asgL, raiseS, nxS, op1, op2, op2C, tst, andF, orF, ifF, andB, orB, notB, chF, cst, vr, frz, frC, lstC, tupF, consF, nilF, bltF, bltC, one_d, bind_ok, bind_er, bind_bad, then_ok, then_er, then_bad, opt_some, opt_none, Vl.get, Slot.get, Slot.put, Slot.cont, Slot.lst, Slot.mut, Slot.shal, stables, sh, gets, argD, argB, callF, callO, callC, callB, callW, pick, Pk.of, and_self, boxC, partF, slF, srcF, srcR1, srcR2, srcZ, forS, popF, noEr_ok, noEr_er, yes, List.getElem?_cons_zero, List.getElem?_cons_succ, List.set_cons_zero, List.set_cons_succ, Option.bind_some, Option.bind_none, Option.map_some, Option.map_none, if_true, if_false, Bool.false_eq_true, if_pos, List.map_cons, List.map_nil, add_int, sub_int, negD, notD, boolOf, isD, isntD, isNone, Tg.put, Tg.puts, sh0, sh1, sh2, sh3, sh4, sh5, sh6, sh7, sh8, sh9, sh10, sh11, sh12, sh13, sh14, sh15, sh16, step_nx, step_ct, ptN, isN, Nat.add_one_sub_one, Nat.sub_self, Nat.zero_add, Nat.reduceAdd, Nat.reduceSub, fa]
theorem ad6_eq (r k o d : Int) : fldA 0 "Log" "after" (fun _ => some []) 1 (adS (lgT l) r k o d) = .nx (adS (lgT ⟨l.c, l.h, l.w, l.rows, l.after + 1⟩) r k o d) := by kernel_rfl
theorem ad7_eq (r k o d : Int) : retS (lendF (op2 subD (op1 (fldD "Log" "after") (vr 0)) (cst (.int 1)))) (adS (lgT l) r k o d) = .rt (.int (l.after - 1)) false (adS (lgT l) r k o d) := by
  have fa := lg_after (l := l)
  have e : lendF (op2 subD (op1 (fldD "Log" "after") (vr 0)) (cst (.int 1))) (adS (lgT l) r k o d) = .ok (.st (.int (l.after - 1))) (adS (lgT l) r k o d) := by
    refine lendF_ok (ρ1 := adL (lgV l) r k o d) ?_ rfl
    rw [lend_ad]
    generalize lgV l = V at fa
    simp only [adL, runD, runO, out0, slots0, List.replicate, List.append_nil, List.cons_append, List.nil_append, List.length_cons, List.length_nil, retS, retC, retO, retN, seqS, ifS, asg, asgO, exprS, appS, setS, augS, asgT, asgL, raiseS, nxS, op1, op2, op2C, tst, andF, orF, ifF, andB, orB, notB, chF, cst, vr, frz, frC, lstC, tupF, consF, nilF, bltF, bltC, one_d, bind_ok, bind_er, bind_bad, then_ok, then_er, then_bad, opt_some, opt_none, Vl.get, Slot.get, Slot.put, Slot.cont, Slot.lst, Slot.mut, Slot.shal, stables, sh, gets, argD, argB, callF, callO, callC, callB, callW, pick, Pk.of, and_self, boxC, partF, slF, srcF, srcR1, srcR2, srcZ, forS, popF, noEr_ok, noEr_er, yes, List.getElem?_cons_zero, List.getElem?_cons_succ, List.set_cons_zero, List.set_cons_succ, Option.bind_some, Option.bind_none, Option.map_some, Option.map_none, if_true, if_false, Bool.false_eq_true, if_pos, List.map_cons, List.map_nil, add_int, sub_int, negD, notD, boolOf, isD, isntD, isNone, Tg.put, Tg.puts, sh0, sh1, sh2, sh3, sh4, sh5, sh6, sh7, sh8, sh9, sh10, sh11, sh12, sh13, sh14, sh15, sh16, step_nx, step_ct, ptN, isN, Nat.add_one_sub_one, Nat.sub_self, Nat.zero_add, Nat.reduceAdd, Nat.reduceSub, fa]
  unfold retS
  rw [e, then_ok]
theorem add_start (r k o d : Int) : (.atr (lgT l) :: slots0 [.p, .p, .p, .p] [.int r, .int k, .int o, .int d] ++ List.replicate (5 - (([.p, .p, .p, .p] : List Md).length + 1)) .un : En) = adS (lgT l) r k o d := rfl
theorem add_ok {r k o d : Int} (h1 : l.on r k) (h2 : -2 ≤ o ∧ o < l.c) (h3 : 0 ≤ d ∧ d ≤ 999) (h4 : l.rows.length < 200) : F_Log_M_add (lgT l) [.int r, .int k, .int o, .int d] = .ok (.int l.after) false (lgT (l.add (d, r, k, o))) := by
  have e4 : ifS ad4 (raiseS ⟨"Full", []⟩) nxS (adS (lgT l) r k o d) = .nx (adS (lgT l) r k o d) := by
    rw [if_t (ad4_eq r k o d), if_neg (by rw [decide_eq_false (by omega)]; decide)]
    rfl
  have e : f_Log_M_add (adS (lgT l) r k o d) = .rt (.int (l.after + 1 - 1)) false (adS (lgT (l.add (d, r, k, o))) r k o d) := by
    unfold f_Log_M_add
    rw [seq_nx (ad1_ok o d h1), seq_nx (ad2_ok r k d h2), seq_nx (ad3_ok _ r k o h3), seq_nx e4, seq_nx (ad5_eq r k o d (by omega)), seq_nx (ad6_eq r k o d), ad7_eq]
    rfl
  unfold F_Log_M_add runT
  rw [add_start, e, Int.add_sub_cancel]
  rfl
abbrev inS (T : D) (c h w : Int) : En := [.atr T, .val (.int c), .val (.int h), .val (.int w)]
theorem nclock_ok {c : Int} (h : isClk c = true) : F_need_clock [.int c] = .ok .none false .none := by
  simp only [F_need_clock, f_need_clock, runD, runO, out0, slots0, List.replicate, List.append_nil, List.cons_append, List.nil_append, List.length_cons, List.length_nil, retS, retC, retO, retN, seqS, ifS, asg, asgO, exprS, appS, setS, augS, asgT, asgL, raiseS, nxS, op1, op2, op2C, tst, andF, orF, ifF, andB, orB, notB, chF, cst, vr, frz, frC, lstC, tupF, consF, nilF, bltF, bltC, one_d, bind_ok, bind_er, bind_bad, then_ok, then_er, then_bad, opt_some, opt_none, Vl.get, Slot.get, Slot.put, Slot.cont, Slot.lst, Slot.mut, Slot.shal, stables, sh, gets, argD, argB, callF, callO, callC, callB, callW, pick, Pk.of, and_self, boxC, partF, slF, srcF, srcR1, srcR2, srcZ, forS, popF, noEr_ok, noEr_er, yes, List.getElem?_cons_zero, List.getElem?_cons_succ, List.set_cons_zero, List.set_cons_succ, Option.bind_some, Option.bind_none, Option.map_some, Option.map_none, if_true, if_false, Bool.false_eq_true, if_pos, List.map_cons, List.map_nil, add_int, sub_int, negD, notD, boolOf, isD, isntD, isNone, Tg.put, Tg.puts, sh0, sh1, sh2, sh3, sh4, sh5, sh6, sh7, sh8, sh9, sh10, sh11, sh12, sh13, sh14, sh15, sh16, step_nx, step_ct, ptN, isN, Nat.add_one_sub_one, Nat.sub_self, Nat.zero_add, Nat.reduceAdd, Nat.reduceSub, is_clock_eq, h, Bool.not_true]
theorem init_start (T : D) (c h w : Int) : (.atr T :: slots0 [.p, .p, .p] [.int c, .int h, .int w] ++ List.replicate (4 - (([.p, .p, .p] : List Md).length + 1)) .un : En) = inS T c h w := rfl
theorem in1_ok {c : Int} (T : D) (h w : Int) (h1 : isClk c = true) : exprS (callF [.p] F_need_clock [] (consF (vr 1) nilF)) (inS T c h w) = .nx (inS T c h w) := by
  have e := nclock_ok h1
  simp only [inS, runD, runO, out0, slots0, List.replicate, List.append_nil, List.cons_append, List.nil_append, List.length_cons, List.length_nil, retS, retC, retO, retN, seqS, ifS, asg, asgO, exprS, appS, setS, augS, asgT, asgL, raiseS, nxS, op1, op2, op2C, tst, andF, orF, ifF, andB, orB, notB, chF, cst, vr, frz, frC, lstC, tupF, consF, nilF, bltF, bltC, one_d, bind_ok, bind_er, bind_bad, then_ok, then_er, then_bad, opt_some, opt_none, Vl.get, Slot.get, Slot.put, Slot.cont, Slot.lst, Slot.mut, Slot.shal, stables, sh, gets, argD, argB, callF, callO, callC, callB, callW, pick, Pk.of, and_self, boxC, partF, slF, srcF, srcR1, srcR2, srcZ, forS, popF, noEr_ok, noEr_er, yes, List.getElem?_cons_zero, List.getElem?_cons_succ, List.set_cons_zero, List.set_cons_succ, Option.bind_some, Option.bind_none, Option.map_some, Option.map_none, if_true, if_false, Bool.false_eq_true, if_pos, List.map_cons, List.map_nil, add_int, sub_int, negD, notD, boolOf, isD, isntD, isNone, Tg.put, Tg.puts, sh0, sh1, sh2, sh3, sh4, sh5, sh6, sh7, sh8, sh9, sh10, sh11, sh12, sh13, sh14, sh15, sh16, step_nx, step_ct, ptN, isN, Nat.add_one_sub_one, Nat.sub_self, Nat.zero_add, Nat.reduceAdd, Nat.reduceSub, e]
theorem in2_ok {h : Int} (T : D) (c w : Int) (h1 : 1 ≤ h ∧ h ≤ 9) : exprS (callF [.p] F_need_side [] (consF (vr 2) nilF)) (inS T c h w) = .nx (inS T c h w) := by
  have e := side_ok h1
  simp only [inS, runD, runO, out0, slots0, List.replicate, List.append_nil, List.cons_append, List.nil_append, List.length_cons, List.length_nil, retS, retC, retO, retN, seqS, ifS, asg, asgO, exprS, appS, setS, augS, asgT, asgL, raiseS, nxS, op1, op2, op2C, tst, andF, orF, ifF, andB, orB, notB, chF, cst, vr, frz, frC, lstC, tupF, consF, nilF, bltF, bltC, one_d, bind_ok, bind_er, bind_bad, then_ok, then_er, then_bad, opt_some, opt_none, Vl.get, Slot.get, Slot.put, Slot.cont, Slot.lst, Slot.mut, Slot.shal, stables, sh, gets, argD, argB, callF, callO, callC, callB, callW, pick, Pk.of, and_self, boxC, partF, slF, srcF, srcR1, srcR2, srcZ, forS, popF, noEr_ok, noEr_er, yes, List.getElem?_cons_zero, List.getElem?_cons_succ, List.set_cons_zero, List.set_cons_succ, Option.bind_some, Option.bind_none, Option.map_some, Option.map_none, if_true, if_false, Bool.false_eq_true, if_pos, List.map_cons, List.map_nil, add_int, sub_int, negD, notD, boolOf, isD, isntD, isNone, Tg.put, Tg.puts, sh0, sh1, sh2, sh3, sh4, sh5, sh6, sh7, sh8, sh9, sh10, sh11, sh12, sh13, sh14, sh15, sh16, step_nx, step_ct, ptN, isN, Nat.add_one_sub_one, Nat.sub_self, Nat.zero_add, Nat.reduceAdd, Nat.reduceSub, e]
theorem in3_ok {w : Int} (T : D) (c h : Int) (h1 : 1 ≤ w ∧ w ≤ 9) : exprS (callF [.p] F_need_side [] (consF (vr 3) nilF)) (inS T c h w) = .nx (inS T c h w) := by
  have e := side_ok h1
  simp only [inS, runD, runO, out0, slots0, List.replicate, List.append_nil, List.cons_append, List.nil_append, List.length_cons, List.length_nil, retS, retC, retO, retN, seqS, ifS, asg, asgO, exprS, appS, setS, augS, asgT, asgL, raiseS, nxS, op1, op2, op2C, tst, andF, orF, ifF, andB, orB, notB, chF, cst, vr, frz, frC, lstC, tupF, consF, nilF, bltF, bltC, one_d, bind_ok, bind_er, bind_bad, then_ok, then_er, then_bad, opt_some, opt_none, Vl.get, Slot.get, Slot.put, Slot.cont, Slot.lst, Slot.mut, Slot.shal, stables, sh, gets, argD, argB, callF, callO, callC, callB, callW, pick, Pk.of, and_self, boxC, partF, slF, srcF, srcR1, srcR2, srcZ, forS, popF, noEr_ok, noEr_er, yes, List.getElem?_cons_zero, List.getElem?_cons_succ, List.set_cons_zero, List.set_cons_succ, Option.bind_some, Option.bind_none, Option.map_some, Option.map_none, if_true, if_false, Bool.false_eq_true, if_pos, List.map_cons, List.map_nil, add_int, sub_int, negD, notD, boolOf, isD, isntD, isNone, Tg.put, Tg.puts, sh0, sh1, sh2, sh3, sh4, sh5, sh6, sh7, sh8, sh9, sh10, sh11, sh12, sh13, sh14, sh15, sh16, step_nx, step_ct, ptN, isN, Nat.add_one_sub_one, Nat.sub_self, Nat.zero_add, Nat.reduceAdd, Nat.reduceSub, e]
theorem init_ok {c h w : Int} (h1 : isClk c = true) (h2 : 1 ≤ h ∧ h ≤ 9) (h3 : 1 ≤ w ∧ w ≤ 9) : F_Log_M_init (.dict [(.none, .str "Log")]) [.int c, .int h, .int w] = .ok .none false (lgT ⟨c, h, w, [], 1⟩) := by
  have s4 : fldS 0 "Log" "clock" (fun _ => some []) (vr 1) (inS (.dict [(.none, .str "Log")]) c h w) = .nx (inS (.dict [(.none, .str "Log"), (.str "clock", .int c)]) c h w) := by kernel_rfl
  have s5 : fldS 0 "Log" "high" (fun _ => some []) (vr 2) (inS (.dict [(.none, .str "Log"), (.str "clock", .int c)]) c h w) = .nx (inS (.dict [(.none, .str "Log"), (.str "clock", .int c), (.str "high", .int h)]) c h w) := by kernel_rfl
  have s6 : fldS 0 "Log" "wide" (fun _ => some []) (vr 3) (inS (.dict [(.none, .str "Log"), (.str "clock", .int c), (.str "high", .int h)]) c h w) = .nx (inS (.dict [(.none, .str "Log"), (.str "clock", .int c), (.str "high", .int h), (.str "wide", .int w)]) c h w) := by kernel_rfl
  have s7 : fldT 0 "Log" "rows" (fun _ => some []) (ptN dnewC) (inS (.dict [(.none, .str "Log"), (.str "clock", .int c), (.str "high", .int h), (.str "wide", .int w)]) c h w) = .nx (inS (.dict [(.none, .str "Log"), (.str "clock", .int c), (.str "high", .int h), (.str "wide", .int w), (.str "rows", bx (itD ent []))]) c h w) := by kernel_rfl
  have s8 : fldS 0 "Log" "after" (fun _ => some []) (cst (.int 1)) (inS (.dict [(.none, .str "Log"), (.str "clock", .int c), (.str "high", .int h), (.str "wide", .int w), (.str "rows", bx (itD ent []))]) c h w) = .nx (inS (lgT ⟨c, h, w, [], 1⟩) c h w) := by kernel_rfl
  have e : f_Log_M_init (inS (.dict [(.none, .str "Log")]) c h w) = .nx (inS (lgT ⟨c, h, w, [], 1⟩) c h w) := by
    unfold f_Log_M_init
    rw [seq_nx (in1_ok _ h w h1), seq_nx (in2_ok _ c w h2), seq_nx (in3_ok _ c h h3), seq_nx s4, seq_nx s5, seq_nx s6, seq_nx s7, s8]
  unfold F_Log_M_init runT
  rw [init_start, e]
  rfl
theorem insB_perm {α : Type} (lt : α → α → Bool) (x : α) : ∀ l : List α, (insB lt x l).Perm (x :: l)
  | [] => .refl _
  | y :: ys => by
    unfold insB
    split
    · exact ((insB_perm lt x ys).cons y).trans (List.Perm.swap x y ys)
    · exact .refl _
theorem sortB_perm {α : Type} (lt : α → α → Bool) : ∀ l : List α, (sortB lt l).Perm l
  | [] => .refl _
  | x :: xs => by
    unfold sortB
    exact (insB_perm lt x _).trans ((sortB_perm lt xs).cons x)
/-- all entries by days, of one day by numbers -/
def Lg.ents (l : Lg) : List (Int × E4) := (sortB SrtO.lexB (l.rows.map fun x => ((x.2.1, x.1) : Sq))).map fun p => (p.2, (iget l.rows p.2).getD (0, 0, 0, 0))
theorem sort_sq (ps : List Sq) : sortAD (.list (ps.map sqD)) = some (.list ((sortB SrtO.lexB ps).map sqD)) := by
  cases ps with
  | nil => rfl
  | cons p ps =>
    have h := prL_sqs (p :: ps)
    have ni : intsOf ((p :: ps).map sqD) = none := rfl
    unfold sortAD
    dsimp only
    rw [ni]
    dsimp only
    rw [h]
    rfl
structure Lg.Ok (l : Lg) : Prop where
  nd : (l.rows.map (·.1)).Nodup
  len : l.rows.length ≤ 1000
theorem iget_of {α : Type} : ∀ {m : List (Int × α)} {x : Int × α}, (m.map (·.1)).Nodup → x ∈ m → iget m x.1 = some x.2
  | e :: m, x, nd, mx => by
    rw [List.map_cons, List.nodup_cons] at nd
    unfold iget
    rw [List.find?_cons]
    rcases List.mem_cons.mp mx with rfl | mx
    · rw [decide_eq_true rfl]; rfl
    · have ne : ¬ e.1 = x.1 := fun z => nd.1 (by rw [z]; exact List.mem_map.mpr ⟨x, mx, rfl⟩)
      rw [decide_eq_false ne]
      exact iget_of nd.2 mx
theorem entries_eq (ok : l.Ok) : F_Log_M_entries [lgV l] = .ok (.list (l.ents.map entE)) true .none := by
  have fr := lg_rows (l := l)
  have mem : ∀ p ∈ sortB SrtO.lexB (l.rows.map fun x => ((x.2.1, x.1) : Sq)), ∃ v, iget l.rows p.2 = some v := fun p mp => by
    have := (sortB_perm _ _).mem_iff.mp mp
    obtain ⟨x, mx, rfl⟩ := List.mem_map.mp this
    exact ⟨x.2, iget_of ok.nd mx⟩
  have len : (sortB SrtO.lexB (l.rows.map fun x => ((x.2.1, x.1) : Sq))).length = l.rows.length := by rw [(sortB_perm _ _).length_eq, List.length_map]
  have c1 : C_Log_M_entries_1 [.val (lgV l), .un, .un, .un] = .ok (.list ((l.rows.map fun x => ((x.2.1, x.1) : Sq)).map sqD)) [.val (lgV l), .un, .un, .un] := by
    rw [List.map_map]
    refine X_run (ρ := [.val (lgV l), .un, .un, .un]) (t := .nm 2) (vs := [2]) [.val (lgV l), .un, .un, .un] (l.rows.map fun e : Int × E4 => ((PyData.int e.1, ent e.2) : D × D)) (fun x : Int × E4 => PyData.int x.1) _ l.rows fr (isN_it ent _) (isI_it ent _) ?_ rfl (fun x mx => ⟨[.val (lgV l), .un, .val (.int x.1), .un], rfl, [.val (lgV l), .un, .val (.int x.1), .un], ?_, rfl⟩) (by have := ok.len; omega) (fun x _ => rfl)
    · have := keys_it ent l.rows
      rw [List.map_map] at this
      exact this
    · have g := get_it ent (iget_of ok.nd mx)
      have i0 : ixD (ent x.2) (.int 0) = some (.int x.2.1) := rfl
      generalize lgV l = V at fr
      generalize itD ent l.rows = M at fr g
      show E_Log_M_entries_1 _ = .ok (.st (.tuple [.int x.2.1, .int x.1])) _
      generalize ent x.2 = e at g i0
      simp only [E_Log_M_entries_1, runD, runO, out0, slots0, List.replicate, List.append_nil, List.cons_append, List.nil_append, List.length_cons, List.length_nil, retS, retC, retO, retN, seqS, ifS, asg, asgO, exprS, appS, setS, augS, asgT, asgL, raiseS, nxS, op1, op2, op2C, tst, andF, orF, ifF, andB, orB, notB, chF, cst, vr, frz, frC, lstC, tupF, consF, nilF, bltF, bltC, one_d, bind_ok, bind_er, bind_bad, then_ok, then_er, then_bad, opt_some, opt_none, Vl.get, Slot.get, Slot.put, Slot.cont, Slot.lst, Slot.mut, Slot.shal, stables, sh, gets, argD, argB, callF, callO, callC, callB, callW, pick, Pk.of, and_self, boxC, partF, slF, srcF, srcR1, srcR2, srcZ, forS, popF, noEr_ok, noEr_er, yes, List.getElem?_cons_zero, List.getElem?_cons_succ, List.set_cons_zero, List.set_cons_succ, Option.bind_some, Option.bind_none, Option.map_some, Option.map_none, if_true, if_false, Bool.false_eq_true, if_pos, List.map_cons, List.map_nil, add_int, sub_int, negD, notD, boolOf, isD, isntD, isNone, Tg.put, Tg.puts, sh0, sh1, sh2, sh3, sh4, sh5, sh6, sh7, sh8, sh9, sh10, sh11, sh12, sh13, sh14, sh15, sh16, step_nx, step_ct, ptN, isN, Nat.add_one_sub_one, Nat.sub_self, Nat.zero_add, Nat.reduceAdd, Nat.reduceSub, fr, g, i0]
  have so := sort_sq (l.rows.map fun x => ((x.2.1, x.1) : Sq))
  have c2 : ∀ L, L = PyData.list ((sortB SrtO.lexB (l.rows.map fun x => ((x.2.1, x.1) : Sq))).map sqD) → C_Log_M_entries_2 [.val (lgV l), .val L, .un, .un] = .ok (.list (l.ents.map entE)) [.val (lgV l), .val L, .un, .un] := by
    rintro L rfl
    unfold Lg.ents
    rw [List.map_map]
    refine C_run (ρ := [.val (lgV l), .val (.list ((sortB SrtO.lexB (l.rows.map fun x => ((x.2.1, x.1) : Sq))).map sqD)), .un, .un]) (t := .tp [.nm 3, .nm 2]) (vs := [3, 2]) _ sqD _ (sortB SrtO.lexB (l.rows.map fun x => ((x.2.1, x.1) : Sq))) (srcF_list rfl) rfl (fun p mp => ⟨[.val (lgV l), .val (.list ((sortB SrtO.lexB (l.rows.map fun x => ((x.2.1, x.1) : Sq))).map sqD)), .val (.int p.2), .val (.int p.1)], rfl, [.val (lgV l), .val (.list ((sortB SrtO.lexB (l.rows.map fun x => ((x.2.1, x.1) : Sq))).map sqD)), .val (.int p.2), .val (.int p.1)], ?_, rfl⟩) (by rw [len]; have := ok.len; omega)
    obtain ⟨v, hv⟩ := mem p mp
    have g := get_it ent hv
    have ad : addD (.tuple [.int p.2]) (ent v) = some (entE (p.2, v)) := rfl
    show E_Log_M_entries_2 _ = .ok (.st (entE (p.2, (iget l.rows p.2).getD (0, 0, 0, 0)))) _
    rw [hv, Option.getD_some]
    generalize PyData.list ((sortB SrtO.lexB (l.rows.map fun x => ((x.2.1, x.1) : Sq))).map sqD) = L
    generalize lgV l = V at fr
    generalize itD ent l.rows = M at fr g
    generalize entE (p.2, v) = e at ad
    generalize ent v = e4 at g ad
    simp only [E_Log_M_entries_2, runD, runO, out0, slots0, List.replicate, List.append_nil, List.cons_append, List.nil_append, List.length_cons, List.length_nil, retS, retC, retO, retN, seqS, ifS, asg, asgO, exprS, appS, setS, augS, asgT, asgL, raiseS, nxS, op1, op2, op2C, tst, andF, orF, ifF, andB, orB, notB, chF, cst, vr, frz, frC, lstC, tupF, consF, nilF, bltF, bltC, one_d, bind_ok, bind_er, bind_bad, then_ok, then_er, then_bad, opt_some, opt_none, Vl.get, Slot.get, Slot.put, Slot.cont, Slot.lst, Slot.mut, Slot.shal, stables, sh, gets, argD, argB, callF, callO, callC, callB, callW, pick, Pk.of, and_self, boxC, partF, slF, srcF, srcR1, srcR2, srcZ, forS, popF, noEr_ok, noEr_er, yes, List.getElem?_cons_zero, List.getElem?_cons_succ, List.set_cons_zero, List.set_cons_succ, Option.bind_some, Option.bind_none, Option.map_some, Option.map_none, if_true, if_false, Bool.false_eq_true, if_pos, List.map_cons, List.map_nil, add_int, sub_int, negD, notD, boolOf, isD, isntD, isNone, Tg.put, Tg.puts, sh0, sh1, sh2, sh3, sh4, sh5, sh6, sh7, sh8, sh9, sh10, sh11, sh12, sh13, sh14, sh15, sh16, step_nx, step_ct, ptN, isN, Nat.add_one_sub_one, Nat.sub_self, Nat.zero_add, Nat.reduceAdd, Nat.reduceSub, fr, g, ad]
  have c2 := c2 _ rfl
  generalize PyData.list ((l.rows.map fun x => ((x.2.1, x.1) : Sq)).map sqD) = Y at c1 so
  generalize PyData.list ((sortB SrtO.lexB (l.rows.map fun x => ((x.2.1, x.1) : Sq))).map sqD) = Z at c2 so
  generalize PyData.list (l.ents.map entE) = R at c2
  generalize lgV l = V at c1 c2
  simp only [F_Log_M_entries, f_Log_M_entries, runD, runO, out0, slots0, List.replicate, List.append_nil, List.cons_append, List.nil_append, List.length_cons, List.length_nil, retS, retC, retO, retN, seqS, ifS, asg, asgO, exprS, appS, setS, augS, asgT, asgL, raiseS, nxS, op1, op2, op2C, tst, andF, orF, ifF, andB, orB, notB, chF, cst, vr, frz, frC, lstC, tupF, consF, nilF, bltF, bltC, one_d, bind_ok, bind_er, bind_bad, then_ok, then_er, then_bad, opt_some, opt_none, Vl.get, Slot.get, Slot.put, Slot.cont, Slot.lst, Slot.mut, Slot.shal, stables, sh, gets, argD, argB, callF, callO, callC, callB, callW, pick, Pk.of, and_self, boxC, partF, slF, srcF, srcR1, srcR2, srcZ, forS, popF, noEr_ok, noEr_er, yes, List.getElem?_cons_zero, List.getElem?_cons_succ, List.set_cons_zero, List.set_cons_succ, Option.bind_some, Option.bind_none, Option.map_some, Option.map_none, if_true, if_false, Bool.false_eq_true, if_pos, List.map_cons, List.map_nil, add_int, sub_int, negD, notD, boolOf, isD, isntD, isNone, Tg.put, Tg.puts, sh0, sh1, sh2, sh3, sh4, sh5, sh6, sh7, sh8, sh9, sh10, sh11, sh12, sh13, sh14, sh15, sh16, step_nx, step_ct, ptN, isN, Nat.add_one_sub_one, Nat.sub_self, Nat.zero_add, Nat.reduceAdd, Nat.reduceSub, c1, so, c2]
end
/-! ### a log's chart -/
def cellPut (g : List (List Int)) (r k : Nat) (o : Int) : List (List Int) := g.set r ((g.getD r []).set k o)
def gridOf (h w : Nat) (es : List (Int × E4)) (day : Int) : List (List Int) := es.foldl (fun g x => if x.2.1 ≤ day then cellPut g x.2.2.1.toNat x.2.2.2.1.toNat x.2.2.2.2 else g) (List.replicate h (List.replicate w (-2)))
abbrev gT (g : List (List Int)) : D := .list (g.map fun r => bx (.list (r.map PyData.int)))
structure GdL (h w : Nat) (g : List (List Int)) : Prop where
  len : g.length = h
  rect : ∀ r ∈ g, r.length = w
theorem GdL.put {h w : Nat} {g : List (List Int)} (q : GdL h w g) {r : Nat} (hr : r < h) (k : Nat) (o : Int) : GdL h w (cellPut g r k o) := by
  have m : g.getD r [] ∈ g := by
    rw [List.getD_eq_getElem?_getD, List.getElem?_eq_getElem (by rw [q.len]; exact hr)]
    exact List.getElem_mem _
  refine ⟨by unfold cellPut; rw [List.length_set, q.len], fun x mx => ?_⟩
  unfold cellPut at mx
  rcases List.mem_or_eq_of_mem_set mx with mx | rfl
  · exact q.rect x mx
  · rw [List.length_set, q.rect _ m]
abbrev chS (V : D) (day : Int) (g : List (List Int)) (s3 s4 s5 s6 s7 : DL.Slot) : En := [.val V, .val (.int day), .tre (gT g), s3, s4, s5, s6, s7, .un]
theorem ch_put {h w : Nat} {g : List (List Int)} (q : GdL h w g) (V : D) (day : Int) {r k : Nat} (hr : r < h) (hk : k < w) (o : Int) (s3 s4 : DL.Slot) :
    setR 2 (ixR 2 (fun _ => some []) (vrQ 5)) (vrQ 6) (vr 7) (chS V day g s3 s4 (.val (.int (r : Int))) (.val (.int (k : Int))) (.val (.int o))) = .nx (chS V day (cellPut g r k o) s3 s4 (.val (.int (r : Int))) (.val (.int (k : Int))) (.val (.int o))) := by
  have m : g[r]? = some (g.getD r []) := by
    rw [List.getD_eq_getElem?_getD, List.getElem?_eq_getElem (by rw [q.len]; exact hr)]
    rfl
  have hk2 : (g.map fun r => bx (.list (r.map PyData.int)))[r]? = some (bx (.list ((g.getD r []).map PyData.int))) := by rw [List.getElem?_map, m]; rfl
  have mm : g.getD r [] ∈ g := List.mem_of_getElem? m
  rw [setR_at (i := 2) (k := r) (j := k) (z := .int o) (fa := vr 7) (h2 := vrQ 6) (g := ixR 2 (fun _ => some []) (vrQ 5)) (ρ1 := chS V day g s3 s4 (.val (.int (r : Int))) (.val (.int (k : Int))) (.val (.int o))) rfl rfl (ixR_at (h := vrQ 5) rfl rfl hk2) rfl hk2 (by rw [List.length_map, q.rect _ mm]; exact hk)]
  unfold cellPut
  show SO.nx [.val V, .val (.int day), .tre _, s3, s4, _, _, _, .un] = .nx [_, _, .tre (.list ((g.set r ((g.getD r []).set k o)).map fun r => bx (.list (r.map PyData.int)))), _, _, _, _, _, _]
  rw [List.map_set, List.map_set]
theorem ch_loop {h w : Nat} (V : D) (day : Int) : ∀ (es : List (Int × E4)) (g : List (List Int)) (s3 s4 s5 s6 s7 : DL.Slot), GdL h w g → (∀ x ∈ es, (0 ≤ x.2.2.1 ∧ x.2.2.1 < h) ∧ 0 ≤ x.2.2.2.1 ∧ x.2.2.2.1 < w) →
    ∃ g' y3 y4 y5 y6 y7, g' = es.foldl (fun g x => if x.2.1 ≤ day then cellPut g x.2.2.1.toNat x.2.2.2.1.toNat x.2.2.2.2 else g) g ∧ GdL h w g' ∧ forLoop (.tp [(.nm 3), (.nm 4), (.nm 5), (.nm 6), (.nm 7)]) B_Log_M_chart_1 (es.map entE) (chS V day g s3 s4 s5 s6 s7) = .nx (chS V day g' y3 y4 y5 y6 y7)
  | [], g, s3, s4, s5, s6, s7, q, _ => ⟨g, s3, s4, s5, s6, s7, rfl, q, rfl⟩
  | x :: es, g, s3, s4, s5, s6, s7, q, hx => by
    obtain ⟨n, d, r, k, o⟩ := x
    obtain ⟨⟨r0, r1⟩, k0, k1⟩ := hx _ List.mem_cons_self
    dsimp only at r0 r1 k0 k1
    obtain ⟨r, rfl⟩ := Int.eq_ofNat_of_zero_le r0
    obtain ⟨k, rfl⟩ := Int.eq_ofNat_of_zero_le k0
    have p : Tg.put (.tp [(.nm 3), (.nm 4), (.nm 5), (.nm 6), (.nm 7)]) (entE (n, d, (r : Int), (k : Int), o)) (chS V day g s3 s4 s5 s6 s7) = some (chS V day g (.val (.int n)) (.val (.int d)) (.val (.int (r : Int))) (.val (.int (k : Int))) (.val (.int o))) := rfl
    have tst : bF (op2 leD (vr 4) (vr 1)) (chS V day g (.val (.int n)) (.val (.int d)) (.val (.int (r : Int))) (.val (.int (k : Int))) (.val (.int o))) = .ok (decide (d ≤ day)) (chS V day g (.val (.int n)) (.val (.int d)) (.val (.int (r : Int))) (.val (.int (k : Int))) (.val (.int o))) := rfl
    by_cases hd : d ≤ day
    · have q2 := q.put (r := r) (by omega) k o
      obtain ⟨g', y3, y4, y5, y6, y7, e1, e2, e3⟩ := ch_loop V day es (cellPut g r k o) (.val (.int n)) (.val (.int d)) (.val (.int (r : Int))) (.val (.int (k : Int))) (.val (.int o)) q2 fun x m => hx x (List.mem_cons_of_mem _ m)
      have b : B_Log_M_chart_1 (chS V day g (.val (.int n)) (.val (.int d)) (.val (.int (r : Int))) (.val (.int (k : Int))) (.val (.int o))) = .nx (chS V day (cellPut g r k o) (.val (.int n)) (.val (.int d)) (.val (.int (r : Int))) (.val (.int (k : Int))) (.val (.int o))) := by
        unfold B_Log_M_chart_1
        rw [if_t tst, if_pos (decide_eq_true hd), ch_put q V day (by omega) (by omega)]
      refine ⟨g', y3, y4, y5, y6, y7, ?_, e2, ?_⟩
      · rw [e1, List.foldl_cons, if_pos hd, Int.toNat_natCast, Int.toNat_natCast]
      · rw [List.map_cons]
        unfold forLoop
        rw [p]
        dsimp only
        rw [b]
        exact e3
    · obtain ⟨g', y3, y4, y5, y6, y7, e1, e2, e3⟩ := ch_loop V day es g (.val (.int n)) (.val (.int d)) (.val (.int (r : Int))) (.val (.int (k : Int))) (.val (.int o)) q fun x m => hx x (List.mem_cons_of_mem _ m)
      have b : B_Log_M_chart_1 (chS V day g (.val (.int n)) (.val (.int d)) (.val (.int (r : Int))) (.val (.int (k : Int))) (.val (.int o))) = .nx (chS V day g (.val (.int n)) (.val (.int d)) (.val (.int (r : Int))) (.val (.int (k : Int))) (.val (.int o))) := by
        unfold B_Log_M_chart_1
        rw [if_t tst, if_neg (by rw [decide_eq_false hd]; decide)]
        rfl
      refine ⟨g', y3, y4, y5, y6, y7, ?_, e2, ?_⟩
      · rw [e1, List.foldl_cons, if_neg hd]
      · rw [List.map_cons]
        unfold forLoop
        rw [p]
        dsimp only
        rw [b]
        exact e3
theorem rep_flat {α : Type} (a : α) : ∀ n : Nat, (List.replicate n [a]).flatten = List.replicate n a
  | 0 => rfl
  | n + 1 => by rw [List.replicate_succ, List.flatten_cons, rep_flat a n, List.replicate_succ]; rfl
theorem map_rep {α : Type} (a : α) : ∀ n : Nat, ((List.range n).map fun _ => a) = List.replicate n a
  | 0 => rfl
  | n + 1 => by rw [List.range_succ, List.map_append, map_rep a n, List.map_cons, List.map_nil, List.replicate_succ']
structure Lg.Good (l : Lg) (H W : Nat) : Prop where
  ok : l.Ok
  h : l.h = (H : Int)
  w : l.w = (W : Int)
  h9 : H ≤ 9
  w9 : W ≤ 9
  on : ∀ x ∈ l.rows, l.on x.2.2.1 x.2.2.2.1
theorem ents_mem {l : Lg} (ok : l.Ok) {x : Int × E4} (m : x ∈ l.ents) : x ∈ l.rows := by
  unfold Lg.ents at m
  obtain ⟨p, mp, rfl⟩ := List.mem_map.mp m
  have := (sortB_perm _ _).mem_iff.mp mp
  obtain ⟨y, my, rfl⟩ := List.mem_map.mp this
  rw [iget_of ok.nd my, Option.getD_some]
  exact my
theorem ents_len {l : Lg} : l.ents.length = l.rows.length := by
  unfold Lg.ents
  rw [List.length_map, (sortB_perm _ _).length_eq, List.length_map]
theorem chart_eq {l : Lg} {h w : Nat} (g : l.Good h w) {day : Int} (hd : 0 ≤ day ∧ day ≤ 999) : F_Log_M_chart [lgV l, .int day] = .ok (chD l.c (gridOf h w l.ents day)) false .none := by
  have fh := lg_high (l := l)
  have fw := lg_wide (l := l)
  have fc := lg_clock (l := l)
  have ee := entries_eq g.ok
  have de := day_ok hd
  have hh := g.h9
  have ww := g.w9
  rw [g.h] at fh
  rw [g.w] at fw
  have ml : mulL (.list [.int (-2)]) (.int (w : Int)) = some (.list ((List.replicate w (-2 : Int)).map PyData.int)) := by
    unfold mulL
    dsimp only
    rw [if_pos ⟨Int.natCast_nonneg _, by omega, by simp⟩, Int.toNat_natCast, rep_flat, List.map_replicate]
  have noE : lookI "entries" (lgK l (itD ent l.rows)) = none := noAt _ (by decide +kernel)
  have c1 : C_Log_M_chart_1 [.val (lgV l), .val (.int day), .un, .un, .un, .un, .un, .un, .un] = .ok (gT (List.replicate h (List.replicate w (-2)))) [.val (lgV l), .val (.int day), .un, .un, .un, .un, .un, .un, .un] := by
    have e0 : gT (List.replicate h (List.replicate w (-2))) = .list ((List.range h).map fun _ => bx (.list ((List.replicate w (-2 : Int)).map PyData.int))) := by
      unfold gT
      rw [List.map_replicate, map_rep]
    rw [e0]
    refine C_runT (t := .nm 5) (vs := [5]) (ρ := [.val (lgV l), .val (.int day), .un, .un, .un, .un, .un, .un, .un]) (ρ0 := [.val (lgV l), .val (.int day), .un, .un, .un, .un, .un, .un, .un]) _ (fun k : Nat => PyData.int (k : Int)) (fun _ => .list ((List.replicate w (-2 : Int)).map PyData.int)) (List.range h) (srcR1_nat (n := h) ?_ (by omega)) rfl (fun k _ => ⟨[.val (lgV l), .val (.int day), .un, .un, .un, .val (.int (k : Int)), .un, .un, .un], rfl, [.val (lgV l), .val (.int day), .un, .un, .un, .val (.int (k : Int)), .un, .un, .un], ?_, rfl⟩) (by rw [List.length_range]; omega)
    · generalize lgV l = V at fh
      simp only [runD, runO, out0, slots0, List.replicate, List.append_nil, List.cons_append, List.nil_append, List.length_cons, List.length_nil, retS, retC, retO, retN, seqS, ifS, asg, asgO, exprS, appS, setS, augS, asgT, asgL, raiseS, nxS, op1, op2, op2C, tst, andF, orF, ifF, andB, orB, notB, chF, cst, vr, frz, frC, lstC, tupF, consF, nilF, bltF, bltC, one_d, bind_ok, bind_er, bind_bad, then_ok, then_er, then_bad, opt_some, opt_none, Vl.get, Slot.get, Slot.put, Slot.cont, Slot.lst, Slot.mut, Slot.shal, stables, sh, gets, argD, argB, callF, callO, callC, callB, callW, pick, Pk.of, and_self, boxC, partF, slF, srcF, srcR1, srcR2, srcZ, forS, popF, noEr_ok, noEr_er, yes, List.getElem?_cons_zero, List.getElem?_cons_succ, List.set_cons_zero, List.set_cons_succ, Option.bind_some, Option.bind_none, Option.map_some, Option.map_none, if_true, if_false, Bool.false_eq_true, if_pos, List.map_cons, List.map_nil, add_int, sub_int, negD, notD, boolOf, isD, isntD, isNone, Tg.put, Tg.puts, sh0, sh1, sh2, sh3, sh4, sh5, sh6, sh7, sh8, sh9, sh10, sh11, sh12, sh13, sh14, sh15, sh16, step_nx, step_ct, ptN, isN, Nat.add_one_sub_one, Nat.sub_self, Nat.zero_add, Nat.reduceAdd, Nat.reduceSub, fh]
    · generalize lgV l = V at fw
      have nn : isN (.list ((List.replicate w (-2 : Int)).map PyData.int)) = false := rfl
      generalize PyData.list ((List.replicate w (-2 : Int)).map PyData.int) = L at ml nn
      have inn : op2C mulL (frC (lstC (consF (cst (.int (-2))) nilF))) (op1 (fldD "Log" "wide") (vr 0)) [.val V, .val (.int day), .un, .un, .un, .val (.int (k : Int)), .un, .un, .un] = .ok L [.val V, .val (.int day), .un, .un, .un, .val (.int (k : Int)), .un, .un, .un] := by simp only [runD, runO, out0, slots0, List.replicate, List.append_nil, List.cons_append, List.nil_append, List.length_cons, List.length_nil, retS, retC, retO, retN, seqS, ifS, asg, asgO, exprS, appS, setS, augS, asgT, asgL, raiseS, nxS, op1, op2, op2C, tst, andF, orF, ifF, andB, orB, notB, chF, cst, vr, frz, frC, lstC, tupF, consF, nilF, bltF, bltC, one_d, bind_ok, bind_er, bind_bad, then_ok, then_er, then_bad, opt_some, opt_none, Vl.get, Slot.get, Slot.put, Slot.cont, Slot.lst, Slot.mut, Slot.shal, stables, sh, gets, argD, argB, callF, callO, callC, callB, callW, pick, Pk.of, and_self, boxC, partF, slF, srcF, srcR1, srcR2, srcZ, forS, popF, noEr_ok, noEr_er, yes, List.getElem?_cons_zero, List.getElem?_cons_succ, List.set_cons_zero, List.set_cons_succ, Option.bind_some, Option.bind_none, Option.map_some, Option.map_none, if_true, if_false, Bool.false_eq_true, if_pos, List.map_cons, List.map_nil, add_int, sub_int, negD, notD, boolOf, isD, isntD, isNone, Tg.put, Tg.puts, sh0, sh1, sh2, sh3, sh4, sh5, sh6, sh7, sh8, sh9, sh10, sh11, sh12, sh13, sh14, sh15, sh16, step_nx, step_ct, ptN, isN, Nat.add_one_sub_one, Nat.sub_self, Nat.zero_add, Nat.reduceAdd, Nat.reduceSub, fw, ml]
      unfold E_Log_M_chart_1 ptN
      rw [inn, bind_ok]
      exact if_neg (by rw [nn]; decide)
  have em : ∀ x ∈ l.ents, (0 ≤ x.2.2.1 ∧ x.2.2.1 < h) ∧ 0 ≤ x.2.2.2.1 ∧ x.2.2.2.1 < w := fun x m => by
    obtain ⟨a1, a2, a3, a4⟩ := g.on x (ents_mem g.ok m)
    rw [g.h] at a2
    rw [g.w] at a4
    exact ⟨⟨a1, a2⟩, a3, a4⟩
  obtain ⟨g', y3, y4, y5, y6, y7, e1, e2, e3⟩ := ch_loop (h := h) (w := w) (lgV l) day l.ents (List.replicate h (List.replicate w (-2))) .un .un .un .un .un ⟨List.length_replicate, fun r m => by rw [List.eq_of_mem_replicate m, List.length_replicate]⟩ em
  have e1 : g' = gridOf h w l.ents day := e1
  subst e1
  have s1 : exprS (callF [.p] F_need_day [] (consF (vr 1) nilF)) [.val (lgV l), .val (.int day), .un, .un, .un, .un, .un, .un, .un] = .nx [.val (lgV l), .val (.int day), .un, .un, .un, .un, .un, .un, .un] := by
    generalize lgV l = V
    simp only [runD, runO, out0, slots0, List.replicate, List.append_nil, List.cons_append, List.nil_append, List.length_cons, List.length_nil, retS, retC, retO, retN, seqS, ifS, asg, asgO, exprS, appS, setS, augS, asgT, asgL, raiseS, nxS, op1, op2, op2C, tst, andF, orF, ifF, andB, orB, notB, chF, cst, vr, frz, frC, lstC, tupF, consF, nilF, bltF, bltC, one_d, bind_ok, bind_er, bind_bad, then_ok, then_er, then_bad, opt_some, opt_none, Vl.get, Slot.get, Slot.put, Slot.cont, Slot.lst, Slot.mut, Slot.shal, stables, sh, gets, argD, argB, callF, callO, callC, callB, callW, pick, Pk.of, and_self, boxC, partF, slF, srcF, srcR1, srcR2, srcZ, forS, popF, noEr_ok, noEr_er, yes, List.getElem?_cons_zero, List.getElem?_cons_succ, List.set_cons_zero, List.set_cons_succ, Option.bind_some, Option.bind_none, Option.map_some, Option.map_none, if_true, if_false, Bool.false_eq_true, if_pos, List.map_cons, List.map_nil, add_int, sub_int, negD, notD, boolOf, isD, isntD, isNone, Tg.put, Tg.puts, sh0, sh1, sh2, sh3, sh4, sh5, sh6, sh7, sh8, sh9, sh10, sh11, sh12, sh13, sh14, sh15, sh16, step_nx, step_ct, ptN, isN, Nat.add_one_sub_one, Nat.sub_self, Nat.zero_add, Nat.reduceAdd, Nat.reduceSub, de]
  have s2 : asgTr 2 C_Log_M_chart_1 [.val (lgV l), .val (.int day), .un, .un, .un, .un, .un, .un, .un] = .nx (chS (lgV l) day (List.replicate h (List.replicate w (-2))) .un .un .un .un .un) := by
    unfold asgTr
    rw [c1, then_ok]
    rfl
  have s3 : L_Log_M_chart_1 (chS (lgV l) day (List.replicate h (List.replicate w (-2))) .un .un .un .un .un) = .nx (chS (lgV l) day (gridOf h w l.ents day) y3 y4 y5 y6 y7) := by
    unfold L_Log_M_chart_1
    rw [for_src (ds := l.ents.map entE) (ρ1 := chS (lgV l) day (List.replicate h (List.replicate w (-2))) .un .un .un .un .un) (srcF_list (callM_ok (fo := vr 0) (fa := nilF) (md := []) (dd := []) (ρ0 := chS (lgV l) day (List.replicate h (List.replicate w (-2))) .un .un .un .un .un) (xs := []) (ds := []) rfl noE rfl rfl ee))]
    exact e3
  have lr : ∀ r ∈ gridOf h w l.ents day, r.length ≤ 100000 := fun r m => by rw [e2.rect r m]; omega
  have fz : ∀ y8 : DL.Slot, frzT 2 ([.val (lgV l), .val (.int day), .tre (gT (gridOf h w l.ents day)), y3, y4, y5, y6, y7, y8] : En) = .ok (.st (.list ((gridOf h w l.ents day).map fun r => .list (r.map PyData.int)))) [.val (lgV l), .val (.int day), .val (.list ((gridOf h w l.ents day).map fun r => .list (r.map PyData.int))), y3, y4, y5, y6, y7, y8] := fun y8 => by
    have := strip_lists (gridOf h w l.ents day)
    unfold frzT
    show O.ok (Vl.st (DL.strip (bx (gT (gridOf h w l.ents day))))) [.val (lgV l), .val (.int day), .val (DL.strip (bx (gT (gridOf h w l.ents day)))), y3, y4, y5, y6, y7, y8] = _
    rw [this]
  have gl : (gridOf h w l.ents day).length ≤ 100000 := by rw [e2.len]; omega
  have tu : ∀ r ∈ gridOf h w l.ents day, tupleD (.list (r.map PyData.int)) = some (rowD r) := fun r m => by
    rfl
  have c2 : C_Log_M_chart_2 (chS (lgV l) day (gridOf h w l.ents day) y3 y4 y5 y6 y7) = .ok (.list ((gridOf h w l.ents day).map rowD)) [.val (lgV l), .val (.int day), .val (.list ((gridOf h w l.ents day).map fun r => .list (r.map PyData.int))), y3, y4, y5, y6, y7, .un] :=
    C_run (t := .nm 8) (vs := [8]) (ρ0 := [.val (lgV l), .val (.int day), .val (.list ((gridOf h w l.ents day).map fun r => .list (r.map PyData.int))), y3, y4, y5, y6, y7, .un]) _ (fun r => PyData.list (r.map PyData.int)) rowD (gridOf h w l.ents day) (srcF_list (fz .un)) rfl (fun r mr => ⟨[.val (lgV l), .val (.int day), .val (.list ((gridOf h w l.ents day).map fun r => .list (r.map PyData.int))), y3, y4, y5, y6, y7, .val (.list (r.map PyData.int))], rfl, [.val (lgV l), .val (.int day), .val (.list ((gridOf h w l.ents day).map fun r => .list (r.map PyData.int))), y3, y4, y5, y6, y7, .val (.list (r.map PyData.int))], by
      have t := tu r mr
      generalize PyData.list (r.map PyData.int) = R at t
      generalize lgV l = V
      simp only [E_Log_M_chart_2, runD, runO, out0, slots0, List.replicate, List.append_nil, List.cons_append, List.nil_append, List.length_cons, List.length_nil, retS, retC, retO, retN, seqS, ifS, asg, asgO, exprS, appS, setS, augS, asgT, asgL, raiseS, nxS, op1, op2, op2C, tst, andF, orF, ifF, andB, orB, notB, chF, cst, vr, frz, frC, lstC, tupF, consF, nilF, bltF, bltC, one_d, bind_ok, bind_er, bind_bad, then_ok, then_er, then_bad, opt_some, opt_none, Vl.get, Slot.get, Slot.put, Slot.cont, Slot.lst, Slot.mut, Slot.shal, stables, sh, gets, argD, argB, callF, callO, callC, callB, callW, pick, Pk.of, and_self, boxC, partF, slF, srcF, srcR1, srcR2, srcZ, forS, popF, noEr_ok, noEr_er, yes, List.getElem?_cons_zero, List.getElem?_cons_succ, List.set_cons_zero, List.set_cons_succ, Option.bind_some, Option.bind_none, Option.map_some, Option.map_none, if_true, if_false, Bool.false_eq_true, if_pos, List.map_cons, List.map_nil, add_int, sub_int, negD, notD, boolOf, isD, isntD, isNone, Tg.put, Tg.puts, sh0, sh1, sh2, sh3, sh4, sh5, sh6, sh7, sh8, sh9, sh10, sh11, sh12, sh13, sh14, sh15, sh16, step_nx, step_ct, ptN, isN, Nat.add_one_sub_one, Nat.sub_self, Nat.zero_add, Nat.reduceAdd, Nat.reduceSub, t], rfl⟩) gl
  have tg : tupleD (.list ((gridOf h w l.ents day).map rowD)) = some (.tuple ((gridOf h w l.ents day).map rowD)) := rfl
  have s4 : retS (tupF (consF (op1 (fldD "Log" "clock") (vr 0)) (consF (bltF (one tupleD) (consF (frC C_Log_M_chart_2) nilF)) nilF))) (chS (lgV l) day (gridOf h w l.ents day) y3 y4 y5 y6 y7) = .rt (chD l.c (gridOf h w l.ents day)) false [.val (lgV l), .val (.int day), .val (.list ((gridOf h w l.ents day).map fun r => .list (r.map PyData.int))), y3, y4, y5, y6, y7, .un] := by
    have hd' : chD l.c (gridOf h w l.ents day) = .tuple [.int l.c, .tuple ((gridOf h w l.ents day).map rowD)] := rfl
    rw [hd']
    generalize PyData.list ((gridOf h w l.ents day).map rowD) = Y at c2 tg
    generalize PyData.tuple ((gridOf h w l.ents day).map rowD) = Z at tg
    generalize lgV l = V at fc c2
    generalize gT (gridOf h w l.ents day) = G at c2
    simp only [chS] at c2 ⊢
    simp only [runD, runO, out0, slots0, List.replicate, List.append_nil, List.cons_append, List.nil_append, List.length_cons, List.length_nil, retS, retC, retO, retN, seqS, ifS, asg, asgO, exprS, appS, setS, augS, asgT, asgL, raiseS, nxS, op1, op2, op2C, tst, andF, orF, ifF, andB, orB, notB, chF, cst, vr, frz, frC, lstC, tupF, consF, nilF, bltF, bltC, one_d, bind_ok, bind_er, bind_bad, then_ok, then_er, then_bad, opt_some, opt_none, Vl.get, Slot.get, Slot.put, Slot.cont, Slot.lst, Slot.mut, Slot.shal, stables, sh, gets, argD, argB, callF, callO, callC, callB, callW, pick, Pk.of, and_self, boxC, partF, slF, srcF, srcR1, srcR2, srcZ, forS, popF, noEr_ok, noEr_er, yes, List.getElem?_cons_zero, List.getElem?_cons_succ, List.set_cons_zero, List.set_cons_succ, Option.bind_some, Option.bind_none, Option.map_some, Option.map_none, if_true, if_false, Bool.false_eq_true, if_pos, List.map_cons, List.map_nil, add_int, sub_int, negD, notD, boolOf, isD, isntD, isNone, Tg.put, Tg.puts, sh0, sh1, sh2, sh3, sh4, sh5, sh6, sh7, sh8, sh9, sh10, sh11, sh12, sh13, sh14, sh15, sh16, step_nx, step_ct, ptN, isN, Nat.add_one_sub_one, Nat.sub_self, Nat.zero_add, Nat.reduceAdd, Nat.reduceSub, fc, c2, tg]
  unfold F_Log_M_chart runD
  rw [show (slots0 (.p :: [.p]) [lgV l, .int day] ++ List.replicate (9 - (.p :: [.p] : List Md).length) .un : En) = [.val (lgV l), .val (.int day), .un, .un, .un, .un, .un, .un, .un] from rfl]
  unfold f_Log_M_chart
  rw [seq_nx s1, seq_nx s2, seq_nx s3, s4]
/-! ### logs with days apart -/
theorem srt_uniq : ∀ {as bs : List E4}, as.Pairwise (fun x y => x.1 < y.1) → bs.Pairwise (fun x y => x.1 < y.1) → as.Perm bs → as = bs
  | [], bs, _, _, p => (List.Perm.nil_eq p)
  | a :: as, [], _, _, p => absurd (p.length_eq) (by simp)
  | a :: as, b :: bs, h1, h2, p => by
    rw [List.pairwise_cons] at h1 h2
    have ma : a ∈ b :: bs := p.mem_iff.mp List.mem_cons_self
    have mb : b ∈ a :: as := p.mem_iff.mpr List.mem_cons_self
    have e : a = b := by
      rcases List.mem_cons.mp ma with e | ma
      · exact e
      · rcases List.mem_cons.mp mb with e | mb
        · exact e.symm
        · have := h2.1 a ma
          have := h1.1 b mb
          omega
    subst e
    rw [srt_uniq h1.2 h2.2 ((List.perm_cons a).mp p)]
/-- the entries without their numbers -/
def Lg.told (l : Lg) : List E4 := l.ents.map (·.2)
theorem told_perm {l : Lg} (ok : l.Ok) : l.told.Perm (l.rows.map (·.2)) := by
  have p := sortB_perm SrtO.lexB (l.rows.map fun x => ((x.2.1, x.1) : Sq))
  have p2 := p.map fun q : Sq => (iget l.rows q.2).getD (0, 0, 0, 0)
  rw [List.map_map] at p2
  have e1 : l.told = (sortB SrtO.lexB (l.rows.map fun x => ((x.2.1, x.1) : Sq))).map fun q : Sq => (iget l.rows q.2).getD (0, 0, 0, 0) := by
    unfold Lg.told Lg.ents
    rw [List.map_map]
    rfl
  have e2 : (l.rows.map ((fun q : Sq => (iget l.rows q.2).getD (0, 0, 0, 0)) ∘ fun x => ((x.2.1, x.1) : Sq))) = l.rows.map (·.2) := by
    refine List.map_congr_left fun x mx => ?_
    show (iget l.rows x.1).getD (0, 0, 0, 0) = x.2
    rw [iget_of ok.nd mx]
    rfl
  rw [e1]
  rw [e2] at p2
  exact p2
theorem told_srt {l : Lg} (ok : l.Ok) (dd : (l.rows.map (·.2.1)).Nodup) : l.told.Pairwise fun x y => x.1 < y.1 := by
  have s := psort_sorted (l.rows.map fun x => ((x.2.1, x.1) : Sq))
  rw [← sortB_P] at s
  have p := sortB_perm SrtO.lexB (l.rows.map fun x => ((x.2.1, x.1) : Sq))
  have nd : ((sortB SrtO.lexB (l.rows.map fun x => ((x.2.1, x.1) : Sq))).map (·.1)).Nodup := by
    refine ((p.map (·.1)).nodup_iff).mpr ?_
    rw [List.map_map]
    exact dd
  have e1 : l.told = (sortB SrtO.lexB (l.rows.map fun x => ((x.2.1, x.1) : Sq))).map fun q : Sq => (iget l.rows q.2).getD (0, 0, 0, 0) := by
    unfold Lg.told Lg.ents
    rw [List.map_map]
    rfl
  rw [e1, List.pairwise_map]
  have nd2 := List.pairwise_map.mp nd
  have key : ∀ q ∈ sortB SrtO.lexB (l.rows.map fun x => ((x.2.1, x.1) : Sq)), ((iget l.rows q.2).getD (0, 0, 0, 0)).1 = q.1 := fun q mq => by
    obtain ⟨x, mx, rfl⟩ := List.mem_map.mp (p.mem_iff.mp mq)
    show ((iget l.rows x.1).getD (0, 0, 0, 0)).1 = x.2.1
    rw [iget_of ok.nd mx]
    rfl
  refine ((s.and nd2).imp_of_mem fun {a b} ma mb h => ?_)
  rw [key a ma, key b mb]
  obtain ⟨h1, h2⟩ := h
  have h1 := leP_iff.mp h1
  rcases h1 with h1 | h1
  · exact h1
  · exact absurd h1.1 h2

/-! ### a list in a drawn order -/
abbrev shS (b : Box) (R L Fd : D) (s4 : DL.Slot) : En := [.arg (bD b), .val R, .own L, .own Fd, s4]
theorem map_erase {α β : Type} (f : α → β) : ∀ (l : List α) (k : Nat), (l.eraseIdx k).map f = (l.map f).eraseIdx k
  | [], _ => rfl
  | x :: l, 0 => rfl
  | x :: l, k + 1 => by
    show f x :: (l.eraseIdx k).map f = f x :: (l.map f).eraseIdx k
    rw [map_erase f l k]
theorem shuf_turn {α : Type} (f : α → D) (R : D) (b : Box) {left : List α} (found : List α) (h0 : 0 < left.length) (h1 : left.length ≤ 1000) (h2 : found.length < 1000) (s4 : DL.Slot) :
    ∃ k b', ∃ hk : k < left.length, B__law_shuffled_1 (shS b R (.list (left.map f)) (.list (found.map f)) s4) = .nx (shS b' R (.list ((left.eraseIdx k).map f)) (.list ((found ++ [left[k]]).map f)) s4) := by
  have tk := take_eq b (m := (left.length : Int)) (by omega) (by omega)
  have n0 := take_nn b (show (0 : Int) < (left.length : Int) by omega)
  have n1 := take_lt b (show (0 : Int) < (left.length : Int) by omega)
  generalize (take b (left.length : Int)).1 = t at tk n0 n1
  generalize (take b (left.length : Int)).2 = b' at tk
  obtain ⟨k, rfl⟩ := Int.eq_ofNat_of_zero_le n0
  have hk : k < left.length := by omega
  refine ⟨k, b', hk, ?_⟩
  have ln : lenD (.list (left.map f)) = some (.int (left.length : Int)) := lenG f left
  have e1 : callO [.p] F__law_take [] (consF (vr 0) (consF (bltF (one lenD) (consF (vr 2) nilF)) nilF)) (shS b R (.list (left.map f)) (.list (found.map f)) s4) = .ok (.st (.int (k : Int))) (shS b' R (.list (left.map f)) (.list (found.map f)) s4) := by
    generalize PyData.list (left.map f) = L at ln
    generalize PyData.list (found.map f) = Fd
    simp only [shS, runD, runO, out0, slots0, List.replicate, List.append_nil, List.cons_append, List.nil_append, List.length_cons, List.length_nil, retS, retC, retO, retN, seqS, ifS, asg, asgO, exprS, appS, setS, augS, asgT, asgL, raiseS, nxS, op1, op2, op2C, tst, andF, orF, ifF, andB, orB, notB, chF, cst, vr, frz, frC, lstC, tupF, consF, nilF, bltF, bltC, one_d, bind_ok, bind_er, bind_bad, then_ok, then_er, then_bad, opt_some, opt_none, Vl.get, Slot.get, Slot.put, Slot.cont, Slot.lst, Slot.mut, Slot.shal, stables, sh, gets, argD, argB, callF, callO, callC, callB, callW, pick, Pk.of, and_self, boxC, partF, slF, srcF, srcR1, srcR2, srcZ, forS, popF, noEr_ok, noEr_er, yes, List.getElem?_cons_zero, List.getElem?_cons_succ, List.set_cons_zero, List.set_cons_succ, Option.bind_some, Option.bind_none, Option.map_some, Option.map_none, if_true, if_false, Bool.false_eq_true, if_pos, List.map_cons, List.map_nil, add_int, sub_int, negD, notD, boolOf, isD, isntD, isNone, Tg.put, Tg.puts, sh0, sh1, sh2, sh3, sh4, sh5, sh6, sh7, sh8, sh9, sh10, sh11, sh12, sh13, sh14, sh15, sh16, step_nx, step_ct, ptN, isN, Nat.add_one_sub_one, Nat.sub_self, Nat.zero_add, Nat.reduceAdd, Nat.reduceSub, ln, tk]
  have gt : (left.map f)[k]? = some (f left[k]) := by rw [List.getElem?_map, List.getElem?_eq_getElem hk]; rfl
  have e2 : popE 2 (callO [.p] F__law_take [] (consF (vr 0) (consF (bltF (one lenD) (consF (vr 2) nilF)) nilF))) (shS b R (.list (left.map f)) (.list (found.map f)) s4) = .ok (.st (f left[k])) (shS b' R (.list ((left.eraseIdx k).map f)) (.list (found.map f)) s4) := by
    unfold popE
    rw [show ((shS b R (.list (left.map f)) (.list (found.map f)) s4)[2]?).bind Slot.lst = some (left.map f) from rfl]
    dsimp only
    rw [e1, bind_ok]
    show (if 0 ≤ (k : Int) ∧ (k : Int).toNat < (left.map f).length ∧ (left.map f).length ≤ 100000 then _ else _) = _
    rw [if_pos ⟨Int.natCast_nonneg _, by rw [Int.toNat_natCast, List.length_map]; exact hk, by rw [List.length_map]; omega⟩, Int.toNat_natCast, gt]
    rw [show (left.eraseIdx k).map f = (left.map f).eraseIdx k from map_erase f left k]
    rfl
  have e3 : (found ++ [left[k]]).map f = found.map f ++ [f left[k]] := by rw [List.map_append]; rfl
  have hl : (found.map f).length < 100000 := by rw [List.length_map]; omega
  unfold B__law_shuffled_1
  rw [e3]
  generalize popE 2 (callO [.p] F__law_take [] (consF (vr 0) (consF (bltF (one lenD) (consF (vr 2) nilF)) nilF))) = P at e2
  generalize f left[k] = x at e2
  simp only [shS] at e2 ⊢
  simp only [runD, runO, out0, slots0, List.replicate, List.append_nil, List.cons_append, List.nil_append, List.length_cons, List.length_nil, retS, retC, retO, retN, seqS, ifS, asg, asgO, exprS, appS, setS, augS, asgT, asgL, raiseS, nxS, op1, op2, op2C, tst, andF, orF, ifF, andB, orB, notB, chF, cst, vr, frz, frC, lstC, tupF, consF, nilF, bltF, bltC, one_d, bind_ok, bind_er, bind_bad, then_ok, then_er, then_bad, opt_some, opt_none, Vl.get, Slot.get, Slot.put, Slot.cont, Slot.lst, Slot.mut, Slot.shal, stables, sh, gets, argD, argB, callF, callO, callC, callB, callW, pick, Pk.of, and_self, boxC, partF, slF, srcF, srcR1, srcR2, srcZ, forS, popF, noEr_ok, noEr_er, yes, List.getElem?_cons_zero, List.getElem?_cons_succ, List.set_cons_zero, List.set_cons_succ, Option.bind_some, Option.bind_none, Option.map_some, Option.map_none, if_true, if_false, Bool.false_eq_true, if_pos, List.map_cons, List.map_nil, add_int, sub_int, negD, notD, boolOf, isD, isntD, isNone, Tg.put, Tg.puts, sh0, sh1, sh2, sh3, sh4, sh5, sh6, sh7, sh8, sh9, sh10, sh11, sh12, sh13, sh14, sh15, sh16, step_nx, step_ct, ptN, isN, Nat.add_one_sub_one, Nat.sub_self, Nat.zero_add, Nat.reduceAdd, Nat.reduceSub, e2, hl]
theorem perm_erase {α : Type} : ∀ (l : List α) (k : Nat) (hk : k < l.length), (l[k] :: l.eraseIdx k).Perm l
  | [], k, hk => absurd hk (Nat.not_lt_zero _)
  | x :: l, 0, hk => .refl _
  | x :: l, k + 1, hk => by
    have hk2 : k < l.length := by rw [List.length_cons] at hk; omega
    have ih := perm_erase l k hk2
    show (l[k] :: x :: l.eraseIdx k).Perm (x :: l)
    exact (List.Perm.swap _ _ _).trans (ih.cons x)
theorem shuf_loop {α : Type} (f : α → D) (R : D) : ∀ (ks : List D) (left found : List α) (b : Box) (s4 : DL.Slot), ks.length = left.length → left.length ≤ 1000 → found.length + left.length < 1000 →
    ∃ (zs : List α) (b' : Box) (y4 : DL.Slot), zs.Perm left ∧ forLoop (.nm 4) B__law_shuffled_1 ks (shS b R (.list (left.map f)) (.list (found.map f)) s4) = .nx (shS b' R (.list []) (.list ((found ++ zs).map f)) y4)
  | [], left, found, b, s4, hl, _, _ => by
    obtain rfl : left = [] := List.length_eq_zero_iff.mp hl.symm
    exact ⟨[], b, s4, .refl _, by rw [List.append_nil]; rfl⟩
  | d :: ks, left, found, b, s4, hl, h1, h2 => by
    rw [List.length_cons] at hl
    obtain ⟨k, b', hk, e⟩ := shuf_turn f R b (left := left) found (by omega) h1 (by omega) (.val d)
    have le := List.length_eraseIdx_of_lt hk
    obtain ⟨zs, b2, y4, p, e2⟩ := shuf_loop f R ks (left.eraseIdx k) (found ++ [left[k]]) b' (.val d) (by omega) (by omega) (by rw [List.length_append, List.length_cons, List.length_nil]; omega)
    refine ⟨left[k] :: zs, b2, y4, ?_, ?_⟩
    · exact (p.cons _).trans (perm_erase left k hk)
    · unfold forLoop
      show (match B__law_shuffled_1 (shS b R (.list (left.map f)) (.list (found.map f)) (.val d)) with
        | .nx ρ2 => forLoop (.nm 4) B__law_shuffled_1 ks ρ2
        | .ct ρ2 => forLoop (.nm 4) B__law_shuffled_1 ks ρ2
        | .bk ρ2 => .nx ρ2
        | .rt d fr ρ2 => .rt d fr ρ2
        | .er e ρ2 => .er e ρ2
        | .bad => .bad) = _
      rw [e]
      dsimp only
      rw [e2, List.append_assoc]
      rfl
theorem shuffled_run {α : Type} (f : α → D) (b : Box) (xs : List α) (hx : xs.length < 1000) : ∃ (zs : List α) (b' : Box), zs.Perm xs ∧ F__law_shuffled (bD b) [.list (xs.map f)] = .ok (.list (zs.map f)) true (bD b') := by
  have ld : listD (.list (xs.map f)) = some (.list (xs.map f)) := rfl
  have ln : lenD (.list (xs.map f)) = some (.int (xs.length : Int)) := lenG f xs
  obtain ⟨zs, b', y4, p, e⟩ := shuf_loop f (.list (xs.map f)) ((List.range xs.length).map fun k : Nat => PyData.int (k : Int)) xs [] b .un (by rw [List.length_map, List.length_range]) (by omega) (by simp only [List.length_nil]; omega)
  refine ⟨zs, b', p, ?_⟩
  have s1 : asgO 2 (bltC (one listD) (consF (vr 1) nilF)) [.arg (bD b), .val (.list (xs.map f)), .un, .un, .un] = .nx [.arg (bD b), .val (.list (xs.map f)), .own (.list (xs.map f)), .un, .un] := by
    generalize PyData.list (xs.map f) = L at ld
    simp only [runD, runO, out0, slots0, List.replicate, List.append_nil, List.cons_append, List.nil_append, List.length_cons, List.length_nil, retS, retC, retO, retN, seqS, ifS, asg, asgO, exprS, appS, setS, augS, asgT, asgL, raiseS, nxS, op1, op2, op2C, tst, andF, orF, ifF, andB, orB, notB, chF, cst, vr, frz, frC, lstC, tupF, consF, nilF, bltF, bltC, one_d, bind_ok, bind_er, bind_bad, then_ok, then_er, then_bad, opt_some, opt_none, Vl.get, Slot.get, Slot.put, Slot.cont, Slot.lst, Slot.mut, Slot.shal, stables, sh, gets, argD, argB, callF, callO, callC, callB, callW, pick, Pk.of, and_self, boxC, partF, slF, srcF, srcR1, srcR2, srcZ, forS, popF, noEr_ok, noEr_er, yes, List.getElem?_cons_zero, List.getElem?_cons_succ, List.set_cons_zero, List.set_cons_succ, Option.bind_some, Option.bind_none, Option.map_some, Option.map_none, if_true, if_false, Bool.false_eq_true, if_pos, List.map_cons, List.map_nil, add_int, sub_int, negD, notD, boolOf, isD, isntD, isNone, Tg.put, Tg.puts, sh0, sh1, sh2, sh3, sh4, sh5, sh6, sh7, sh8, sh9, sh10, sh11, sh12, sh13, sh14, sh15, sh16, step_nx, step_ct, ptN, isN, Nat.add_one_sub_one, Nat.sub_self, Nat.zero_add, Nat.reduceAdd, Nat.reduceSub, ld]
  have s2 : asgO 3 (lstC nilF) [.arg (bD b), .val (.list (xs.map f)), .own (.list (xs.map f)), .un, .un] = .nx (shS b (.list (xs.map f)) (.list (xs.map f)) (.list []) .un) := rfl
  have s3 : L__law_shuffled_1 (shS b (.list (xs.map f)) (.list (xs.map f)) (.list []) .un) = .nx (shS b' (.list (xs.map f)) (.list []) (.list (zs.map f)) y4) := by
    unfold L__law_shuffled_1
    rw [for_src (ds := (List.range xs.length).map fun k : Nat => PyData.int (k : Int)) (ρ1 := shS b (.list (xs.map f)) (.list (xs.map f)) (.list []) .un) (srcR1_nat (n := xs.length) (by
      generalize PyData.list (xs.map f) = L at ln
      simp only [shS, runD, runO, out0, slots0, List.replicate, List.append_nil, List.cons_append, List.nil_append, List.length_cons, List.length_nil, retS, retC, retO, retN, seqS, ifS, asg, asgO, exprS, appS, setS, augS, asgT, asgL, raiseS, nxS, op1, op2, op2C, tst, andF, orF, ifF, andB, orB, notB, chF, cst, vr, frz, frC, lstC, tupF, consF, nilF, bltF, bltC, one_d, bind_ok, bind_er, bind_bad, then_ok, then_er, then_bad, opt_some, opt_none, Vl.get, Slot.get, Slot.put, Slot.cont, Slot.lst, Slot.mut, Slot.shal, stables, sh, gets, argD, argB, callF, callO, callC, callB, callW, pick, Pk.of, and_self, boxC, partF, slF, srcF, srcR1, srcR2, srcZ, forS, popF, noEr_ok, noEr_er, yes, List.getElem?_cons_zero, List.getElem?_cons_succ, List.set_cons_zero, List.set_cons_succ, Option.bind_some, Option.bind_none, Option.map_some, Option.map_none, if_true, if_false, Bool.false_eq_true, if_pos, List.map_cons, List.map_nil, add_int, sub_int, negD, notD, boolOf, isD, isntD, isNone, Tg.put, Tg.puts, sh0, sh1, sh2, sh3, sh4, sh5, sh6, sh7, sh8, sh9, sh10, sh11, sh12, sh13, sh14, sh15, sh16, step_nx, step_ct, ptN, isN, Nat.add_one_sub_one, Nat.sub_self, Nat.zero_add, Nat.reduceAdd, Nat.reduceSub, ln]) (by omega))]
    exact e
  unfold F__law_shuffled runO
  rw [show (.arg (bD b) :: slots0 [.p] [.list (xs.map f)] ++ List.replicate (5 - (([.p] : List Md).length + 1)) .un : En) = [.arg (bD b), .val (.list (xs.map f)), .un, .un, .un] from rfl]
  unfold f__law_shuffled
  rw [seq_nx s1, seq_nx s2, seq_nx s3]
  rfl

/-! ### logs alike -/
section
variable {l m : Lg}
def plD (l : Lg) : D := .tuple [.int l.c, .int l.h, .int l.w, .list (l.told.map ent)]
theorem plain_eq (ok : l.Ok) : F_Log_M_plain [lgV l] = .ok (plD l) false .none := by
  have fc := lg_clock (l := l)
  have fh := lg_high (l := l)
  have fw := lg_wide (l := l)
  have ee := entries_eq ok
  have c1 : C_Log_M_plain_1 [.val (lgV l), .un] = .ok (.list (l.told.map ent)) [.val (lgV l), .un] := by
    unfold Lg.told
    rw [List.map_map]
    refine C_run (t := .nm 1) (vs := [1]) (ρ := [.val (lgV l), .un]) (ρ0 := [.val (lgV l), .un]) _ entE _ l.ents (srcF_list (callM_ok (fo := vr 0) (fa := nilF) (md := []) (dd := []) (ρ0 := [.val (lgV l), .un]) (xs := []) (ds := []) rfl (noAt _ (by decide +kernel)) rfl rfl ee)) rfl (fun x _ => ⟨[.val (lgV l), .val (entE x)], rfl, [.val (lgV l), .val (entE x)], ?_, rfl⟩) (by rw [ents_len]; have := ok.len; omega)
    have ct : cutA (entE x) (some 1) none = some (ent x.2) := rfl
    show E_Log_M_plain_1 _ = .ok (.st (ent x.2)) _
    generalize lgV l = V
    generalize entE x = e at ct
    generalize ent x.2 = e4 at ct
    simp only [E_Log_M_plain_1, runD, runO, out0, slots0, List.replicate, List.append_nil, List.cons_append, List.nil_append, List.length_cons, List.length_nil, retS, retC, retO, retN, seqS, ifS, asg, asgO, exprS, appS, setS, augS, asgT, asgL, raiseS, nxS, op1, op2, op2C, tst, andF, orF, ifF, andB, orB, notB, chF, cst, vr, frz, frC, lstC, tupF, consF, nilF, bltF, bltC, one_d, bind_ok, bind_er, bind_bad, then_ok, then_er, then_bad, opt_some, opt_none, Vl.get, Slot.get, Slot.put, Slot.cont, Slot.lst, Slot.mut, Slot.shal, stables, sh, gets, argD, argB, callF, callO, callC, callB, callW, pick, Pk.of, and_self, boxC, partF, slF, srcF, srcR1, srcR2, srcZ, forS, popF, noEr_ok, noEr_er, yes, List.getElem?_cons_zero, List.getElem?_cons_succ, List.set_cons_zero, List.set_cons_succ, Option.bind_some, Option.bind_none, Option.map_some, Option.map_none, if_true, if_false, Bool.false_eq_true, if_pos, List.map_cons, List.map_nil, add_int, sub_int, negD, notD, boolOf, isD, isntD, isNone, Tg.put, Tg.puts, sh0, sh1, sh2, sh3, sh4, sh5, sh6, sh7, sh8, sh9, sh10, sh11, sh12, sh13, sh14, sh15, sh16, step_nx, step_ct, ptN, isN, Nat.add_one_sub_one, Nat.sub_self, Nat.zero_add, Nat.reduceAdd, Nat.reduceSub, ct]
  unfold plD
  generalize PyData.list (l.told.map ent) = L at c1
  generalize lgV l = V at fc fh fw c1
  simp only [F_Log_M_plain, f_Log_M_plain, runD, runO, out0, slots0, List.replicate, List.append_nil, List.cons_append, List.nil_append, List.length_cons, List.length_nil, retS, retC, retO, retN, seqS, ifS, asg, asgO, exprS, appS, setS, augS, asgT, asgL, raiseS, nxS, op1, op2, op2C, tst, andF, orF, ifF, andB, orB, notB, chF, cst, vr, frz, frC, lstC, tupF, consF, nilF, bltF, bltC, one_d, bind_ok, bind_er, bind_bad, then_ok, then_er, then_bad, opt_some, opt_none, Vl.get, Slot.get, Slot.put, Slot.cont, Slot.lst, Slot.mut, Slot.shal, stables, sh, gets, argD, argB, callF, callO, callC, callB, callW, pick, Pk.of, and_self, boxC, partF, slF, srcF, srcR1, srcR2, srcZ, forS, popF, noEr_ok, noEr_er, yes, List.getElem?_cons_zero, List.getElem?_cons_succ, List.set_cons_zero, List.set_cons_succ, Option.bind_some, Option.bind_none, Option.map_some, Option.map_none, if_true, if_false, Bool.false_eq_true, if_pos, List.map_cons, List.map_nil, add_int, sub_int, negD, notD, boolOf, isD, isntD, isNone, Tg.put, Tg.puts, sh0, sh1, sh2, sh3, sh4, sh5, sh6, sh7, sh8, sh9, sh10, sh11, sh12, sh13, sh14, sh15, sh16, step_nx, step_ct, ptN, isN, Nat.add_one_sub_one, Nat.sub_self, Nat.zero_add, Nat.reduceAdd, Nat.reduceSub, fc, fh, fw, c1]
theorem okN_pl : okN 3 (plD l) = true := by
  have e : okN 2 (.list (l.told.map ent)) = true := List.all_eq_true.mpr fun d mm => by
    obtain ⟨x, _, rfl⟩ := List.mem_map.mp mm
    rfl
  unfold plD
  generalize PyData.list (l.told.map ent) = L at e
  show (okN 2 (.int l.c) && (okN 2 (.int l.h) && (okN 2 (.int l.w) && (okN 2 L && true)))) = true
  rw [e]
  rfl
theorem log_eq (ol : l.Ok) (om : m.Ok) (e : plD l = plD m) : F_Log_M_eq [lgV l, lgV m] = .ok (.bool true) false .none := by
  have p1 := plain_eq ol
  have p2 := plain_eq om
  have q : eqD (plD l) (plD m) = some (.bool true) := by
    rw [e]
    exact eq_self (okN_eq (n := 3) (m := 3) (by decide) (by decide) okN_pl okN_pl)
  have i1 : isiOD "Log" (lgV m) = some (.bool true) := by kernel_rfl
  have c1 : callM "Log" "plain" [] F_Log_M_plain [] (vr 0) nilF [.val (lgV l), .val (lgV m)] = .ok (.st (plD l)) [.val (lgV l), .val (lgV m)] := callM_ok (fo := vr 0) (fa := nilF) (md := []) (dd := []) (ρ0 := [.val (lgV l), .val (lgV m)]) (xs := []) (ds := []) rfl (noAt _ (by decide +kernel)) rfl rfl p1
  have c2 : callM "Log" "plain" [] F_Log_M_plain [] (vr 1) nilF [.val (lgV l), .val (lgV m)] = .ok (.st (plD m)) [.val (lgV l), .val (lgV m)] := callM_ok (fo := vr 1) (fa := nilF) (md := []) (dd := []) (ρ0 := [.val (lgV l), .val (lgV m)]) (xs := []) (ds := []) rfl (noAt _ (by decide +kernel)) rfl rfl p2
  generalize plD l = A at c1 q
  generalize plD m = B at c2 q
  generalize lgV l = V at c1 c2
  generalize lgV m = U at c1 c2 i1
  simp only [F_Log_M_eq, f_Log_M_eq, runD, runO, out0, slots0, List.replicate, List.append_nil, List.cons_append, List.nil_append, List.length_cons, List.length_nil, retS, retC, retO, retN, seqS, ifS, asg, asgO, exprS, appS, setS, augS, asgT, asgL, raiseS, nxS, op1, op2, op2C, tst, andF, orF, ifF, andB, orB, notB, chF, cst, vr, frz, frC, lstC, tupF, consF, nilF, bltF, bltC, one_d, bind_ok, bind_er, bind_bad, then_ok, then_er, then_bad, opt_some, opt_none, Vl.get, Slot.get, Slot.put, Slot.cont, Slot.lst, Slot.mut, Slot.shal, stables, sh, gets, argD, argB, callF, callO, callC, callB, callW, pick, Pk.of, and_self, boxC, partF, slF, srcF, srcR1, srcR2, srcZ, forS, popF, noEr_ok, noEr_er, yes, List.getElem?_cons_zero, List.getElem?_cons_succ, List.set_cons_zero, List.set_cons_succ, Option.bind_some, Option.bind_none, Option.map_some, Option.map_none, if_true, if_false, Bool.false_eq_true, if_pos, List.map_cons, List.map_nil, add_int, sub_int, negD, notD, boolOf, isD, isntD, isNone, Tg.put, Tg.puts, sh0, sh1, sh2, sh3, sh4, sh5, sh6, sh7, sh8, sh9, sh10, sh11, sh12, sh13, sh14, sh15, sh16, step_nx, step_ct, ptN, isN, Nat.add_one_sub_one, Nat.sub_self, Nat.zero_add, Nat.reduceAdd, Nat.reduceSub, i1, c1, c2, q]
theorem eqO_log (ol : l.Ok) (om : m.Ok) (e : plD l = plD m) : eqOD "Log" F_Log_M_eq (lgV l) (lgV m) = some (.bool true) := by
  show (if ("Log" : Str) = "Log" ∧ ("Log" : Str) = "Log" then (match F_Log_M_eq [lgV l, lgV m] with
    | .ok (.bool b) false _ => some (PyData.bool b)
    | _ => none) else none) = _
  rw [if_pos ⟨rfl, rfl⟩, log_eq ol om e]
end
/-- the chart looks at the entries, not at their numbers -/
theorem grid_told (h w : Nat) (es : List (Int × E4)) (day : Int) : gridOf h w es day = (es.map (·.2)).foldl (fun g x => if x.1 ≤ day then cellPut g x.2.1.toNat x.2.2.1.toNat x.2.2.2 else g) (List.replicate h (List.replicate w (-2))) := by
  unfold gridOf
  rw [List.foldl_map]

/-! ### days and squares by draws -/
theorem law_day_run (b : Box) : ∃ d b', F__law_day (bD b) [] = .ok (.int d) false (bD b') ∧ 0 ≤ d ∧ d ≤ 999 := by
  have t9 := take_eq b (m := 9) (by decide) (by decide)
  have n9 := take_nn b (show (0 : Int) < 9 by decide)
  have l9 := take_lt b (show (0 : Int) < 9 by decide)
  generalize (take b 9).1 = x at t9 n9 l9
  generalize (take b 9).2 = b1 at t9
  have tk := take_eq b1 (m := 1000) (by decide) (by decide)
  have nk := take_nn b1 (show (0 : Int) < 1000 by decide)
  have lk := take_lt b1 (show (0 : Int) < 1000 by decide)
  generalize (take b1 1000).1 = y at tk nk lk
  generalize (take b1 1000).2 = b2 at tk
  have t5 := take_eq b2 (m := 5) (by decide) (by decide)
  have n5 := take_nn b2 (show (0 : Int) < 5 by decide)
  have l5 := take_lt b2 (show (0 : Int) < 5 by decide)
  generalize (take b2 5).1 = i at t5 n5 l5
  generalize (take b2 5).2 = b3 at t5
  have ix := ixp5 (a0 := 0) (a1 := 5) (a2 := x) (a3 := y) (a4 := 999) n5 l5
  refine ⟨[0, 5, x, y, 999].getD i.toNat 0, b3, ?_, ?_⟩
  · generalize [0, 5, x, y, 999].getD i.toNat 0 = z at ix
    simp only [F__law_day, f__law_day, runD, runO, out0, slots0, List.replicate, List.append_nil, List.cons_append, List.nil_append, List.length_cons, List.length_nil, retS, retC, retO, retN, seqS, ifS, asg, asgO, exprS, appS, setS, augS, asgT, asgL, raiseS, nxS, op1, op2, op2C, tst, andF, orF, ifF, andB, orB, notB, chF, cst, vr, frz, frC, lstC, tupF, consF, nilF, bltF, bltC, one_d, bind_ok, bind_er, bind_bad, then_ok, then_er, then_bad, opt_some, opt_none, Vl.get, Slot.get, Slot.put, Slot.cont, Slot.lst, Slot.mut, Slot.shal, stables, sh, gets, argD, argB, callF, callO, callC, callB, callW, pick, Pk.of, and_self, boxC, partF, slF, srcF, srcR1, srcR2, srcZ, forS, popF, noEr_ok, noEr_er, yes, List.getElem?_cons_zero, List.getElem?_cons_succ, List.set_cons_zero, List.set_cons_succ, Option.bind_some, Option.bind_none, Option.map_some, Option.map_none, if_true, if_false, Bool.false_eq_true, if_pos, List.map_cons, List.map_nil, add_int, sub_int, negD, notD, boolOf, isD, isntD, isNone, Tg.put, Tg.puts, sh0, sh1, sh2, sh3, sh4, sh5, sh6, sh7, sh8, sh9, sh10, sh11, sh12, sh13, sh14, sh15, sh16, step_nx, step_ct, ptN, isN, Nat.add_one_sub_one, Nat.sub_self, Nat.zero_add, Nat.reduceAdd, Nat.reduceSub, t9, tk, t5, ix]
  · obtain ⟨k, rfl⟩ := Int.eq_ofNat_of_zero_le n5
    rw [Int.toNat_natCast]
    have : k = 0 ∨ k = 1 ∨ k = 2 ∨ k = 3 ∨ k = 4 := by omega
    rcases this with rfl | rfl | rfl | rfl | rfl
    · show (0 : Int) ≤ 0 ∧ (0 : Int) ≤ 999
      omega
    · show (0 : Int) ≤ 5 ∧ (5 : Int) ≤ 999
      omega
    · show 0 ≤ x ∧ x ≤ 999
      omega
    · show 0 ≤ y ∧ y ≤ 999
      omega
    · show (0 : Int) ≤ 999 ∧ (999 : Int) ≤ 999
      omega
theorem law_one_run (b : Box) {c : Int} (h : Clk c) : ∃ v b', F__law_one (bD b) [.int c] = .ok (.int v) false (bD b') ∧ -2 ≤ v ∧ v < c := by
  have h3 := h.lo
  have h15 := h.hi
  have t1 := take_eq b (m := c) (by omega) (by omega)
  have n1 := take_nn b (show (0 : Int) < c by omega)
  have l1 := take_lt b (show (0 : Int) < c by omega)
  generalize (take b c).1 = x at t1 n1 l1
  generalize (take b c).2 = b1 at t1
  have t9 := take_eq b1 (m := 9) (by decide) (by decide)
  have n9 := take_nn b1 (show (0 : Int) < 9 by decide)
  generalize (take b1 9).1 = i at t9 n9
  generalize (take b1 9).2 = b2 at t9
  have m0 := Int.emod_nonneg i (show (5 : Int) ≠ 0 by decide)
  have m5 := Int.emod_lt_of_pos i (show (0 : Int) < 5 by decide)
  have md : modD (.int i) (.int 5) = some (.int (i % 5)) := mod_p (by decide)
  generalize i % 5 = j at m0 m5 md
  have ix := ixp5 (a0 := x) (a1 := -1) (a2 := -2) (a3 := 0) (a4 := c - 1) m0 m5
  refine ⟨[x, -1, -2, 0, c - 1].getD j.toNat 0, b2, ?_, ?_⟩
  · generalize [x, -1, -2, 0, c - 1].getD j.toNat 0 = z at ix
    simp only [F__law_one, f__law_one, runD, runO, out0, slots0, List.replicate, List.append_nil, List.cons_append, List.nil_append, List.length_cons, List.length_nil, retS, retC, retO, retN, seqS, ifS, asg, asgO, exprS, appS, setS, augS, asgT, asgL, raiseS, nxS, op1, op2, op2C, tst, andF, orF, ifF, andB, orB, notB, chF, cst, vr, frz, frC, lstC, tupF, consF, nilF, bltF, bltC, one_d, bind_ok, bind_er, bind_bad, then_ok, then_er, then_bad, opt_some, opt_none, Vl.get, Slot.get, Slot.put, Slot.cont, Slot.lst, Slot.mut, Slot.shal, stables, sh, gets, argD, argB, callF, callO, callC, callB, callW, pick, Pk.of, and_self, boxC, partF, slF, srcF, srcR1, srcR2, srcZ, forS, popF, noEr_ok, noEr_er, yes, List.getElem?_cons_zero, List.getElem?_cons_succ, List.set_cons_zero, List.set_cons_succ, Option.bind_some, Option.bind_none, Option.map_some, Option.map_none, if_true, if_false, Bool.false_eq_true, if_pos, List.map_cons, List.map_nil, add_int, sub_int, negD, notD, boolOf, isD, isntD, isNone, Tg.put, Tg.puts, sh0, sh1, sh2, sh3, sh4, sh5, sh6, sh7, sh8, sh9, sh10, sh11, sh12, sh13, sh14, sh15, sh16, step_nx, step_ct, ptN, isN, Nat.add_one_sub_one, Nat.sub_self, Nat.zero_add, Nat.reduceAdd, Nat.reduceSub, t1, t9, md, ix]
  · obtain ⟨k, rfl⟩ := Int.eq_ofNat_of_zero_le m0
    rw [Int.toNat_natCast]
    have : k = 0 ∨ k = 1 ∨ k = 2 ∨ k = 3 ∨ k = 4 := by omega
    rcases this with rfl | rfl | rfl | rfl | rfl
    · show -2 ≤ x ∧ x < c
      omega
    · show -2 ≤ (-1 : Int) ∧ (-1 : Int) < c
      omega
    · show -2 ≤ (-2 : Int) ∧ (-2 : Int) < c
      omega
    · show -2 ≤ (0 : Int) ∧ (0 : Int) < c
      omega
    · show -2 ≤ c - 1 ∧ c - 1 < c
      omega
/-! ### a log told a list of entries -/
structure Lt (c : Int) (H W : Nat) (l : Lg) (es : List E4) : Prop where
  g : l.Good H W
  c : l.c = c
  keys : l.rows.map (·.1) = (List.range es.length).map fun i : Nat => (i : Int) + 1
  vals : l.rows.map (·.2) = es
  after : l.after = (es.length : Int) + 1
theorem Lt.new {c : Int} {H W : Nat} {l : Lg} {es : List E4} (q : Lt c H W l es) : l.after ∉ l.rows.map (·.1) := by
  rw [q.keys, q.after]
  intro m
  obtain ⟨i, mi, e⟩ := List.mem_map.mp m
  have := List.mem_range.mp mi
  omega
theorem Lt.rows_len {c : Int} {H W : Nat} {l : Lg} {es : List E4} (q : Lt c H W l es) : l.rows.length = es.length := by
  rw [← q.vals, List.length_map]
theorem Lt.zero {c : Int} {H W : Nat} (h9 : H ≤ 9) (w9 : W ≤ 9) : Lt c H W ⟨c, H, W, [], 1⟩ [] := ⟨⟨⟨List.nodup_nil, Nat.zero_le _⟩, rfl, rfl, h9, w9, fun x m => absurd m List.not_mem_nil⟩, rfl, rfl, rfl, rfl⟩
theorem Lt.add {c : Int} {H W : Nat} {l : Lg} {es : List E4} (q : Lt c H W l es) (hk : es.length < 1000) {e : E4} (on : l.on e.2.1 e.2.2.1) : Lt c H W (l.add e) (es ++ [e]) := by
  have nw := iput_new (m := l.rows) (k := l.after) e (iget_none q.new)
  have rw_ : (l.add e).rows = l.rows ++ [(l.after, e)] := nw
  have kk : (l.add e).rows.map (·.1) = (List.range (es ++ [e]).length).map fun i : Nat => (i : Int) + 1 := by
    rw [rw_, List.map_append, q.keys, List.length_append, List.length_cons, List.length_nil, List.range_succ, List.map_append, q.after]
    rfl
  refine ⟨⟨⟨?_, ?_⟩, q.g.h, q.g.w, q.g.h9, q.g.w9, fun x mx => ?_⟩, q.c, kk, ?_, ?_⟩
  · rw [kk]
    exact List.pairwise_map.mpr (List.nodup_range.imp fun h e => h (by omega))
  · rw [rw_, List.length_append, q.rows_len]
    simp only [List.length_cons, List.length_nil]
    omega
  · rw [rw_] at mx
    rcases List.mem_append.mp mx with mx | mx
    · exact q.g.on x mx
    · rw [List.mem_singleton.mp mx]
      exact on
  · rw [rw_, List.map_append, q.vals]
    rfl
  · show l.after + 1 = _
    rw [q.after, List.length_append]
    simp only [List.length_cons, List.length_nil]
    omega
theorem Lt.told_days {c : Int} {H W : Nat} {l : Lg} {es : List E4} (q : Lt c H W l es) (hd : es.Pairwise fun x y => x.1 ≤ y.1) : l.told = es := by
  have e0 : l.rows.map (fun x => ((x.2.1, x.1) : Sq)) = sortB SrtO.lexB (l.rows.map fun x => ((x.2.1, x.1) : Sq)) := by
    rw [sortB_P]
    refine psorted_one (psort_perm _).symm ?_ (psort_sorted _)
    have k1 : l.rows.Pairwise fun x y => x.1 < y.1 := by
      have : (l.rows.map (·.1)).Pairwise (· < ·) := by
        rw [q.keys]
        exact List.pairwise_map.mpr (List.pairwise_lt_range.imp fun h => by omega)
      exact List.pairwise_map.mp this
    have k2 : l.rows.Pairwise fun x y => x.2.1 ≤ y.2.1 := by
      rw [← q.vals] at hd
      exact (List.pairwise_map (f := fun x : Int × E4 => x.2)).mp hd
    refine List.pairwise_map.mpr ((k1.and k2).imp fun h => leP_iff.mpr ?_)
    obtain ⟨h1, h2⟩ := h
    dsimp only
    omega
  unfold Lg.told Lg.ents
  rw [← e0, List.map_map, List.map_map, ← q.vals]
  refine List.map_congr_left fun x mx => ?_
  show (iget l.rows x.1).getD (0, 0, 0, 0) = x.2
  rw [iget_of q.g.ok.nd mx]
  rfl
theorem told_same {l m : Lg} (ol : l.Ok) (om : m.Ok) (d : (l.rows.map (·.2.1)).Nodup) (p : (l.rows.map (·.2)).Perm (m.rows.map (·.2))) : l.told = m.told := by
  have d2 : (m.rows.map (·.2.1)).Nodup := by
    have := (p.map (·.1)).nodup_iff.mp (by rw [List.map_map]; exact d)
    rw [List.map_map] at this
    exact this
  exact srt_uniq (told_srt ol d) (told_srt om d2) ((told_perm ol).trans (p.trans (told_perm om).symm))
theorem strip_V (l : Lg) : DL.strip (lgV l) = lgV l := by
  rw [DL.strip]
  all_goals (intro ds h; simp at h)
/-! ### logs in a list -/
abbrev trL (ls : List Lg) : List D := ls.map fun l => bx (lgT l)
theorem callMP_ok {i : Nat} {g : En → Option (List Nat)} {c m : Str} {F : D → List D → R} {dd : List D} {hs : En → Option (List D)} {ρ : En} {s : DL.Slot} {path : List Nat} {zs : List D} {d : D} {kvs : List (D × D)} {y c1 : D} (h0 : ρ[i]? = some s) (hg : g ρ = some path) (hz : hs ρ = some zs) (ht : s.tree = some d)
    (hi : getIn d path = some (.dict ((.none, .str c) :: kvs))) (hk : fldIx m kvs = none) (e : F (.dict ((.none, .str c) :: kvs)) (zs ++ dd) = .ok y false c1) : callMP i g c m F dd hs ρ = .ok (.st y) (ρ.set i (s.putT (setIn d path c1))) := by
  unfold callMP
  rw [h0, hg, hz]
  try dsimp only
  rw [ht]
  try dsimp only
  rw [hi]
  try dsimp only
  rw [if_pos ⟨rfl, hk⟩, e]
theorem ixR_in {i k : Nat} {ρ : En} {h : En → Option D} {ds : List D} {d : D} (hs : ρ[i]? = some (.tre (.list ds))) (hh : h ρ = some (.int (k : Int))) (hk : ds[k]? = some (bx d)) : ixR i (fun _ => some []) h ρ = some [k] := by
  have hk1 := (List.getElem?_eq_some_iff.mp hk).1
  unfold ixR
  rw [hs, hh]
  simp only [Option.bind_some, Slot.tree, getIn, ixN_nat hk1, hk, unbox_bx, List.nil_append]
theorem get_in1 {ds : List D} {k : Nat} {d : D} (hk : ds[k]? = some (bx d)) : getIn (.list ds) [k] = some d := by
  simp only [getIn, kids, hk, Option.bind_some, unbox_bx]
theorem set_in1 {ds : List D} {k : Nat} {d : D} (hk : ds[k]? = some (bx d)) (c' : D) : setIn (.list ds) [k] c' = .list (ds.set k (bx c')) := by
  simp only [setIn, kids, hk, Option.bind_some, unbox_bx, withKids]
theorem trL_at {ls : List Lg} {j : Nat} {l : Lg} (h : ls[j]? = some l) : (trL ls)[j]? = some (bx (lgT l)) := by
  rw [List.getElem?_map, h]
  rfl
theorem set_same {α : Type} : ∀ {ls : List α} {j : Nat} {l : α}, ls[j]? = some l → ls.set j l = ls
  | x :: xs, 0, l, h => by cases h; rfl
  | x :: xs, j + 1, l, h => by
    rw [List.set_cons_succ, set_same (ls := xs) (j := j) (l := l) h]
theorem tell_in {i j : Nat} {ρ : En} {h7 : En → Option D} {hs : En → Option (List D)} {dd : List D} {ls : List Lg} {l : Lg} {d r k o : Int} {zs : List D} (h0 : ρ[i]? = some (.tre (.list (trL ls)))) (hj : ls[j]? = some l) (h7e : h7 ρ = some (.int (j : Int))) (hz : hs ρ = some zs) (zd : zs ++ dd = [.int r, .int k, .int o, .int d])
    (h1 : l.on r k) (h2 : -2 ≤ o ∧ o < l.c) (h3 : 0 ≤ d ∧ d ≤ 999) (h4 : l.rows.length < 200) :
    exprS (callMP i (ixR i (fun _ => some []) h7) "Log" "add" F_Log_M_add dd hs) ρ = .nx (ρ.set i (.tre (.list (trL (ls.set j (l.add (d, r, k, o))))))) := by
  have hk := trL_at hj
  have fx : fldIx "add" (lgK l (bx (itD ent l.rows))) = none := by kernel_rfl
  have ad := add_ok h1 h2 h3 h4
  rw [← zd] at ad
  have e := callMP_ok (dd := dd) (m := "add") h0 (ixR_in h0 h7e hk) hz rfl (get_in1 hk) fx ad
  rw [set_in1 hk] at e
  have m : (trL ls).set j (bx (lgT (l.add (d, r, k, o)))) = trL (ls.set j (l.add (d, r, k, o))) := by
    unfold trL
    rw [List.map_set]
  rw [m] at e
  exact exprS_ok e
theorem frz_in {i j : Nat} {ρ : En} {h : En → Option D} {ds : List D} {x v : D} (h0 : ρ[i]? = some (.tre (.list ds))) (hh : h ρ = some (.int (j : Int))) (hk : ds[j]? = some x) (hv : DL.strip x = v) : frzIx i (fun _ => some []) h ρ = .ok (.st v) (ρ.set i (.tre (.list (ds.set j v)))) := by
  have hk1 := (List.getElem?_eq_some_iff.mp hk).1
  unfold frzIx
  rw [h0, hh]
  try dsimp only
  rw [show getIn (.list ds) [] = some (.list ds) from rfl]
  try dsimp only
  rw [ixN_nat hk1]
  try dsimp only
  rw [hk]
  try dsimp only
  rw [hv]
  rfl
/-! ### k35 -/
def rwD (e : E4) : D := .tuple [.int e.2.1, .int e.2.2.1, .int e.2.2.2, .int e.1]
abbrev w5S (a : Addr) (b : Box) (c : Int) (s3 s4 s5 s6 s7 s8 s9 s10 s11 s12 s13 : DL.Slot) : En := [.fn a, .own (bD b), .val (.int c), s3, s4, s5, s6, s7, s8, s9, s10, s11, s12, s13]
def eOk (c : Int) (e : E4) : Prop := (0 ≤ e.2.1 ∧ e.2.1 < 3) ∧ (0 ≤ e.2.2.1 ∧ e.2.2.1 < 3) ∧ -2 ≤ e.2.2.2 ∧ e.2.2.2 < c
structure Rw5 (c : Int) (es : List E4) (d : Int) (k : Nat) : Prop where
  len : es.length = k
  srt : es.Pairwise fun x y => x.1 < y.1
  lt : ∀ e ∈ es, 0 ≤ e.1 ∧ e.1 < d
  ok : ∀ e ∈ es, eOk c e
  d0 : 0 ≤ d
  d1 : d ≤ 8 + 30 * k
theorem rows1 (a : Addr) (b : Box) {c : Int} (hc : Clk c) {es : List E4} {d : Int} {k : Nat} (q : Rw5 c es d k) (hk : k < 100) (s5 s6 s7 s8 s9 s10 s11 s12 s13 : DL.Slot) :
    ∃ b' es' d', Rw5 c es' d' (k + 1) ∧ B_law_1 (w5S a b c (.own (.list (es.map rwD))) (.val (.int d)) s5 s6 s7 s8 s9 s10 s11 s12 s13) = .nx (w5S a b' c (.own (.list (es'.map rwD))) (.val (.int d')) s5 s6 s7 s8 s9 s10 s11 s12 s13) := by
  have t3 := take_eq b (m := 3) (by decide) (by decide)
  have n3 := take_nn b (show (0 : Int) < 3 by decide)
  have l3 := take_lt b (show (0 : Int) < 3 by decide)
  generalize (take b 3).1 = r at t3 n3 l3
  generalize (take b 3).2 = b1 at t3
  have u3 := take_eq b1 (m := 3) (by decide) (by decide)
  have m3 := take_nn b1 (show (0 : Int) < 3 by decide)
  have k3 := take_lt b1 (show (0 : Int) < 3 by decide)
  generalize (take b1 3).1 = p at u3 m3 k3
  generalize (take b1 3).2 = b2 at u3
  obtain ⟨o, b3, eo, o1, o2⟩ := law_one_run b2 hc
  have t30 := take_eq b3 (m := 30) (by decide) (by decide)
  have n30 := take_nn b3 (show (0 : Int) < 30 by decide)
  have l30 := take_lt b3 (show (0 : Int) < 30 by decide)
  generalize (take b3 30).1 = t at t30 n30 l30
  generalize (take b3 30).2 = b4 at t30
  have hl : (es.map rwD).length < 100000 := by rw [List.length_map, q.len]; omega
  have e3 : (es ++ [((d, r, p, o) : E4)]).map rwD = es.map rwD ++ [.tuple [.int r, .int p, .int o, .int d]] := by rw [List.map_append]; rfl
  refine ⟨b4, es ++ [(d, r, p, o)], d + 1 + t, ⟨?_, ?_, ?_, ?_, ?_, ?_⟩, ?_⟩
  · rw [List.length_append, q.len]; rfl
  · refine List.pairwise_append.mpr ⟨q.srt, List.pairwise_singleton .., fun x mx y my => ?_⟩
    rw [List.mem_singleton.mp my]
    exact (q.lt x mx).2
  · intro e me
    have h0 := q.d0
    rcases List.mem_append.mp me with me | me
    · have := q.lt e me
      omega
    · rw [List.mem_singleton.mp me]
      dsimp only
      omega
  · intro e me
    rcases List.mem_append.mp me with me | me
    · exact q.ok e me
    · rw [List.mem_singleton.mp me]
      exact ⟨⟨n3, l3⟩, ⟨m3, k3⟩, o1, o2⟩
  · have h0 := q.d0
    omega
  · have h0 := q.d1
    omega
  · rw [e3]
    generalize es.map rwD = L at hl ⊢
    simp only [B_law_1, w5S, runD, runO, out0, slots0, List.replicate, List.append_nil, List.cons_append, List.nil_append, List.length_cons, List.length_nil, retS, retC, retO, retN, seqS, ifS, asg, asgO, exprS, appS, setS, augS, asgT, asgL, raiseS, nxS, op1, op2, op2C, tst, andF, orF, ifF, andB, orB, notB, chF, cst, vr, frz, frC, lstC, tupF, consF, nilF, bltF, bltC, one_d, bind_ok, bind_er, bind_bad, then_ok, then_er, then_bad, opt_some, opt_none, Vl.get, Slot.get, Slot.put, Slot.cont, Slot.lst, Slot.mut, Slot.shal, stables, sh, gets, argD, argB, callF, callO, callC, callB, callW, pick, Pk.of, and_self, boxC, partF, slF, srcF, srcR1, srcR2, srcZ, forS, popF, noEr_ok, noEr_er, yes, List.getElem?_cons_zero, List.getElem?_cons_succ, List.set_cons_zero, List.set_cons_succ, Option.bind_some, Option.bind_none, Option.map_some, Option.map_none, if_true, if_false, Bool.false_eq_true, if_pos, List.map_cons, List.map_nil, add_int, sub_int, negD, notD, boolOf, isD, isntD, isNone, Tg.put, Tg.puts, sh0, sh1, sh2, sh3, sh4, sh5, sh6, sh7, sh8, sh9, sh10, sh11, sh12, sh13, sh14, sh15, sh16, step_nx, step_ct, ptN, isN, Nat.add_one_sub_one, Nat.sub_self, Nat.zero_add, Nat.reduceAdd, Nat.reduceSub, t3, u3, eo, t30, hl]
abbrev pt4 : Tg := .tp [(.nm 8), (.nm 9), (.nm 10), (.nm 11)]
theorem tell_loop (a : Addr) (b : Box) {c : Int} {j : Nat} (s3 s4 s5 s12 s13 : DL.Slot) : ∀ (zs : List E4) (ls : List Lg) (l : Lg) (es : List E4) (s8 s9 s10 s11 : DL.Slot), Lt c 3 3 l es → (∀ e ∈ zs, eOk c e ∧ 0 ≤ e.1 ∧ e.1 ≤ 999) → es.length + zs.length < 200 → ls[j]? = some l →
    ∃ l' y8 y9 y10 y11, Lt c 3 3 l' (es ++ zs) ∧ forLoop pt4 B_law_2 (zs.map rwD) (w5S a b c s3 s4 s5 (.tre (.list (trL ls))) (.val (.int (j : Int))) s8 s9 s10 s11 s12 s13) = .nx (w5S a b c s3 s4 s5 (.tre (.list (trL (ls.set j l')))) (.val (.int (j : Int))) y8 y9 y10 y11 s12 s13)
  | [], ls, l, es, s8, s9, s10, s11, q, _, _, hj => ⟨l, s8, s9, s10, s11, by rw [List.append_nil]; exact q, by rw [set_same hj]; rfl⟩
  | e :: zs, ls, l, es, s8, s9, s10, s11, q, hz, hl, hj => by
    obtain ⟨⟨e1, e2, e3⟩, e4, e5⟩ := hz e List.mem_cons_self
    rw [List.length_cons] at hl
    obtain ⟨d, r, k, o⟩ := e
    dsimp only at e1 e2 e3 e4 e5
    have on : l.on r k := ⟨e1.1, by rw [q.g.h]; exact e1.2, e2.1, by rw [q.g.w]; exact e2.2⟩
    have q2 := q.add (by omega) (e := (d, r, k, o)) on
    have tl := tell_in (i := 6) (ρ := w5S a b c s3 s4 s5 (.tre (.list (trL ls))) (.val (.int (j : Int))) (.val (.int r)) (.val (.int k)) (.val (.int o)) (.val (.int d)) s12 s13) (h7 := vrQ 7) (hs := consQ (vrQ 8) (consQ (vrQ 9) (consQ (vrQ 10) (consQ (vrQ 11) nilQ)))) (dd := []) (zs := [.int r, .int k, .int o, .int d]) rfl hj rfl rfl rfl on (by rw [q.c]; exact e3) ⟨e4, e5⟩ (by rw [q.rows_len]; omega)
    obtain ⟨l', y8, y9, y10, y11, q', e⟩ := tell_loop a b (c := c) (j := j) s3 s4 s5 s12 s13 zs (ls.set j (l.add (d, r, k, o))) (l.add (d, r, k, o)) (es ++ [(d, r, k, o)]) (.val (.int r)) (.val (.int k)) (.val (.int o)) (.val (.int d)) q2 (fun e m => hz e (List.mem_cons_of_mem _ m)) (by rw [List.length_append, List.length_cons, List.length_nil]; omega) (by
      rw [List.getElem?_set_self (List.getElem?_eq_some_iff.mp hj).1])
    rw [List.append_assoc] at q'
    rw [List.set_set] at e
    refine ⟨l', y8, y9, y10, y11, q', ?_⟩
    rw [List.map_cons]
    unfold forLoop
    rw [show Tg.put pt4 (rwD (d, r, k, o)) (w5S a b c s3 s4 s5 (.tre (.list (trL ls))) (.val (.int (j : Int))) s8 s9 s10 s11 s12 s13) = some (w5S a b c s3 s4 s5 (.tre (.list (trL ls))) (.val (.int (j : Int))) (.val (.int r)) (.val (.int k)) (.val (.int o)) (.val (.int d)) s12 s13) from rfl]
    dsimp only
    unfold B_law_2
    rw [tl]
    exact e
theorem frz_any {a : Addr} {b : Box} {c : Int} {s3 s4 s5 s6 s7 s8 s9 s10 s11 s12 s13 : DL.Slot} {R : D} (h : s3 = .own R ∨ s3 = .val R) : frz 3 (w5S a b c s3 s4 s5 s6 s7 s8 s9 s10 s11 s12 s13) = .ok (.st R) (w5S a b c (.val R) s4 s5 s6 s7 s8 s9 s10 s11 s12 s13) := by
  rcases h with rfl | rfl <;> rfl
theorem shuf_src {a : Addr} {b b' : Box} {c : Int} {s3 s4 s5 s6 s7 s8 s9 s10 s11 s12 s13 : DL.Slot} {R : D} {zs : List D} (h : s3 = .own R ∨ s3 = .val R) (e : F__law_shuffled (bD b) [R] = .ok (.list zs) true (bD b')) :
    srcF (callO [.p] F__law_shuffled [] (consF (vr 1) (consF (frz 3) nilF))) (w5S a b c s3 s4 s5 s6 s7 s8 s9 s10 s11 s12 s13) = .ok zs (w5S a b' c (.val R) s4 s5 s6 s7 s8 s9 s10 s11 s12 s13) := by
  refine srcF_list ?_
  have f := frz_any (a := a) (b := b) (c := c) (s4 := s4) (s5 := s5) (s6 := s6) (s7 := s7) (s8 := s8) (s9 := s9) (s10 := s10) (s11 := s11) (s12 := s12) (s13 := s13) h
  generalize PyData.list zs = Z at e
  generalize frz 3 = g at f ⊢
  simp only [w5S] at f ⊢
  simp only [runD, runO, out0, slots0, List.replicate, List.append_nil, List.cons_append, List.nil_append, List.length_cons, List.length_nil, retS, retC, retO, retN, seqS, ifS, asg, asgO, exprS, appS, setS, augS, asgT, asgL, raiseS, nxS, op1, op2, op2C, tst, andF, orF, ifF, andB, orB, notB, chF, cst, vr, frz, frC, lstC, tupF, consF, nilF, bltF, bltC, one_d, bind_ok, bind_er, bind_bad, then_ok, then_er, then_bad, opt_some, opt_none, Vl.get, Slot.get, Slot.put, Slot.cont, Slot.lst, Slot.mut, Slot.shal, stables, sh, gets, argD, argB, callF, callO, callC, callB, callW, pick, Pk.of, and_self, boxC, partF, slF, srcF, srcR1, srcR2, srcZ, forS, popF, noEr_ok, noEr_er, yes, List.getElem?_cons_zero, List.getElem?_cons_succ, List.set_cons_zero, List.set_cons_succ, Option.bind_some, Option.bind_none, Option.map_some, Option.map_none, if_true, if_false, Bool.false_eq_true, if_pos, List.map_cons, List.map_nil, add_int, sub_int, negD, notD, boolOf, isD, isntD, isNone, Tg.put, Tg.puts, sh0, sh1, sh2, sh3, sh4, sh5, sh6, sh7, sh8, sh9, sh10, sh11, sh12, sh13, sh14, sh15, sh16, step_nx, step_ct, ptN, isN, Nat.add_one_sub_one, Nat.sub_self, Nat.zero_add, Nat.reduceAdd, Nat.reduceSub, f, e]
/-- the table of what each square was told last -/
abbrev due5 (es : List E4) (m : List (Sq × Int)) : List (Sq × Int) := es.foldl (fun m e => tput m (e.2.1, e.2.2.1) e.2.2.2) m
theorem tput_len5 {α : Type} (m : List (Sq × α)) (p : Sq) (v : α) : (tput m p v).length ≤ m.length + 1 := by
  unfold tput
  split
  · rw [List.length_map]; omega
  · rw [List.length_append]; exact Nat.le_refl _
def at4 (e : E4) : E4 := (4, e.2)
theorem due_loop (a : Addr) (b : Box) {c : Int} (s3 s4 s5 s7 s13 : DL.Slot) : ∀ (zs : List E4) (ls : List Lg) (l : Lg) (es : List E4) (m : List (Sq × Int)) (s8 s9 s10 s11 : DL.Slot), Lt c 3 3 l es → (∀ e ∈ zs, eOk c e) → es.length + zs.length < 200 → m.length ≤ es.length → ls[2]? = some l →
    ∃ l' y8 y9 y10 y11, Lt c 3 3 l' (es ++ zs.map at4) ∧ forLoop pt4 B_law_4 (zs.map rwD) (w5S a b c s3 s4 s5 (.tre (.list (trL ls))) s7 s8 s9 s10 s11 (.own (tabD PyData.int m)) s13) = .nx (w5S a b c s3 s4 s5 (.tre (.list (trL (ls.set 2 l')))) s7 y8 y9 y10 y11 (.own (tabD PyData.int (due5 (zs.map at4) m))) s13)
  | [], ls, l, es, m, s8, s9, s10, s11, q, _, _, _, hj => ⟨l, s8, s9, s10, s11, by rw [List.map_nil, List.append_nil]; exact q, by rw [set_same hj]; rfl⟩
  | e :: zs, ls, l, es, m, s8, s9, s10, s11, q, hz, hl, hm, hj => by
    obtain ⟨e1, e2, e3⟩ := hz e List.mem_cons_self
    rw [List.length_cons] at hl
    obtain ⟨d, r, k, o⟩ := e
    dsimp only at e1 e2 e3
    have on : l.on r k := ⟨e1.1, by rw [q.g.h]; exact e1.2, e2.1, by rw [q.g.w]; exact e2.2⟩
    have q2 := q.add (by omega) (e := (4, r, k, o)) on
    have tl := tell_in (i := 6) (j := 2) (ρ := w5S a b c s3 s4 s5 (.tre (.list (trL ls))) s7 (.val (.int r)) (.val (.int k)) (.val (.int o)) (.val (.int d)) (.own (tabD PyData.int m)) s13) (h7 := fun _ => some (.int 2)) (hs := consQ (vrQ 8) (consQ (vrQ 9) (consQ (vrQ 10) (consQ (fun _ => some (.int 4)) nilQ)))) (dd := []) (zs := [.int r, .int k, .int o, .int 4]) rfl hj rfl rfl rfl on (by rw [q.c]; exact e3) (by decide) (by rw [q.rows_len]; omega)
    have pt := put_tab PyData.int (m := m) (p := (r, k)) (v := o) (by omega)
    have pu : dputS 12 (tupF (consF (vr 8) (consF (vr 9) nilF))) (vr 10) (w5S a b c s3 s4 s5 (.tre (.list (trL (ls.set 2 (l.add (4, r, k, o)))))) s7 (.val (.int r)) (.val (.int k)) (.val (.int o)) (.val (.int d)) (.own (tabD PyData.int m)) s13) = .nx (w5S a b c s3 s4 s5 (.tre (.list (trL (ls.set 2 (l.add (4, r, k, o)))))) s7 (.val (.int r)) (.val (.int k)) (.val (.int o)) (.val (.int d)) (.own (tabD PyData.int (tput m (r, k) o))) s13) := by
      have pt : dputD (tabD PyData.int m) (.tuple [.int r, .int k]) (.int o) = some (tabD PyData.int (tput m (r, k) o)) := pt
      generalize tabD PyData.int (tput m (r, k) o) = T2 at pt
      generalize tabD PyData.int m = T1 at pt
      generalize PyData.list (trL (ls.set 2 (l.add (4, r, k, o)))) = L
      simp only [w5S, dputS, runD, runO, out0, slots0, List.replicate, List.append_nil, List.cons_append, List.nil_append, List.length_cons, List.length_nil, retS, retC, retO, retN, seqS, ifS, asg, asgO, exprS, appS, setS, augS, asgT, asgL, raiseS, nxS, op1, op2, op2C, tst, andF, orF, ifF, andB, orB, notB, chF, cst, vr, frz, frC, lstC, tupF, consF, nilF, bltF, bltC, one_d, bind_ok, bind_er, bind_bad, then_ok, then_er, then_bad, opt_some, opt_none, Vl.get, Slot.get, Slot.put, Slot.cont, Slot.lst, Slot.mut, Slot.shal, stables, sh, gets, argD, argB, callF, callO, callC, callB, callW, pick, Pk.of, and_self, boxC, partF, slF, srcF, srcR1, srcR2, srcZ, forS, popF, noEr_ok, noEr_er, yes, List.getElem?_cons_zero, List.getElem?_cons_succ, List.set_cons_zero, List.set_cons_succ, Option.bind_some, Option.bind_none, Option.map_some, Option.map_none, if_true, if_false, Bool.false_eq_true, if_pos, List.map_cons, List.map_nil, add_int, sub_int, negD, notD, boolOf, isD, isntD, isNone, Tg.put, Tg.puts, sh0, sh1, sh2, sh3, sh4, sh5, sh6, sh7, sh8, sh9, sh10, sh11, sh12, sh13, sh14, sh15, sh16, step_nx, step_ct, ptN, isN, Nat.add_one_sub_one, Nat.sub_self, Nat.zero_add, Nat.reduceAdd, Nat.reduceSub, pt]
    obtain ⟨l', y8, y9, y10, y11, q', e⟩ := due_loop a b (c := c) s3 s4 s5 s7 s13 zs (ls.set 2 (l.add (4, r, k, o))) (l.add (4, r, k, o)) (es ++ [(4, r, k, o)]) (tput m (r, k) o) (.val (.int r)) (.val (.int k)) (.val (.int o)) (.val (.int d)) q2 (fun e m => hz e (List.mem_cons_of_mem _ m)) (by rw [List.length_append, List.length_cons, List.length_nil]; omega) (by
      have := tput_len5 m (r, k) o
      rw [List.length_append, List.length_cons, List.length_nil]
      omega) (by
      rw [List.getElem?_set_self (List.getElem?_eq_some_iff.mp hj).1])
    rw [List.append_assoc] at q'
    rw [List.set_set] at e
    refine ⟨l', y8, y9, y10, y11, q', ?_⟩
    rw [List.map_cons]
    unfold forLoop
    rw [show Tg.put pt4 (rwD (d, r, k, o)) (w5S a b c s3 s4 s5 (.tre (.list (trL ls))) s7 s8 s9 s10 s11 (.own (tabD PyData.int m)) s13) = some (w5S a b c s3 s4 s5 (.tre (.list (trL ls))) s7 (.val (.int r)) (.val (.int k)) (.val (.int o)) (.val (.int d)) (.own (tabD PyData.int m)) s13) from rfl]
    dsimp only
    unfold B_law_4
    rw [seq_nx tl, show (w5S a b c s3 s4 s5 (.tre (.list (trL ls))) s7 (.val (.int r)) (.val (.int k)) (.val (.int o)) (.val (.int d)) (.own (tabD PyData.int m)) s13).set 6 (.tre (.list (trL (ls.set 2 (l.add (4, r, k, o)))))) = w5S a b c s3 s4 s5 (.tre (.list (trL (ls.set 2 (l.add (4, r, k, o)))))) s7 (.val (.int r)) (.val (.int k)) (.val (.int o)) (.val (.int d)) (.own (tabD PyData.int m)) s13 from rfl, pu]
    exact e
/-! the grid of one day -/
abbrev putE (g : List (List Int)) (e : E4) : List (List Int) := cellPut g e.2.1.toNat e.2.2.1.toNat e.2.2.2
theorem cell_put {H W : Nat} {g : List (List Int)} (q : GdL H W g) {r k i j : Nat} (hr : r < H) (hk : k < W) (hi : i < H) (hj : j < W) (o : Int) : cell (cellPut g r k o) i j = if i = r ∧ j = k then o else cell g i j := by
  unfold cell cellPut
  have hl := q.len
  have hrow : (g.getD r []).length = W := q.rect _ (by
    rw [List.getD_eq_getElem?_getD, List.getElem?_eq_getElem (by omega)]
    exact List.getElem_mem _)
  by_cases e : i = r
  · subst e
    rw [List.getD_eq_getElem?_getD (l := g.set i _), List.getElem?_set_self (by omega), Option.getD_some]
    by_cases e2 : j = k
    · subst e2
      rw [List.getD_eq_getElem?_getD, List.getElem?_set_self (by omega), if_pos ⟨rfl, rfl⟩]
      rfl
    · rw [if_neg (fun z => e2 z.2), List.getD_eq_getElem?_getD, List.getElem?_set_ne (fun z => e2 z.symm), ← List.getD_eq_getElem?_getD]
  · rw [if_neg (fun z => e z.1), List.getD_eq_getElem?_getD (l := g.set r _), List.getElem?_set_ne (fun z => e z.symm), ← List.getD_eq_getElem?_getD (l := g)]
theorem fold_cell {c : Int} : ∀ (es : List E4) (g : List (List Int)) (m : List (Sq × Int)), GdL 3 3 g → (∀ r ∈ g, ∀ v ∈ r, -2 ≤ v ∧ v < c) → (∀ e ∈ es, eOk c e) → (∀ i j : Nat, i < 3 → j < 3 → cell g i j = (tget m ((i : Int), (j : Int))).getD (-2)) →
    GdL 3 3 (es.foldl putE g) ∧ (∀ r ∈ es.foldl putE g, ∀ v ∈ r, -2 ≤ v ∧ v < c) ∧ ∀ i j : Nat, i < 3 → j < 3 → cell (es.foldl putE g) i j = (tget (due5 es m) ((i : Int), (j : Int))).getD (-2)
  | [], g, m, q, hv, _, h => ⟨q, hv, h⟩
  | e :: es, g, m, q, hv, he, h => by
    obtain ⟨e1, e2, e3⟩ := he e List.mem_cons_self
    obtain ⟨d, r, k, o⟩ := e
    dsimp only at e1 e2 e3
    obtain ⟨r, rfl⟩ := Int.eq_ofNat_of_zero_le e1.1
    obtain ⟨k, rfl⟩ := Int.eq_ofNat_of_zero_le e2.1
    refine fold_cell es (cellPut g r k o) (tput m ((r : Int), (k : Int)) o) (q.put (by omega) k o) ?_ (fun e m => he e (List.mem_cons_of_mem _ m)) ?_
    · intro x mx v mv
      unfold cellPut at mx
      rcases List.mem_or_eq_of_mem_set mx with mx | rfl
      · exact hv x mx v mv
      · rcases List.mem_or_eq_of_mem_set mv with mv | rfl
        · refine hv (g.getD r []) ?_ v mv
          rw [List.getD_eq_getElem?_getD, List.getElem?_eq_getElem (by rw [q.len]; omega)]
          exact List.getElem_mem _
        · exact e3
    · intro i j hi hj
      rw [cell_put q (by omega) (by omega) hi hj, tget_put]
      by_cases z : i = r ∧ j = k
      · obtain ⟨rfl, rfl⟩ := z
        rw [if_pos ⟨rfl, rfl⟩, if_pos rfl]
        rfl
      · rw [if_neg z, if_neg (fun y => z (by
          have a1 := congrArg Prod.fst y
          have a2 := congrArg Prod.snd y
          dsimp only at a1 a2
          omega)), h i j hi hj]
theorem fold_le (es : List E4) (day : Int) (g : List (List Int)) (h : ∀ e ∈ es, e.1 ≤ day) : es.foldl (fun g x => if x.1 ≤ day then cellPut g x.2.1.toNat x.2.2.1.toNat x.2.2.2 else g) g = es.foldl putE g := by
  induction es generalizing g with
  | nil => rfl
  | cons e es ih =>
    rw [List.foldl_cons, List.foldl_cons, if_pos (h e List.mem_cons_self)]
    exact ih _ fun x m => h x (List.mem_cons_of_mem _ m)
theorem fold_gt (es : List E4) (day : Int) (g : List (List Int)) (h : ∀ e ∈ es, ¬ e.1 ≤ day) : es.foldl (fun g x => if x.1 ≤ day then cellPut g x.2.1.toNat x.2.2.1.toNat x.2.2.2 else g) g = g := by
  induction es generalizing g with
  | nil => rfl
  | cons e es ih =>
    rw [List.foldl_cons, if_neg (h e List.mem_cons_self)]
    exact ih _ fun x m => h x (List.mem_cons_of_mem _ m)
theorem due_in {c : Int} {es : List E4} (he : ∀ e ∈ es, eOk c e) : Rc c 3 3 (es.foldl putE (List.replicate 3 (List.replicate 3 (-2)))) ∨ ¬ Clk c := by
  by_cases h : Clk c
  · refine .inl ?_
    have h3 := h.lo
    obtain ⟨q, v, _⟩ := fold_cell (c := c) es (List.replicate 3 (List.replicate 3 (-2))) [] ⟨rfl, by decide⟩ (fun r mr v mv => by
      rw [List.eq_of_mem_replicate mr] at mv
      rw [List.eq_of_mem_replicate mv]
      omega) he (fun i j hi hj => by
      have : i = 0 ∨ i = 1 ∨ i = 2 := by omega
      have : j = 0 ∨ j = 1 ∨ j = 2 := by omega
      rcases ‹i = 0 ∨ i = 1 ∨ i = 2› with rfl | rfl | rfl <;> rcases ‹j = 0 ∨ j = 1 ∨ j = 2› with rfl | rfl | rfl <;> rfl)
    exact ⟨h, q.len, by decide, by decide, by decide, by decide, q.rect, v⟩
  · exact .inr h
theorem due_cell {c : Int} (hc : Clk c) {es : List E4} (he : ∀ e ∈ es, eOk c e) {p : Sq} (hp : (0 ≤ p.1 ∧ p.1 < 3) ∧ 0 ≤ p.2 ∧ p.2 < 3) : Rc c 3 3 (es.foldl putE (List.replicate 3 (List.replicate 3 (-2)))) ∧ whatI 3 3 (es.foldl putE (List.replicate 3 (List.replicate 3 (-2)))) p = (tget (due5 es []) p).getD (-2) := by
  refine ⟨(due_in he).resolve_right fun z => z hc, ?_⟩
  have h3 := hc.lo
  obtain ⟨q, v, h⟩ := fold_cell (c := c) es (List.replicate 3 (List.replicate 3 (-2))) [] ⟨rfl, by decide⟩ (fun r mr v mv => by
      rw [List.eq_of_mem_replicate mr] at mv
      rw [List.eq_of_mem_replicate mv]
      omega) he (fun i j hi hj => by
      have : i = 0 ∨ i = 1 ∨ i = 2 := by omega
      have : j = 0 ∨ j = 1 ∨ j = 2 := by omega
      rcases ‹i = 0 ∨ i = 1 ∨ i = 2› with rfl | rfl | rfl <;> rcases ‹j = 0 ∨ j = 1 ∨ j = 2› with rfl | rfl | rfl <;> rfl)
  obtain ⟨p1, p2⟩ := p
  obtain ⟨⟨a1, a2⟩, a3, a4⟩ := hp
  dsimp only at a1 a2 a3 a4
  obtain ⟨i, rfl⟩ := Int.eq_ofNat_of_zero_le a1
  obtain ⟨j, rfl⟩ := Int.eq_ofNat_of_zero_le a3
  unfold whatI
  rw [if_pos ⟨a1, a2, a3, a4⟩]
  exact h i j (by omega) (by omega)
abbrev sq9 : List Sq := [(0, 0), (0, 1), (0, 2), (1, 0), (1, 1), (1, 2), (2, 0), (2, 1), (2, 2)]
theorem law_true (a : Addr) (ns : List Int) (hns : ns.length ≤ 63) (hb : ∀ z ∈ ns, Builtin.Int.intBits z ≤ 1048576) : ∃ ρ1, f_law a ns (.fn a :: List.replicate (N_law.length - 1) .un) = .rt (.bool true) false ρ1 := by
  have E0 : (.fn a :: List.replicate (N_law.length - 1) .un : En) = [.fn a, .un, .un, .un, .un, .un, .un, .un, .un, .un, .un, .un, .un, .un] := rfl
  rw [E0]
  unfold f_law
  refine Rt.seq (P := fun ρ => ρ = [.fn a, .own (bD (box0 ns)), .un, .un, .un, .un, .un, .un, .un, .un, .un, .un, .un, .un]) ⟨_, box_start a ns _, rfl⟩ ?_
  rintro ρ rfl
  have cl := clock_eq (box0 ns)
  have hc := clkOf_clk (box0 ns)
  generalize clkOf (box0 ns) = c at cl hc
  generalize (take (box0 ns) 7).2 = b1 at cl
  refine Rt.seq (P := fun ρ => ρ = w5S a b1 c .un .un .un .un .un .un .un .un .un .un .un) ⟨_, by simp only [w5S, runD, runO, out0, slots0, List.replicate, List.append_nil, List.cons_append, List.nil_append, List.length_cons, List.length_nil, retS, retC, retO, retN, seqS, ifS, asg, asgO, exprS, appS, setS, augS, asgT, asgL, raiseS, nxS, op1, op2, op2C, tst, andF, orF, ifF, andB, orB, notB, chF, cst, vr, frz, frC, lstC, tupF, consF, nilF, bltF, bltC, one_d, bind_ok, bind_er, bind_bad, then_ok, then_er, then_bad, opt_some, opt_none, Vl.get, Slot.get, Slot.put, Slot.cont, Slot.lst, Slot.mut, Slot.shal, stables, sh, gets, argD, argB, callF, callO, callC, callB, callW, pick, Pk.of, and_self, boxC, partF, slF, srcF, srcR1, srcR2, srcZ, forS, popF, noEr_ok, noEr_er, yes, List.getElem?_cons_zero, List.getElem?_cons_succ, List.set_cons_zero, List.set_cons_succ, Option.bind_some, Option.bind_none, Option.map_some, Option.map_none, if_true, if_false, Bool.false_eq_true, if_pos, List.map_cons, List.map_nil, add_int, sub_int, negD, notD, boolOf, isD, isntD, isNone, Tg.put, Tg.puts, sh0, sh1, sh2, sh3, sh4, sh5, sh6, sh7, sh8, sh9, sh10, sh11, sh12, sh13, sh14, sh15, sh16, step_nx, step_ct, ptN, isN, Nat.add_one_sub_one, Nat.sub_self, Nat.zero_add, Nat.reduceAdd, Nat.reduceSub, cl], rfl⟩ ?_
  rintro ρ rfl
  refine Rt.seq (P := fun ρ => ρ = w5S a b1 c (.own (.list [])) .un .un .un .un .un .un .un .un .un .un) ⟨_, rfl, rfl⟩ ?_
  rintro ρ rfl
  have t9 := take_eq b1 (m := 9) (by decide) (by decide)
  have n9 := take_nn b1 (show (0 : Int) < 9 by decide)
  have l9 := take_lt b1 (show (0 : Int) < 9 by decide)
  generalize (take b1 9).1 = d0 at t9 n9 l9
  generalize (take b1 9).2 = b2 at t9
  refine Rt.seq (P := fun ρ => ρ = w5S a b2 c (.own (.list (([] : List E4).map rwD))) (.val (.int d0)) .un .un .un .un .un .un .un .un .un) ⟨_, by simp only [w5S, runD, runO, out0, slots0, List.replicate, List.append_nil, List.cons_append, List.nil_append, List.length_cons, List.length_nil, retS, retC, retO, retN, seqS, ifS, asg, asgO, exprS, appS, setS, augS, asgT, asgL, raiseS, nxS, op1, op2, op2C, tst, andF, orF, ifF, andB, orB, notB, chF, cst, vr, frz, frC, lstC, tupF, consF, nilF, bltF, bltC, one_d, bind_ok, bind_er, bind_bad, then_ok, then_er, then_bad, opt_some, opt_none, Vl.get, Slot.get, Slot.put, Slot.cont, Slot.lst, Slot.mut, Slot.shal, stables, sh, gets, argD, argB, callF, callO, callC, callB, callW, pick, Pk.of, and_self, boxC, partF, slF, srcF, srcR1, srcR2, srcZ, forS, popF, noEr_ok, noEr_er, yes, List.getElem?_cons_zero, List.getElem?_cons_succ, List.set_cons_zero, List.set_cons_succ, Option.bind_some, Option.bind_none, Option.map_some, Option.map_none, if_true, if_false, Bool.false_eq_true, if_pos, List.map_cons, List.map_nil, add_int, sub_int, negD, notD, boolOf, isD, isntD, isNone, Tg.put, Tg.puts, sh0, sh1, sh2, sh3, sh4, sh5, sh6, sh7, sh8, sh9, sh10, sh11, sh12, sh13, sh14, sh15, sh16, step_nx, step_ct, ptN, isN, Nat.add_one_sub_one, Nat.sub_self, Nat.zero_add, Nat.reduceAdd, Nat.reduceSub, t9], rfl⟩ ?_
  rintro ρ rfl
  refine Rt.seq (P := fun ρ => ∃ b es d s5 k, k ≤ 20 ∧ Rw5 c es d k ∧ ρ = w5S a b c (.own (.list (es.map rwD))) (.val (.int d)) s5 .un .un .un .un .un .un .un .un) ?_ ?_
  · have t21 := take_eq b2 (m := 21) (by decide) (by decide)
    have n21 := take_nn b2 (show (0 : Int) < 21 by decide)
    have l21 := take_lt b2 (show (0 : Int) < 21 by decide)
    generalize (take b2 21).1 = n at t21 n21 l21
    generalize (take b2 21).2 = b3 at t21
    obtain ⟨n, rfl⟩ := Int.eq_ofNat_of_zero_le n21
    obtain ⟨ρ', e, r⟩ := for_inv (t := .nm 5) (body := B_law_1) (fun k : Nat => PyData.int (k : Int)) (fun k ρ => ∃ b es d s5, Rw5 c es d k ∧ ρ = w5S a b c (.own (.list (es.map rwD))) (.val (.int d)) s5 .un .un .un .un .un .un .un .un) (List.range n) (w5S a b3 c (.own (.list (([] : List E4).map rwD))) (.val (.int d0)) .un .un .un .un .un .un .un .un .un) ⟨_, _, _, _, ⟨rfl, List.Pairwise.nil, fun e m => absurd m List.not_mem_nil, fun e m => absurd m List.not_mem_nil, n9, by omega⟩, rfl⟩ (by
      rintro k x ρ hx ⟨b, es, d, s5, q, rfl⟩
      have hk := (List.getElem?_eq_some_iff.mp hx).1
      rw [List.length_range] at hk
      refine ⟨w5S a b c (.own (.list (es.map rwD))) (.val (.int d)) (.val (.int (x : Int))) .un .un .un .un .un .un .un .un, rfl, ?_⟩
      obtain ⟨b', es', d', q', e⟩ := rows1 a b hc q (by omega) (.val (.int (x : Int))) .un .un .un .un .un .un .un .un
      rw [e]
      exact ⟨_, _, _, _, q', rfl⟩)
    rw [List.length_range] at r
    obtain ⟨b, es, d, s5, q, rfl⟩ := r
    refine Nx.eq (ρ' := w5S a b c (.own (.list (es.map rwD))) (.val (.int d)) s5 .un .un .un .un .un .un .un .un) ?_ ⟨_, _, _, _, n, by omega, q, rfl⟩
    unfold L_law_1
    rw [for_src (srcR1_nat (n := n) (ρ1 := w5S a b3 c (.own (.list (([] : List E4).map rwD))) (.val (.int d0)) .un .un .un .un .un .un .un .un .un) (by simp only [w5S, runD, runO, out0, slots0, List.replicate, List.append_nil, List.cons_append, List.nil_append, List.length_cons, List.length_nil, retS, retC, retO, retN, seqS, ifS, asg, asgO, exprS, appS, setS, augS, asgT, asgL, raiseS, nxS, op1, op2, op2C, tst, andF, orF, ifF, andB, orB, notB, chF, cst, vr, frz, frC, lstC, tupF, consF, nilF, bltF, bltC, one_d, bind_ok, bind_er, bind_bad, then_ok, then_er, then_bad, opt_some, opt_none, Vl.get, Slot.get, Slot.put, Slot.cont, Slot.lst, Slot.mut, Slot.shal, stables, sh, gets, argD, argB, callF, callO, callC, callB, callW, pick, Pk.of, and_self, boxC, partF, slF, srcF, srcR1, srcR2, srcZ, forS, popF, noEr_ok, noEr_er, yes, List.getElem?_cons_zero, List.getElem?_cons_succ, List.set_cons_zero, List.set_cons_succ, Option.bind_some, Option.bind_none, Option.map_some, Option.map_none, if_true, if_false, Bool.false_eq_true, if_pos, List.map_cons, List.map_nil, add_int, sub_int, negD, notD, boolOf, isD, isntD, isNone, Tg.put, Tg.puts, sh0, sh1, sh2, sh3, sh4, sh5, sh6, sh7, sh8, sh9, sh10, sh11, sh12, sh13, sh14, sh15, sh16, step_nx, step_ct, ptN, isN, Nat.add_one_sub_one, Nat.sub_self, Nat.zero_add, Nat.reduceAdd, Nat.reduceSub, t21]) (by omega))]
    exact e
  rintro ρ ⟨b, es, d, s5, nk, hnk, q, rfl⟩
  clear cl t9 n9 l9 b1 b2 d0
  have len20 : es.length ≤ 20 := by rw [q.len]; exact hnk
  have hd := q.d1
  have eok : ∀ e ∈ es, eOk c e ∧ 0 ≤ e.1 ∧ e.1 ≤ 999 := fun e me => by
    have h1 := q.lt e me
    exact ⟨q.ok e me, h1.1, by omega⟩
  have l0 : Lt c 3 3 ⟨c, 3, 3, [], 1⟩ [] := Lt.zero (by decide) (by decide)
  have mk : ∀ (b : Box) (s3 s4 s5 s6 s7 s8 s9 s10 s11 s12 s13 : DL.Slot), mkT "Log" [.p, .p, .p] F_Log_M_init [] (consF (vr 2) (consF (cst (.int 3)) (consF (cst (.int 3)) nilF))) (w5S a b c s3 s4 s5 s6 s7 s8 s9 s10 s11 s12 s13) = .ok (lgT ⟨c, 3, 3, [], 1⟩) (w5S a b c s3 s4 s5 s6 s7 s8 s9 s10 s11 s12 s13) := fun b s3 s4 s5 s6 s7 s8 s9 s10 s11 s12 s13 =>
    mkT_ok (xs := [.st (.int c), .st (.int 3), .st (.int 3)]) (ds := [.int c, .int 3, .int 3]) rfl rfl (init_ok hc.is (by decide) (by decide))
  refine Rt.seq (P := fun ρ => ρ = w5S a b c (.own (.list (es.map rwD))) (.val (.int d)) s5 (.tre (.list (trL [⟨c, 3, 3, [], 1⟩, ⟨c, 3, 3, [], 1⟩, ⟨c, 3, 3, [], 1⟩]))) .un .un .un .un .un .un .un) ⟨_, by
    have m := mk b (.own (.list (es.map rwD))) (.val (.int d)) s5 .un .un .un .un .un .un .un .un
    show asgTr _ _ _ = .nx (w5S a b c (.own (.list (es.map rwD))) (.val (.int d)) s5 (.tre (.list [bx (lgT ⟨c, 3, 3, [], 1⟩), bx (lgT ⟨c, 3, 3, [], 1⟩), bx (lgT ⟨c, 3, 3, [], 1⟩)])) .un .un .un .un .un .un .un)
    generalize lgT ⟨c, 3, 3, [], 1⟩ = T0 at m
    generalize PyData.list (es.map rwD) = R at m
    simp only [asgTr, lstT, consT, nilT, m, bind_ok, then_ok, sh3, if_true]
    rfl, rfl⟩ ?_
  rintro ρ rfl
  refine Rt.seq (P := fun ρ => ∃ b s3 A B C s7 s8 s9 s10 s11, (s3 = .own (.list (es.map rwD)) ∨ s3 = .val (.list (es.map rwD))) ∧ (∃ zs, zs.Perm es ∧ Lt c 3 3 A zs) ∧ (∃ zs, zs.Perm es ∧ Lt c 3 3 B zs) ∧ Lt c 3 3 C [] ∧ ρ = w5S a b c s3 (.val (.int d)) s5 (.tre (.list (trL [A, B, C]))) s7 s8 s9 s10 s11 .un .un) ?_ ?_
  · obtain ⟨ρ', e, r⟩ := for_inv (t := .nm 7) (body := B_law_3) (fun k : Nat => PyData.int (k : Int)) (fun k ρ => ∃ b s3 ls s7 s8 s9 s10 s11, (s3 = .own (.list (es.map rwD)) ∨ s3 = .val (.list (es.map rwD))) ∧ ls.length = 3 ∧ (∀ j, j < k → ∃ l zs, ls[j]? = some l ∧ zs.Perm es ∧ Lt c 3 3 l zs) ∧ (∀ j, k ≤ j → j < 3 → ls[j]? = some ⟨c, 3, 3, [], 1⟩) ∧ ρ = w5S a b c s3 (.val (.int d)) s5 (.tre (.list (trL ls))) s7 s8 s9 s10 s11 .un .un) (List.range 2) (w5S a b c (.own (.list (es.map rwD))) (.val (.int d)) s5 (.tre (.list (trL [⟨c, 3, 3, [], 1⟩, ⟨c, 3, 3, [], 1⟩, ⟨c, 3, 3, [], 1⟩]))) .un .un .un .un .un .un .un) ⟨_, _, _, _, _, _, _, _, .inl rfl, rfl, fun j h => absurd h (Nat.not_lt_zero _), fun j _ h => by
        have : j = 0 ∨ j = 1 ∨ j = 2 := by omega
        rcases this with rfl | rfl | rfl <;> rfl, rfl⟩ (by
      rintro k x ρ hx ⟨b, s3, ls, s7, s8, s9, s10, s11, h3, hl, hd1, hn, rfl⟩
      have hk : k < 2 := by have := (List.getElem?_eq_some_iff.mp hx).1; rwa [List.length_range] at this
      have xk : x = k := by
        rw [List.getElem?_range hk] at hx
        exact (Option.some.inj hx).symm
      subst xk
      refine ⟨w5S a b c s3 (.val (.int d)) s5 (.tre (.list (trL ls))) (.val (.int (x : Int))) s8 s9 s10 s11 .un .un, rfl, ?_⟩
      obtain ⟨zs, b', pz, ez⟩ := shuffled_run rwD b es (by omega)
      obtain ⟨l', y8, y9, y10, y11, q', e⟩ := tell_loop a b' (c := c) (j := x) (.val (.list (es.map rwD))) (.val (.int d)) s5 .un .un zs ls _ [] s8 s9 s10 s11 l0 (fun e m => eok e (pz.mem_iff.mp m)) (by rw [pz.length_eq, List.length_nil]; omega) (hn x (Nat.le_refl _) (by omega))
      unfold B_law_3 L_law_2
      rw [for_src (shuf_src h3 ez), e]
      have hx3 : x < ls.length := by omega
      refine ⟨_, _, ls.set x l', _, _, _, _, _, .inr rfl, by rw [List.length_set, hl], fun j hj => ?_, fun j h1 h2 => ?_, rfl⟩
      · by_cases z : j = x
        · subst z
          exact ⟨l', zs, by rw [List.getElem?_set_self hx3], pz, q'⟩
        · obtain ⟨l, zs, e1, e2⟩ := hd1 j (by omega)
          exact ⟨l, zs, by rw [List.getElem?_set_ne (fun y => z y.symm)]; exact e1, e2⟩
      · rw [List.getElem?_set_ne (by omega)]
        exact hn j (by omega) h2)
    rw [List.length_range] at r
    obtain ⟨b, s3, ls, s7, s8, s9, s10, s11, h3, hl, hd1, hn, rfl⟩ := r
    obtain ⟨A, zA, eA, pA, qA⟩ := hd1 0 (by decide)
    obtain ⟨B, zB, eB, pB, qB⟩ := hd1 1 (by decide)
    have eC := hn 2 (by decide) (by decide)
    obtain rfl : ls = [A, B, ⟨c, 3, 3, [], 1⟩] := by
      match ls, hl with
      | [x, y, z], _ =>
        cases eA; cases eB; cases eC
        rfl
    refine Nx.eq (ρ' := w5S a b c s3 (.val (.int d)) s5 (.tre (.list (trL [A, B, ⟨c, 3, 3, [], 1⟩]))) s7 s8 s9 s10 s11 .un .un) ?_ ⟨_, _, _, _, _, _, _, _, _, _, h3, ⟨_, pA, qA⟩, ⟨_, pB, qB⟩, l0, rfl⟩
    unfold L_law_3
    rw [for_src (srcR1_nat (f := cst (.int 2)) (n := 2) rfl (by decide))]
    exact e
  clear b
  rintro ρ ⟨b, s3, A, B, C, s7, s8, s9, s10, s11, h3, ⟨zA, pA, qA⟩, ⟨zB, pB, qB⟩, qC, rfl⟩
  refine Rt.seq (P := fun ρ => ρ = w5S a b c s3 (.val (.int d)) s5 (.tre (.list (trL [A, B, C]))) s7 s8 s9 s10 s11 (.own (tabD PyData.int [])) .un) ⟨_, rfl, rfl⟩ ?_
  rintro ρ rfl
  obtain ⟨zC, b', pC, ez⟩ := shuffled_run rwD b es (by omega)
  obtain ⟨C', y8, y9, y10, y11, qC', e⟩ := due_loop a b' (c := c) (.val (.list (es.map rwD))) (.val (.int d)) s5 s7 .un zC [A, B, C] C [] [] s8 s9 s10 s11 qC (fun e m => (eok e (pC.mem_iff.mp m)).1) (by rw [pC.length_eq, List.length_nil]; omega) (Nat.zero_le _) rfl
  have qC' : Lt c 3 3 C' (zC.map at4) := qC'
  refine Rt.seq (P := fun ρ => ρ = w5S a b' c (.val (.list (es.map rwD))) (.val (.int d)) s5 (.tre (.list (trL [A, B, C']))) s7 y8 y9 y10 y11 (.own (tabD PyData.int (due5 (zC.map at4) []))) .un) ⟨_, by
    unfold L_law_4
    rw [for_src (shuf_src h3 ez), e]
    rfl, rfl⟩ ?_
  rintro ρ rfl
  clear e ez qC
  -- what the logs are
  have nd : (A.rows.map (·.2.1)).Nodup := by
    have e1 : A.rows.map (·.2.1) = zA.map (·.1) := by rw [← qA.vals, List.map_map]; rfl
    rw [e1, (pA.map _).nodup_iff]
    exact List.pairwise_map.mpr (q.srt.imp fun h z => by omega)
  have same := told_same qA.g.ok qB.g.ok nd (by rw [qA.vals, qB.vals]; exact pA.trans pB.symm)
  have pl : plD A = plD B := by
    unfold plD
    rw [same, qA.c, qB.c, qA.g.h, qB.g.h, qA.g.w, qB.g.w]
  have eqO := eqO_log qA.g.ok qB.g.ok pl
  have gr : ∀ day, gridOf 3 3 A.ents day = gridOf 3 3 B.ents day := fun day => by
    rw [grid_told, grid_told]
    show A.told.foldl _ _ = B.told.foldl _ _
    rw [same]
  have f0 : ∀ (x y : D) (b : Box) (s11 s13 : DL.Slot), frzIx 6 (fun _ => some []) (fun _ => some (.int 0)) (w5S a b c (.val (.list (es.map rwD))) (.val (.int d)) s5 (.tre (.list [bx (lgT A), x, y])) s7 y8 y9 y10 s11 (.own (tabD PyData.int (due5 (zC.map at4) []))) s13) = .ok (.st (lgV A)) (w5S a b c (.val (.list (es.map rwD))) (.val (.int d)) s5 (.tre (.list [lgV A, x, y])) s7 y8 y9 y10 s11 (.own (tabD PyData.int (due5 (zC.map at4) []))) s13) := fun x y b s11 s13 => (frz_in (i := 6) (j := 0) rfl rfl rfl (strip_lg A)).trans rfl
  have f1 : ∀ (x y : D) (b : Box) (s11 s13 : DL.Slot), frzIx 6 (fun _ => some []) (fun _ => some (.int 1)) (w5S a b c (.val (.list (es.map rwD))) (.val (.int d)) s5 (.tre (.list [x, bx (lgT B), y])) s7 y8 y9 y10 s11 (.own (tabD PyData.int (due5 (zC.map at4) []))) s13) = .ok (.st (lgV B)) (w5S a b c (.val (.list (es.map rwD))) (.val (.int d)) s5 (.tre (.list [x, lgV B, y])) s7 y8 y9 y10 s11 (.own (tabD PyData.int (due5 (zC.map at4) []))) s13) := fun x y b s11 s13 => (frz_in (i := 6) (j := 1) rfl rfl rfl (strip_lg B)).trans rfl
  have g0 : ∀ (x y : D) (b : Box) (s11 s13 : DL.Slot), frzIx 6 (fun _ => some []) (fun _ => some (.int 0)) (w5S a b c (.val (.list (es.map rwD))) (.val (.int d)) s5 (.tre (.list [lgV A, x, y])) s7 y8 y9 y10 s11 (.own (tabD PyData.int (due5 (zC.map at4) []))) s13) = .ok (.st (lgV A)) (w5S a b c (.val (.list (es.map rwD))) (.val (.int d)) s5 (.tre (.list [lgV A, x, y])) s7 y8 y9 y10 s11 (.own (tabD PyData.int (due5 (zC.map at4) []))) s13) := fun x y b s11 s13 => (frz_in (i := 6) (j := 0) rfl rfl rfl (strip_V A)).trans rfl
  have g1 : ∀ (x y : D) (b : Box) (s11 s13 : DL.Slot), frzIx 6 (fun _ => some []) (fun _ => some (.int 1)) (w5S a b c (.val (.list (es.map rwD))) (.val (.int d)) s5 (.tre (.list [x, lgV B, y])) s7 y8 y9 y10 s11 (.own (tabD PyData.int (due5 (zC.map at4) []))) s13) = .ok (.st (lgV B)) (w5S a b c (.val (.list (es.map rwD))) (.val (.int d)) s5 (.tre (.list [x, lgV B, y])) s7 y8 y9 y10 s11 (.own (tabD PyData.int (due5 (zC.map at4) []))) s13) := fun x y b s11 s13 => (frz_in (i := 6) (j := 1) rfl rfl rfl (strip_V B)).trans rfl
  have g2 : ∀ (x y z : D) (b : Box) (s11 s13 : DL.Slot), z = bx (lgT C') ∨ z = lgV C' → frzIx 6 (fun _ => some []) (fun _ => some (.int 2)) (w5S a b c (.val (.list (es.map rwD))) (.val (.int d)) s5 (.tre (.list [x, y, z])) s7 y8 y9 y10 s11 (.own (tabD PyData.int (due5 (zC.map at4) []))) s13) = .ok (.st (lgV C')) (w5S a b c (.val (.list (es.map rwD))) (.val (.int d)) s5 (.tre (.list [x, y, lgV C'])) s7 y8 y9 y10 s11 (.own (tabD PyData.int (due5 (zC.map at4) []))) s13) := fun x y z b s11 s13 hz => (frz_in (i := 6) (j := 2) rfl rfl rfl (by
    rcases hz with rfl | rfl
    · exact strip_lg C'
    · exact strip_V C')).trans rfl
  have cA : ∀ {day : Int}, 0 ≤ day ∧ day ≤ 999 → F_Log_M_chart [lgV A, .int day] = .ok (chD c (gridOf 3 3 A.ents day)) false .none := fun h => by
    have := chart_eq qA.g h
    rwa [qA.c] at this
  have cB : ∀ {day : Int}, 0 ≤ day ∧ day ≤ 999 → F_Log_M_chart [lgV B, .int day] = .ok (chD c (gridOf 3 3 A.ents day)) false .none := fun {day} h => by
    have := chart_eq qB.g h
    rwa [qB.c, ← gr day] at this
  have tC : C'.told = zC.map at4 := qC'.told_days (List.pairwise_map.mpr (List.Pairwise.imp (R := fun _ _ => True) (fun _ => Int.le_refl _) (List.pairwise_of_forall fun _ _ => trivial)))
  have oC : ∀ e ∈ zC.map at4, eOk c e := fun e m => by
    obtain ⟨x, mx, rfl⟩ := List.mem_map.mp m
    exact (eok x (pC.mem_iff.mp mx)).1
  have cC : F_Log_M_chart [lgV C', .int 4] = .ok (chD c ((zC.map at4).foldl putE (List.replicate 3 (List.replicate 3 (-2))))) false .none := by
    have := chart_eq qC'.g (day := 4) (by decide)
    rw [qC'.c, grid_told] at this
    have e1 : C'.ents.map (·.2) = zC.map at4 := tC
    rw [e1, fold_le _ _ _ (fun e m => by
      obtain ⟨x, _, rfl⟩ := List.mem_map.mp m
      exact Int.le_refl 4)] at this
    exact this
  have cC3 : F_Log_M_chart [lgV C', .int 3] = .ok (chD c (List.replicate 3 (List.replicate 3 (-2)))) false .none := by
    have := chart_eq qC'.g (day := 3) (by decide)
    rw [qC'.c, grid_told] at this
    have e1 : C'.ents.map (·.2) = zC.map at4 := tC
    rw [e1, fold_gt _ _ _ (fun e m => by
      obtain ⟨x, _, rfl⟩ := List.mem_map.mp m
      show ¬ (4 : Int) ≤ 3
      decide)] at this
    exact this
  have c0 : F_Log_M_chart [lgV ⟨c, 3, 3, [], 1⟩, .int 999] = .ok (chD c (List.replicate 3 (List.replicate 3 (-2)))) false .none := chart_eq l0.g (day := 999) (by decide)
  have noC : ∀ l : Lg, lookI "chart" (lgK l (itD ent l.rows)) = none := fun l => noAt _ (by decide +kernel)
  clear gr pl same nd qA qB qC' pA pB
  have hM : ∀ p : Sq, (0 ≤ p.1 ∧ p.1 < 3) ∧ 0 ≤ p.2 ∧ p.2 < 3 → Rc c 3 3 ((zC.map at4).foldl putE (List.replicate 3 (List.replicate 3 (-2)))) ∧ whatI 3 3 ((zC.map at4).foldl putE (List.replicate 3 (List.replicate 3 (-2)))) p = (tget (due5 (zC.map at4) []) p).getD (-2) := fun p hp => due_cell hc oC hp
  generalize due5 (zC.map at4) [] = M at *
  -- alike
  refine Rt.seq (P := fun ρ => ρ = w5S a b' c (.val (.list (es.map rwD))) (.val (.int d)) s5 (.tre (.list [lgV A, lgV B, bx (lgT C')])) s7 y8 y9 y10 y11 (.own (tabD PyData.int M)) .un) ⟨_, by
    have h0 := f0 (bx (lgT B)) (bx (lgT C')) b' y11 .un
    have h1 := f1 (lgV A) (bx (lgT C')) b' y11 .un
    have key : ∀ (f g : EF) (h : D → D → Option D) (ρ ρ1 ρ2 : En) (x y : D), f ρ = .ok (.st x) ρ1 → g ρ1 = .ok (.st y) ρ2 → h x y = some (.bool true) → ifS (notB (bF (op2 h f g))) (retS (cst (.bool false))) nxS ρ = .nx ρ2 := fun f g h ρ ρ1 ρ2 x y e1 e2 e3 => by
      simp only [runD, runO, out0, slots0, List.replicate, List.append_nil, List.cons_append, List.nil_append, List.length_cons, List.length_nil, retS, retC, retO, retN, seqS, ifS, asg, asgO, exprS, appS, setS, augS, asgT, asgL, raiseS, nxS, op1, op2, op2C, tst, andF, orF, ifF, andB, orB, notB, chF, cst, vr, frz, frC, lstC, tupF, consF, nilF, bltF, bltC, one_d, bind_ok, bind_er, bind_bad, then_ok, then_er, then_bad, opt_some, opt_none, Vl.get, Slot.get, Slot.put, Slot.cont, Slot.lst, Slot.mut, Slot.shal, stables, sh, gets, argD, argB, callF, callO, callC, callB, callW, pick, Pk.of, and_self, boxC, partF, slF, srcF, srcR1, srcR2, srcZ, forS, popF, noEr_ok, noEr_er, yes, List.getElem?_cons_zero, List.getElem?_cons_succ, List.set_cons_zero, List.set_cons_succ, Option.bind_some, Option.bind_none, Option.map_some, Option.map_none, if_true, if_false, Bool.false_eq_true, if_pos, List.map_cons, List.map_nil, add_int, sub_int, negD, notD, boolOf, isD, isntD, isNone, Tg.put, Tg.puts, sh0, sh1, sh2, sh3, sh4, sh5, sh6, sh7, sh8, sh9, sh10, sh11, sh12, sh13, sh14, sh15, sh16, step_nx, step_ct, ptN, isN, Nat.add_one_sub_one, Nat.sub_self, Nat.zero_add, Nat.reduceAdd, Nat.reduceSub, e1, e2, e3, Bool.not_true]
    exact key _ _ _ _ _ _ _ _ h0 h1 eqO, rfl⟩ ?_
  rintro ρ rfl
  have two : ∀ (f g : EF) (ρ ρ1 ρ2 : En) (x : D), f ρ = .ok (.st x) ρ1 → g ρ1 = .ok (.st x) ρ2 → neD x x = some (.bool false) → ifS (bF (op2 neD f g)) (retS (cst (.bool false))) nxS ρ = .nx ρ2 := fun f g ρ ρ1 ρ2 x e1 e2 e3 => by
    simp only [runD, runO, out0, slots0, List.replicate, List.append_nil, List.cons_append, List.nil_append, List.length_cons, List.length_nil, retS, retC, retO, retN, seqS, ifS, asg, asgO, exprS, appS, setS, augS, asgT, asgL, raiseS, nxS, op1, op2, op2C, tst, andF, orF, ifF, andB, orB, notB, chF, cst, vr, frz, frC, lstC, tupF, consF, nilF, bltF, bltC, one_d, bind_ok, bind_er, bind_bad, then_ok, then_er, then_bad, opt_some, opt_none, Vl.get, Slot.get, Slot.put, Slot.cont, Slot.lst, Slot.mut, Slot.shal, stables, sh, gets, argD, argB, callF, callO, callC, callB, callW, pick, Pk.of, and_self, boxC, partF, slF, srcF, srcR1, srcR2, srcZ, forS, popF, noEr_ok, noEr_er, yes, List.getElem?_cons_zero, List.getElem?_cons_succ, List.set_cons_zero, List.set_cons_succ, Option.bind_some, Option.bind_none, Option.map_some, Option.map_none, if_true, if_false, Bool.false_eq_true, if_pos, List.map_cons, List.map_nil, add_int, sub_int, negD, notD, boolOf, isD, isntD, isNone, Tg.put, Tg.puts, sh0, sh1, sh2, sh3, sh4, sh5, sh6, sh7, sh8, sh9, sh10, sh11, sh12, sh13, sh14, sh15, sh16, step_nx, step_ct, ptN, isN, Nat.add_one_sub_one, Nat.sub_self, Nat.zero_add, Nat.reduceAdd, Nat.reduceSub, e1, e2, e3]
  obtain ⟨dd, b2, ed, d1, d2⟩ := law_day_run b'
  refine Rt.seq (P := fun ρ => ∃ s11, ρ = w5S a b2 c (.val (.list (es.map rwD))) (.val (.int d)) s5 (.tre (.list [lgV A, lgV B, bx (lgT C')])) s7 y8 y9 y10 s11 (.own (tabD PyData.int M)) .un) ?_ ?_
  · obtain ⟨ρ', e, r⟩ := for_inv (t := .nm 11) (body := B_law_5) PyData.int (fun _ ρ => ∃ s11, ρ = w5S a b2 c (.val (.list (es.map rwD))) (.val (.int d)) s5 (.tre (.list [lgV A, lgV B, bx (lgT C')])) s7 y8 y9 y10 s11 (.own (tabD PyData.int M)) .un) [0, dd, 999] (w5S a b2 c (.val (.list (es.map rwD))) (.val (.int d)) s5 (.tre (.list [lgV A, lgV B, bx (lgT C')])) s7 y8 y9 y10 y11 (.own (tabD PyData.int M)) .un) ⟨_, rfl⟩ (by
      rintro k x ρ hx ⟨s11, rfl⟩
      have hxx : 0 ≤ x ∧ x ≤ 999 := by
        have := List.mem_of_getElem? hx
        simp only [List.mem_cons, List.not_mem_nil, or_false] at this
        rcases this with rfl | rfl | rfl
        · decide
        · exact ⟨d1, d2⟩
        · decide
      refine ⟨w5S a b2 c (.val (.list (es.map rwD))) (.val (.int d)) s5 (.tre (.list [lgV A, lgV B, bx (lgT C')])) s7 y8 y9 y10 (.val (.int x)) (.own (tabD PyData.int M)) .un, rfl, ?_⟩
      have m0 := callM_ok (c := "Log") (m := "chart") (md := [.p]) (F := F_Log_M_chart) (dd := []) (fa := consF (vr 11) nilF) (ds := [.int x]) (xs := [.st (.int x)]) (g0 (lgV B) (bx (lgT C')) b2 (.val (.int x)) .un) (noC A) rfl rfl (cA hxx)
      have m1 := callM_ok (c := "Log") (m := "chart") (md := [.p]) (F := F_Log_M_chart) (dd := []) (fa := consF (vr 11) nilF) (ds := [.int x]) (xs := [.st (.int x)]) (g1 (lgV A) (bx (lgT C')) b2 (.val (.int x)) .un) (noC B) rfl rfl (cB hxx)
      have ne := ne_self (okN_eq (n := 3) (m := 3) (by decide) (by decide) (okN_ch c (gridOf 3 3 A.ents x)) (okN_ch c (gridOf 3 3 A.ents x)))
      unfold B_law_5
      rw [two _ _ _ _ _ _ m0 m1 ne]
      exact ⟨_, rfl⟩)
    refine Nx.eq (ρ' := ρ') ?_ r
    unfold L_law_5
    rw [for_src (ds := ([0, dd, 999] : List Int).map PyData.int) (ρ1 := w5S a b2 c (.val (.list (es.map rwD))) (.val (.int d)) s5 (.tre (.list [lgV A, lgV B, bx (lgT C')])) s7 y8 y9 y10 y11 (.own (tabD PyData.int M)) .un) (srcF_tup (by
      generalize PyData.list [lgV A, lgV B, bx (lgT C')] = L
      generalize tabD PyData.int M = M2
      simp only [w5S, runD, runO, out0, slots0, List.replicate, List.append_nil, List.cons_append, List.nil_append, List.length_cons, List.length_nil, retS, retC, retO, retN, seqS, ifS, asg, asgO, exprS, appS, setS, augS, asgT, asgL, raiseS, nxS, op1, op2, op2C, tst, andF, orF, ifF, andB, orB, notB, chF, cst, vr, frz, frC, lstC, tupF, consF, nilF, bltF, bltC, one_d, bind_ok, bind_er, bind_bad, then_ok, then_er, then_bad, opt_some, opt_none, Vl.get, Slot.get, Slot.put, Slot.cont, Slot.lst, Slot.mut, Slot.shal, stables, sh, gets, argD, argB, callF, callO, callC, callB, callW, pick, Pk.of, and_self, boxC, partF, slF, srcF, srcR1, srcR2, srcZ, forS, popF, noEr_ok, noEr_er, yes, List.getElem?_cons_zero, List.getElem?_cons_succ, List.set_cons_zero, List.set_cons_succ, Option.bind_some, Option.bind_none, Option.map_some, Option.map_none, if_true, if_false, Bool.false_eq_true, if_pos, List.map_cons, List.map_nil, add_int, sub_int, negD, notD, boolOf, isD, isntD, isNone, Tg.put, Tg.puts, sh0, sh1, sh2, sh3, sh4, sh5, sh6, sh7, sh8, sh9, sh10, sh11, sh12, sh13, sh14, sh15, sh16, step_nx, step_ct, ptN, isN, Nat.add_one_sub_one, Nat.sub_self, Nat.zero_add, Nat.reduceAdd, Nat.reduceSub, ed]))]
    exact e
  rintro ρ ⟨s11, rfl⟩
  have src6 : ∀ ρ : En, srcF (frC (lstC (consF (tupF (consF (cst (.int 0)) (consF (cst (.int 0)) nilF))) (consF (tupF (consF (cst (.int 0)) (consF (cst (.int 1)) nilF))) (consF (tupF (consF (cst (.int 0)) (consF (cst (.int 2)) nilF))) (consF (tupF (consF (cst (.int 1)) (consF (cst (.int 0)) nilF))) (consF (tupF (consF (cst (.int 1)) (consF (cst (.int 1)) nilF))) (consF (tupF (consF (cst (.int 1)) (consF (cst (.int 2)) nilF))) (consF (tupF (consF (cst (.int 2)) (consF (cst (.int 0)) nilF))) (consF (tupF (consF (cst (.int 2)) (consF (cst (.int 1)) nilF))) (consF (tupF (consF (cst (.int 2)) (consF (cst (.int 2)) nilF))) nilF))))))))))) ρ = .ok (sq9.map sqD) ρ := fun ρ => rfl
  refine Rt.seq (P := fun ρ => ∃ x s13, (x = bx (lgT C') ∨ x = lgV C') ∧ ρ = w5S a b2 c (.val (.list (es.map rwD))) (.val (.int d)) s5 (.tre (.list [lgV A, lgV B, x])) s7 y8 y9 y10 s11 (.own (tabD PyData.int M)) s13) ?_ ?_
  · obtain ⟨ρ', e, r⟩ := for_inv (t := .nm 13) (body := B_law_6) sqD (fun _ ρ => ∃ x s13, (x = bx (lgT C') ∨ x = lgV C') ∧ ρ = w5S a b2 c (.val (.list (es.map rwD))) (.val (.int d)) s5 (.tre (.list [lgV A, lgV B, x])) s7 y8 y9 y10 s11 (.own (tabD PyData.int M)) s13) sq9 (w5S a b2 c (.val (.list (es.map rwD))) (.val (.int d)) s5 (.tre (.list [lgV A, lgV B, bx (lgT C')])) s7 y8 y9 y10 s11 (.own (tabD PyData.int M)) .un) ⟨_, _, .inl rfl, rfl⟩ (by
      rintro k p ρ hp ⟨x, s13, hx, rfl⟩
      have hpp : (0 ≤ p.1 ∧ p.1 < 3) ∧ 0 ≤ p.2 ∧ p.2 < 3 := by
        have key : ∀ p ∈ sq9, (0 ≤ p.1 ∧ p.1 < 3) ∧ 0 ≤ p.2 ∧ p.2 < 3 := by decide
        exact key p (List.mem_of_getElem? hp)
      refine ⟨w5S a b2 c (.val (.list (es.map rwD))) (.val (.int d)) s5 (.tre (.list [lgV A, lgV B, x])) s7 y8 y9 y10 s11 (.own (tabD PyData.int M)) (.val (sqD p)), rfl, ?_⟩
      have m0 := callM_ok (c := "Log") (m := "chart") (md := [.p]) (F := F_Log_M_chart) (dd := []) (fa := consF (cst (.int 4)) nilF) (ds := [.int 4]) (xs := [.st (.int 4)]) (g2 (lgV A) (lgV B) x b2 s11 (.val (sqD p)) hx) (noC C') rfl rfl cC
      obtain ⟨rc, wh⟩ := hM p hpp
      have we := what_eq rc p
      rw [wh] at we
      have lk := lookA_tab PyData.int M p
      have id_ : isDict (tabD PyData.int M) = true := rfl
      have ne := ne_int ((tget M p).getD (-2)) ((tget M p).getD (-2))
      rw [beq_self_eq_true] at ne
      have a0 : callF [.p, .p] F__law_what [] (consF (callM "Log" "chart" [.p] F_Log_M_chart [] (frzIx 6 (fun _ => some []) (fun _ => some (.int 2))) (consF (cst (.int 4)) nilF)) (consF (vr 13) nilF)) (w5S a b2 c (.val (.list (es.map rwD))) (.val (.int d)) s5 (.tre (.list [lgV A, lgV B, x])) s7 y8 y9 y10 s11 (.own (tabD PyData.int M)) (.val (sqD p))) = .ok (.st (.int ((tget M p).getD (-2)))) (w5S a b2 c (.val (.list (es.map rwD))) (.val (.int d)) s5 (.tre (.list [lgV A, lgV B, lgV C'])) s7 y8 y9 y10 s11 (.own (tabD PyData.int M)) (.val (sqD p))) := by
        generalize callM "Log" "chart" [.p] F_Log_M_chart [] (frzIx 6 (fun _ => some []) (fun _ => some (.int 2))) (consF (cst (.int 4)) nilF) = f at m0
        generalize PyData.list [lgV A, lgV B, lgV C'] = L2 at m0
        generalize PyData.list [lgV A, lgV B, x] = L1 at m0
        generalize chD c ((zC.map at4).foldl putE (List.replicate 3 (List.replicate 3 (-2)))) = G at m0 we
        generalize sqD p = P at m0 we
        generalize tabD PyData.int M = M2 at m0
        simp only [w5S] at m0 ⊢
        simp only [runD, runO, out0, slots0, List.replicate, List.append_nil, List.cons_append, List.nil_append, List.length_cons, List.length_nil, retS, retC, retO, retN, seqS, ifS, asg, asgO, exprS, appS, setS, augS, asgT, asgL, raiseS, nxS, op1, op2, op2C, tst, andF, orF, ifF, andB, orB, notB, chF, cst, vr, frz, frC, lstC, tupF, consF, nilF, bltF, bltC, one_d, bind_ok, bind_er, bind_bad, then_ok, then_er, then_bad, opt_some, opt_none, Vl.get, Slot.get, Slot.put, Slot.cont, Slot.lst, Slot.mut, Slot.shal, stables, sh, gets, argD, argB, callF, callO, callC, callB, callW, pick, Pk.of, and_self, boxC, partF, slF, srcF, srcR1, srcR2, srcZ, forS, popF, noEr_ok, noEr_er, yes, List.getElem?_cons_zero, List.getElem?_cons_succ, List.set_cons_zero, List.set_cons_succ, Option.bind_some, Option.bind_none, Option.map_some, Option.map_none, if_true, if_false, Bool.false_eq_true, if_pos, List.map_cons, List.map_nil, add_int, sub_int, negD, notD, boolOf, isD, isntD, isNone, Tg.put, Tg.puts, sh0, sh1, sh2, sh3, sh4, sh5, sh6, sh7, sh8, sh9, sh10, sh11, sh12, sh13, sh14, sh15, sh16, step_nx, step_ct, ptN, isN, Nat.add_one_sub_one, Nat.sub_self, Nat.zero_add, Nat.reduceAdd, Nat.reduceSub, m0, we]
      have a1 : dget2F (vr 12) (vr 13) (op1 negD (cst (.int 2))) (w5S a b2 c (.val (.list (es.map rwD))) (.val (.int d)) s5 (.tre (.list [lgV A, lgV B, lgV C'])) s7 y8 y9 y10 s11 (.own (tabD PyData.int M)) (.val (sqD p))) = .ok (.st (.int ((tget M p).getD (-2)))) (w5S a b2 c (.val (.list (es.map rwD))) (.val (.int d)) s5 (.tre (.list [lgV A, lgV B, lgV C'])) s7 y8 y9 y10 s11 (.own (tabD PyData.int M)) (.val (sqD p))) := by
        generalize PyData.list [lgV A, lgV B, lgV C'] = L2
        generalize tabD PyData.int M = M2 at lk id_
        generalize sqD p = P at lk
        generalize tget M p = t at lk
        cases t with
        | none => 
          rw [Option.map_none] at lk
          simp only [dget2F, w5S, runD, runO, out0, slots0, List.replicate, List.append_nil, List.cons_append, List.nil_append, List.length_cons, List.length_nil, retS, retC, retO, retN, seqS, ifS, asg, asgO, exprS, appS, setS, augS, asgT, asgL, raiseS, nxS, op1, op2, op2C, tst, andF, orF, ifF, andB, orB, notB, chF, cst, vr, frz, frC, lstC, tupF, consF, nilF, bltF, bltC, one_d, bind_ok, bind_er, bind_bad, then_ok, then_er, then_bad, opt_some, opt_none, Vl.get, Slot.get, Slot.put, Slot.cont, Slot.lst, Slot.mut, Slot.shal, stables, sh, gets, argD, argB, callF, callO, callC, callB, callW, pick, Pk.of, and_self, boxC, partF, slF, srcF, srcR1, srcR2, srcZ, forS, popF, noEr_ok, noEr_er, yes, List.getElem?_cons_zero, List.getElem?_cons_succ, List.set_cons_zero, List.set_cons_succ, Option.bind_some, Option.bind_none, Option.map_some, Option.map_none, if_true, if_false, Bool.false_eq_true, if_pos, List.map_cons, List.map_nil, add_int, sub_int, negD, notD, boolOf, isD, isntD, isNone, Tg.put, Tg.puts, sh0, sh1, sh2, sh3, sh4, sh5, sh6, sh7, sh8, sh9, sh10, sh11, sh12, sh13, sh14, sh15, sh16, step_nx, step_ct, ptN, isN, Nat.add_one_sub_one, Nat.sub_self, Nat.zero_add, Nat.reduceAdd, Nat.reduceSub, id_, lk, Option.getD_none]
        | some v =>
          rw [Option.map_some] at lk
          simp only [dget2F, w5S, runD, runO, out0, slots0, List.replicate, List.append_nil, List.cons_append, List.nil_append, List.length_cons, List.length_nil, retS, retC, retO, retN, seqS, ifS, asg, asgO, exprS, appS, setS, augS, asgT, asgL, raiseS, nxS, op1, op2, op2C, tst, andF, orF, ifF, andB, orB, notB, chF, cst, vr, frz, frC, lstC, tupF, consF, nilF, bltF, bltC, one_d, bind_ok, bind_er, bind_bad, then_ok, then_er, then_bad, opt_some, opt_none, Vl.get, Slot.get, Slot.put, Slot.cont, Slot.lst, Slot.mut, Slot.shal, stables, sh, gets, argD, argB, callF, callO, callC, callB, callW, pick, Pk.of, and_self, boxC, partF, slF, srcF, srcR1, srcR2, srcZ, forS, popF, noEr_ok, noEr_er, yes, List.getElem?_cons_zero, List.getElem?_cons_succ, List.set_cons_zero, List.set_cons_succ, Option.bind_some, Option.bind_none, Option.map_some, Option.map_none, if_true, if_false, Bool.false_eq_true, if_pos, List.map_cons, List.map_nil, add_int, sub_int, negD, notD, boolOf, isD, isntD, isNone, Tg.put, Tg.puts, sh0, sh1, sh2, sh3, sh4, sh5, sh6, sh7, sh8, sh9, sh10, sh11, sh12, sh13, sh14, sh15, sh16, step_nx, step_ct, ptN, isN, Nat.add_one_sub_one, Nat.sub_self, Nat.zero_add, Nat.reduceAdd, Nat.reduceSub, id_, lk, Option.getD_some]
      unfold B_law_6
      rw [two _ _ _ _ _ _ a0 a1 ne]
      exact ⟨_, _, .inr rfl, rfl⟩)
    refine Nx.eq (ρ' := ρ') ?_ r
    unfold L_law_6
    rw [for_src (src6 _)]
    exact e
  rintro ρ ⟨x, s13, hx, rfl⟩
  have m0 := callM_ok (c := "Log") (m := "chart") (md := [.p]) (F := F_Log_M_chart) (dd := []) (fa := consF (cst (.int 3)) nilF) (ds := [.int 3]) (xs := [.st (.int 3)]) (g2 (lgV A) (lgV B) x b2 s11 s13 hx) (noC C') rfl rfl cC3
  have m1 := callM_ok (c := "Log") (m := "chart") (md := [.p]) (F := F_Log_M_chart) (dd := [.int 999]) (fa := nilF) (ds := [.int 999]) (xs := []) (frzC_ok (mk b2 (.val (.list (es.map rwD))) (.val (.int d)) s5 (.tre (.list [lgV A, lgV B, lgV C'])) s7 y8 y9 y10 s11 (.own (tabD PyData.int M)) s13) (strip_lg _)) (noC _) rfl rfl c0
  have ee := eq_self (okN_eq (n := 3) (m := 3) (by decide) (by decide) (okN_ch c (List.replicate 3 (List.replicate 3 (-2)))) (okN_ch c (List.replicate 3 (List.replicate 3 (-2)))))
  have key : ∀ (f g : EF) (ρ ρ1 ρ2 : En) (x : D), f ρ = .ok (.st x) ρ1 → g ρ1 = .ok (.st x) ρ2 → eqD x x = some (.bool true) → retS (op2 eqD f g) ρ = .rt (.bool true) false ρ2 := fun f g ρ ρ1 ρ2 x e1 e2 e3 => by
    simp only [runD, runO, out0, slots0, List.replicate, List.append_nil, List.cons_append, List.nil_append, List.length_cons, List.length_nil, retS, retC, retO, retN, seqS, ifS, asg, asgO, exprS, appS, setS, augS, asgT, asgL, raiseS, nxS, op1, op2, op2C, tst, andF, orF, ifF, andB, orB, notB, chF, cst, vr, frz, frC, lstC, tupF, consF, nilF, bltF, bltC, one_d, bind_ok, bind_er, bind_bad, then_ok, then_er, then_bad, opt_some, opt_none, Vl.get, Slot.get, Slot.put, Slot.cont, Slot.lst, Slot.mut, Slot.shal, stables, sh, gets, argD, argB, callF, callO, callC, callB, callW, pick, Pk.of, and_self, boxC, partF, slF, srcF, srcR1, srcR2, srcZ, forS, popF, noEr_ok, noEr_er, yes, List.getElem?_cons_zero, List.getElem?_cons_succ, List.set_cons_zero, List.set_cons_succ, Option.bind_some, Option.bind_none, Option.map_some, Option.map_none, if_true, if_false, Bool.false_eq_true, if_pos, List.map_cons, List.map_nil, add_int, sub_int, negD, notD, boolOf, isD, isntD, isNone, Tg.put, Tg.puts, sh0, sh1, sh2, sh3, sh4, sh5, sh6, sh7, sh8, sh9, sh10, sh11, sh12, sh13, sh14, sh15, sh16, step_nx, step_ct, ptN, isN, Nat.add_one_sub_one, Nat.sub_self, Nat.zero_add, Nat.reduceAdd, Nat.reduceSub, e1, e2, e3]
  exact ⟨_, key _ _ _ _ _ _ m0 m1 ee⟩
end LW

/-! K35e -/
set_option maxHeartbeats 0
namespace LW
open PySem PySem.Spec PyProof.Rows L2 DL
theorem facts {P : Program} {w : World} {K : PySem.W.Frag} {h : Heap} {mg : Str → Option Value} {f : Addr} (X : K.In h) (G : h.Ns mainGlobals mg) (hfa : mg ("law" : Str) = some (.ref f)) (c : He.SaysD faL fnL K) (cx : (fun K => DL.isnB "Log" K) K = true) :
    ∃ fd : FuncData, (∀ (s : Shared) (v : Value), BindsTo s fd ⟨[v], []⟩ [("_law_script", v)]) ∧ ∀ base : Heap, FnOk P w K mg base (L2N.CX P w) 5 f fd ["_law_script"] (spLaw K f_law N_law.length) := by
  have T : Tx K mg := ⟨He.free_ok X G (c.fact 14 (f := .free "isinstance") rfl),
    He.free_ok X G (c.fact 15 (f := .free "len") rfl),
    He.free_ok X G (c.fact 16 (f := .free "list") rfl),
    He.free_ok X G (c.fact 17 (f := .free "range") rfl),
    He.free_ok X G (c.fact 18 (f := .free "sorted") rfl),
    He.free_ok X G (c.fact 19 (f := .free "tuple") rfl),
    He.int_ok X G (c.fact 20 (f := .int "FEWEST_HOURS" (3)) rfl),
    He.int_ok X G (c.fact 21 (f := .int "LAST_DAY" (999)) rfl),
    He.int_ok X G (c.fact 22 (f := .int "MOST_ENTRIES" (200)) rfl),
    He.int_ok X G (c.fact 23 (f := .int "MOST_HOURS" (15)) rfl),
    He.int_ok X G (c.fact 24 (f := .int "MOST_SIDE" (9)) rfl),
    He.int_ok X G (c.fact 25 (f := .int "UNTOLD" (-2)) rfl),
    (by obtain ⟨h1, h2, h3, h4⟩ := He.exc_ok (c.fact 27 (f := .exc "BadClock") rfl); exact ⟨He.glo_ok X G (c.fact 26 (f := .glo "BadClock") rfl), h1, h2, h3, h4⟩),
    (by obtain ⟨h1, h2, h3, h4⟩ := He.exc_ok (c.fact 29 (f := .exc "BadDay") rfl); exact ⟨He.glo_ok X G (c.fact 28 (f := .glo "BadDay") rfl), h1, h2, h3, h4⟩),
    (by obtain ⟨h1, h2, h3, h4⟩ := He.exc_ok (c.fact 31 (f := .exc "BadHour") rfl); exact ⟨He.glo_ok X G (c.fact 30 (f := .glo "BadHour") rfl), h1, h2, h3, h4⟩),
    (by obtain ⟨h1, h2, h3, h4⟩ := He.exc_ok (c.fact 33 (f := .exc "BadSquare") rfl); exact ⟨He.glo_ok X G (c.fact 32 (f := .glo "BadSquare") rfl), h1, h2, h3, h4⟩),
    (by obtain ⟨h1, h2, h3, h4⟩ := He.exc_ok (c.fact 35 (f := .exc "Full") rfl); exact ⟨He.glo_ok X G (c.fact 34 (f := .glo "Full") rfl), h1, h2, h3, h4⟩),
    ⟨He.cls_ok (c.fact 37 (f := .cls "Log") rfl), fun f hf => by
      simp only [List.mem_cons, List.not_mem_nil, or_false] at hf
      rcases hf with rfl | rfl | rfl | rfl | rfl
      · exact He.noat_ok (c.fact 38 (f := .noat "Log" "clock") rfl)
      · exact He.noat_ok (c.fact 39 (f := .noat "Log" "high") rfl)
      · exact He.noat_ok (c.fact 40 (f := .noat "Log" "wide") rfl)
      · exact He.noat_ok (c.fact 41 (f := .noat "Log" "rows") rfl)
      · exact He.noat_ok (c.fact 42 (f := .noat "Log" "after") rfl)⟩,
    DL.isnB_ok cx (He.glo_ok X G (c.fact 36 (f := .glo "Log") rfl))⟩
  have Dk_is_clock : DefK K mg "is_clock" (He.ga K "is_clock") s_is_clock ["clock"] [[]] := by
    obtain ⟨fd, F⟩ := c.def_ 0 (d := d_is_clock) rfl
    refine ⟨fd, _, _, F, He.glo_ok X G (c.fact 0 (f := .glo "is_clock") rfl), fun dd h => ?_⟩
    simp only [List.mem_singleton] at h
    subst h
    exact ⟨[], [], .nil, fun _ => .nil, FunD.bindsN (ps := ["clock"]) F fun _ _ _ _ _ _ us hl => match us, hl with | [_], _ => rfl⟩
  have Dk_need_clock : DefK K mg "need_clock" (He.ga K "need_clock") s_need_clock ["clock"] [[]] := by
    obtain ⟨fd, F⟩ := c.def_ 1 (d := d_need_clock) rfl
    refine ⟨fd, _, _, F, He.glo_ok X G (c.fact 1 (f := .glo "need_clock") rfl), fun dd h => ?_⟩
    simp only [List.mem_singleton] at h
    subst h
    exact ⟨[], [], .nil, fun _ => .nil, FunD.bindsN (ps := ["clock"]) F fun _ _ _ _ _ _ us hl => match us, hl with | [_], _ => rfl⟩
  have Dk_need_side : DefK K mg "need_side" (He.ga K "need_side") s_need_side ["many"] [[]] := by
    obtain ⟨fd, F⟩ := c.def_ 2 (d := d_need_side) rfl
    refine ⟨fd, _, _, F, He.glo_ok X G (c.fact 2 (f := .glo "need_side") rfl), fun dd h => ?_⟩
    simp only [List.mem_singleton] at h
    subst h
    exact ⟨[], [], .nil, fun _ => .nil, FunD.bindsN (ps := ["many"]) F fun _ _ _ _ _ _ us hl => match us, hl with | [_], _ => rfl⟩
  have Dk_need_day : DefK K mg "need_day" (He.ga K "need_day") s_need_day ["day"] [[]] := by
    obtain ⟨fd, F⟩ := c.def_ 3 (d := d_need_day) rfl
    refine ⟨fd, _, _, F, He.glo_ok X G (c.fact 3 (f := .glo "need_day") rfl), fun dd h => ?_⟩
    simp only [List.mem_singleton] at h
    subst h
    exact ⟨[], [], .nil, fun _ => .nil, FunD.bindsN (ps := ["day"]) F fun _ _ _ _ _ _ us hl => match us, hl with | [_], _ => rfl⟩
  have Dk_need_one : DefK K mg "need_one" (He.ga K "need_one") s_need_one ["clock", "one"] [[]] := by
    obtain ⟨fd, F⟩ := c.def_ 4 (d := d_need_one) rfl
    refine ⟨fd, _, _, F, He.glo_ok X G (c.fact 4 (f := .glo "need_one") rfl), fun dd h => ?_⟩
    simp only [List.mem_singleton] at h
    subst h
    exact ⟨[], [], .nil, fun _ => .nil, FunD.bindsN (ps := ["clock", "one"]) F fun _ _ _ _ _ _ us hl => match us, hl with | [_, _], _ => rfl⟩
  obtain ⟨fb, Fb⟩ := c.def_ 5 (d := d__law_box) rfl
  have Bb : Binds K fb ["_law_script"] [] := FunD.bindsN (ps := ["_law_script"]) Fb fun _ _ _ _ _ _ us hl => match us, hl with | [_], _ => rfl
  have gb := He.glo_ok X G (c.fact 5 (f := .glo "_law_box") rfl)
  have Dk__law_mixed : DefK K mg "_law_mixed" (He.ga K "_law_mixed") s__law_mixed ["_law_number", "_law_turn"] [[]] := by
    obtain ⟨fd, F⟩ := c.def_ 6 (d := d__law_mixed) rfl
    refine ⟨fd, _, _, F, He.glo_ok X G (c.fact 6 (f := .glo "_law_mixed") rfl), fun dd h => ?_⟩
    simp only [List.mem_singleton] at h
    subst h
    exact ⟨[], [], .nil, fun _ => .nil, FunD.bindsN (ps := ["_law_number", "_law_turn"]) F fun _ _ _ _ _ _ us hl => match us, hl with | [_, _], _ => rfl⟩
  have Dk__law_take : DefK K mg "_law_take" (He.ga K "_law_take") s__law_take ["_law_box_here", "_law_many"] [[]] := by
    obtain ⟨fd, F⟩ := c.def_ 7 (d := d__law_take) rfl
    refine ⟨fd, _, _, F, He.glo_ok X G (c.fact 7 (f := .glo "_law_take") rfl), fun dd h => ?_⟩
    simp only [List.mem_singleton] at h
    subst h
    exact ⟨[], [], .nil, fun _ => .nil, FunD.bindsN (ps := ["_law_box_here", "_law_many"]) F fun _ _ _ _ _ _ us hl => match us, hl with | [_, _], _ => rfl⟩
  have Dk__law_clock : DefK K mg "_law_clock" (He.ga K "_law_clock") s__law_clock ["_law_box_here"] [[]] := by
    obtain ⟨fd, F⟩ := c.def_ 8 (d := d__law_clock) rfl
    refine ⟨fd, _, _, F, He.glo_ok X G (c.fact 8 (f := .glo "_law_clock") rfl), fun dd h => ?_⟩
    simp only [List.mem_singleton] at h
    subst h
    exact ⟨[], [], .nil, fun _ => .nil, FunD.bindsN (ps := ["_law_box_here"]) F fun _ _ _ _ _ _ us hl => match us, hl with | [_], _ => rfl⟩
  have Dk__law_what : DefK K mg "_law_what" (He.ga K "_law_what") s__law_what ["_law_chart", "_law_square"] [[]] := by
    obtain ⟨fd, F⟩ := c.def_ 9 (d := d__law_what) rfl
    refine ⟨fd, _, _, F, He.glo_ok X G (c.fact 9 (f := .glo "_law_what") rfl), fun dd h => ?_⟩
    simp only [List.mem_singleton] at h
    subst h
    exact ⟨[], [], .nil, fun _ => .nil, FunD.bindsN (ps := ["_law_chart", "_law_square"]) F fun _ _ _ _ _ _ us hl => match us, hl with | [_, _], _ => rfl⟩
  have Dk__law_day : DefK K mg "_law_day" (He.ga K "_law_day") s__law_day ["_law_box_here"] [[]] := by
    obtain ⟨fd, F⟩ := c.def_ 10 (d := d__law_day) rfl
    refine ⟨fd, _, _, F, He.glo_ok X G (c.fact 10 (f := .glo "_law_day") rfl), fun dd h => ?_⟩
    simp only [List.mem_singleton] at h
    subst h
    exact ⟨[], [], .nil, fun _ => .nil, FunD.bindsN (ps := ["_law_box_here"]) F fun _ _ _ _ _ _ us hl => match us, hl with | [_], _ => rfl⟩
  have Dk__law_one : DefK K mg "_law_one" (He.ga K "_law_one") s__law_one ["_law_box_here", "_law_clock_here"] [[]] := by
    obtain ⟨fd, F⟩ := c.def_ 11 (d := d__law_one) rfl
    refine ⟨fd, _, _, F, He.glo_ok X G (c.fact 11 (f := .glo "_law_one") rfl), fun dd h => ?_⟩
    simp only [List.mem_singleton] at h
    subst h
    exact ⟨[], [], .nil, fun _ => .nil, FunD.bindsN (ps := ["_law_box_here", "_law_clock_here"]) F fun _ _ _ _ _ _ us hl => match us, hl with | [_, _], _ => rfl⟩
  have Dk__law_shuffled : DefK K mg "_law_shuffled" (He.ga K "_law_shuffled") s__law_shuffled ["_law_box_here", "_law_rows"] [[]] := by
    obtain ⟨fd, F⟩ := c.def_ 12 (d := d__law_shuffled) rfl
    refine ⟨fd, _, _, F, He.glo_ok X G (c.fact 12 (f := .glo "_law_shuffled") rfl), fun dd h => ?_⟩
    simp only [List.mem_singleton] at h
    subst h
    exact ⟨[], [], .nil, fun _ => .nil, FunD.bindsN (ps := ["_law_box_here", "_law_rows"]) F fun _ _ _ _ _ _ us hl => match us, hl with | [_, _], _ => rfl⟩
  have Dk_Log_M_init : MakeK K mg "Log" "Log.__init__" (He.fAd K ("Log", some "__init__")) s_Log_M_init ["self", "clock", "high", "wide"] [[]] := by
    obtain ⟨fd, F⟩ := c.def_ 14 (d := d_Log_M_init) rfl
    refine ⟨fd, _, _, F, He.glo_ok X G (c.fact 36 (f := .glo "Log") rfl), He.mkr_ok (c.fact 43 (f := .mkr "Log") rfl), fun dd h => ?_⟩
    simp only [List.mem_singleton] at h
    subst h
    exact ⟨[], [], .nil, fun _ => .nil, FunD.bindsN (ps := ["self", "clock", "high", "wide"]) F fun _ _ _ _ _ _ us hl => match us, hl with | [_, _, _, _], _ => rfl⟩
  have Dk_Log_M_entries : MethK K "Log" "entries" "Log.entries" (He.fAd K ("Log", some "entries")) s_Log_M_entries ["self"] [[]] := by
    obtain ⟨fd, F⟩ := c.def_ 15 (d := d_Log_M_entries) rfl
    refine ⟨fd, _, _, F, He.meth_ok (c.fact 44 (f := .meth "Log" "entries") rfl), fun dd h => ?_⟩
    simp only [List.mem_singleton] at h
    subst h
    exact ⟨[], [], .nil, fun _ => .nil, FunD.bindsN (ps := ["self"]) F fun _ _ _ _ _ _ us hl => match us, hl with | [_], _ => rfl⟩
  have Dk_Log_M_plain : MethK K "Log" "plain" "Log.plain" (He.fAd K ("Log", some "plain")) s_Log_M_plain ["self"] [[]] := by
    obtain ⟨fd, F⟩ := c.def_ 16 (d := d_Log_M_plain) rfl
    refine ⟨fd, _, _, F, He.meth_ok (c.fact 45 (f := .meth "Log" "plain") rfl), fun dd h => ?_⟩
    simp only [List.mem_singleton] at h
    subst h
    exact ⟨[], [], .nil, fun _ => .nil, FunD.bindsN (ps := ["self"]) F fun _ _ _ _ _ _ us hl => match us, hl with | [_], _ => rfl⟩
  have Dk_Log_M_eq : MethK K "Log" "__eq__" "Log.__eq__" (He.fAd K ("Log", some "__eq__")) s_Log_M_eq ["self", "other"] [[]] := by
    obtain ⟨fd, F⟩ := c.def_ 17 (d := d_Log_M_eq) rfl
    refine ⟨fd, _, _, F, He.meth_ok (c.fact 46 (f := .meth "Log" "__eq__") rfl), fun dd h => ?_⟩
    simp only [List.mem_singleton] at h
    subst h
    exact ⟨[], [], .nil, fun _ => .nil, FunD.bindsN (ps := ["self", "other"]) F fun _ _ _ _ _ _ us hl => match us, hl with | [_, _], _ => rfl⟩
  have Dk_Log_M_need_square : MethK K "Log" "need_square" "Log.need_square" (He.fAd K ("Log", some "need_square")) s_Log_M_need_square ["self", "row", "column"] [[]] := by
    obtain ⟨fd, F⟩ := c.def_ 18 (d := d_Log_M_need_square) rfl
    refine ⟨fd, _, _, F, He.meth_ok (c.fact 47 (f := .meth "Log" "need_square") rfl), fun dd h => ?_⟩
    simp only [List.mem_singleton] at h
    subst h
    exact ⟨[], [], .nil, fun _ => .nil, FunD.bindsN (ps := ["self", "row", "column"]) F fun _ _ _ _ _ _ us hl => match us, hl with | [_, _, _], _ => rfl⟩
  have Dk_Log_M_add : MethK K "Log" "add" "Log.add" (He.fAd K ("Log", some "add")) s_Log_M_add ["self", "row", "column", "one", "day"] [[], [.int (0)]] := by
    obtain ⟨fd, F⟩ := c.def_ 19 (d := d_Log_M_add) rfl
    refine ⟨fd, _, _, F, He.meth_ok (c.fact 48 (f := .meth "Log" "add") rfl), fun dd h => ?_⟩
    simp only [List.mem_cons, List.not_mem_nil, or_false] at h
    rcases h with rfl | rfl
    · obtain ⟨ds, v, b⟩ := FunD.binds1 (ps := ["self", "row", "column", "one", "day"]) F 5 1 (by intro z; cases z) rfl (fun T kV doc pm an cdv ct us its h1 h2 => match us, h1, its, h2 with | [_, _, _, _, _], _, [_], _ => ⟨_, rfl, rfl⟩)
      exact ⟨_, ds, v, fun _ => .nil, b⟩
    · obtain ⟨ds, v, b⟩ := FunD.binds1 (ps := ["self", "row", "column", "one", "day"]) F 4 0 (by intro z; cases z) rfl (fun T kV doc pm an cdv ct us its h1 h2 => match us, h1, its, h2 with | [_, _, _, _], _, [_], _ => ⟨_, rfl, rfl⟩)
      exact ⟨_, ds, v, fun _ => .cons (.int _) .nil, b⟩
  have Dk_Log_M_chart : MethK K "Log" "chart" "Log.chart" (He.fAd K ("Log", some "chart")) s_Log_M_chart ["self", "day"] [[], [.int (999)]] := by
    obtain ⟨fd, F⟩ := c.def_ 20 (d := d_Log_M_chart) rfl
    refine ⟨fd, _, _, F, He.meth_ok (c.fact 49 (f := .meth "Log" "chart") rfl), fun dd h => ?_⟩
    simp only [List.mem_cons, List.not_mem_nil, or_false] at h
    rcases h with rfl | rfl
    · obtain ⟨ds, v, b⟩ := FunD.binds1 (ps := ["self", "day"]) F 2 1 (by intro z; cases z) rfl (fun T kV doc pm an cdv ct us its h1 h2 => match us, h1, its, h2 with | [_, _], _, [_], _ => ⟨_, rfl, rfl⟩)
      exact ⟨_, ds, v, fun _ => .nil, b⟩
    · obtain ⟨ds, v, b⟩ := FunD.binds1 (ps := ["self", "day"]) F 1 0 (by intro z; cases z) rfl (fun T kV doc pm an cdv ct us its h1 h2 => match us, h1, its, h2 with | [_], _, [_], _ => ⟨_, rfl, rfl⟩)
      exact ⟨_, ds, v, fun _ => .cons (.int _) .nil, b⟩
  obtain ⟨fl, Fl⟩ := c.def_ 13 (d := d_law) rfl
  have e := hfa.symm.trans (He.glo_ok X G (c.fact 13 (f := .glo "law") rfl))
  cases e
  refine ⟨fl, fun s v => FunD.bindsA (ps := ["_law_script"]) Fl (fun _ _ _ _ _ _ us hl => match us, hl with | [_], _ => rfl) s [v] rfl, fun base => ?_⟩
  have Gb : DefBox P w K mg base 1 "_law_box" (He.ga K "_law_box") "_law_script" f_law_box N__law_box.length := ⟨fb, gb, Fb.kp, ok_law_box T Fb, Bb⟩
  have G_is_clock := ok_is_clock (P := P) (w := w) (base := base) T  Dk_is_clock
  have G_need_clock := ok_need_clock (P := P) (w := w) (base := base) T G_is_clock Dk_need_clock
  have G_need_side := ok_need_side (P := P) (w := w) (base := base) T  Dk_need_side
  have G_Log_M_init := ok_Log_M_init (P := P) (w := w) (base := base) T G_need_clock G_need_side Dk_Log_M_init
  have G_Log_M_entries := ok_Log_M_entries (P := P) (w := w) (base := base) T  Dk_Log_M_entries
  have G_Log_M_plain := ok_Log_M_plain (P := P) (w := w) (base := base) T G_Log_M_entries Dk_Log_M_plain
  have G_Log_M_eq := ok_Log_M_eq (P := P) (w := w) (base := base) T G_Log_M_plain Dk_Log_M_eq
  have G_need_day := ok_need_day (P := P) (w := w) (base := base) T  Dk_need_day
  have G_need_one := ok_need_one (P := P) (w := w) (base := base) T  Dk_need_one
  have G_Log_M_need_square := ok_Log_M_need_square (P := P) (w := w) (base := base) T  Dk_Log_M_need_square
  have G_Log_M_add := ok_Log_M_add (P := P) (w := w) (base := base) T G_need_day G_need_one G_Log_M_need_square Dk_Log_M_add
  have G_Log_M_chart := ok_Log_M_chart (P := P) (w := w) (base := base) T G_Log_M_entries G_need_day Dk_Log_M_chart
  have G__law_mixed := ok__law_mixed (P := P) (w := w) (base := base) T  Dk__law_mixed
  have G__law_take := ok__law_take (P := P) (w := w) (base := base) T G__law_mixed Dk__law_take
  have G__law_clock := ok__law_clock (P := P) (w := w) (base := base) T G__law_take Dk__law_clock
  have G__law_what := ok__law_what (P := P) (w := w) (base := base) T  Dk__law_what
  have G__law_day := ok__law_day (P := P) (w := w) (base := base) T G__law_take Dk__law_day
  have G__law_one := ok__law_one (P := P) (w := w) (base := base) T G__law_take Dk__law_one
  have G__law_shuffled := ok__law_shuffled (P := P) (w := w) (base := base) T G__law_take Dk__law_shuffled
  exact ok_law T Gb law_box_run G_Log_M_init G_Log_M_eq G_Log_M_add G_Log_M_chart G__law_take G__law_clock G__law_what G__law_day G__law_one G__law_shuffled Fl
end LW
open PySem PySem.W PySem.Calls PyProof.Rows
set_option maxHeartbeats 0 in
theorem PySem.Challenge.cw_cotide_k35_whole_entries_in_any_order_holds : PySem.Challenge.rw_cotide_k35_whole_entries_in_any_order.Holds := by
  w_on; o_law
  refine HandSHeadRun.head_any (r := OpenLaw.row PySem.Challenge.rw_cotide_k35_whole_entries_in_any_order) (q := view (OpenLaw.row PySem.Challenge.rw_cotide_k35_whole_entries_in_any_order).prog [34]) (H := LW.hk) (ob := LW.ob) (M := 20000) (loose := LW.nms) (d := HandSHeadRun.topDef (OpenLaw.row PySem.Challenge.rw_cotide_k35_whole_entries_in_any_order).prog 34) (kwd := []) LW.ob_eq
    (by kernel_rfl) (fun s => by kernel_rfl) LW.run (by kernel_rfl) (by kernel_rfl) (by kernel_rfl) (by rfl) (by first | assumption | decide +kernel) (by decide +kernel) ⟨rfl, rfl, rfl, rfl, rfl, by decide +kernel⟩ ?hw ?hc
  case hw => w_witness2
  case hc =>
    refine DL.walk_ofEB (l := PySem.Challenge.rw_cotide_k35_whole_entries_in_any_order) (n := 63) (k := 5) (x := "_law_script") (CX := fun w => L2N.CX (PySem.Challenge.rw_cotide_k35_whole_entries_in_any_order).prog w) rfl (by decide) (by kernel_rfl) ⟨rfl, by decide, by decide⟩ ?F (fun _ _ _ _ _ z => by
      obtain ⟨_, _, _, _, _, _, _, _, _, _, _, _, q⟩ := z
      exact q.elim)
    intro w mg fa h Y G hmg0
    obtain ⟨K, KX, c⟩ := Y
    have hmg : mg ("law" : PySem.Str) = some (.ref fa) := by
      have e : (HandSHeadRun.topDef (OpenLaw.row PySem.Challenge.rw_cotide_k35_whole_entries_in_any_order).prog 34).name = ("law" : PySem.Str) := by kernel_rfl
      rw [← e]
      exact hmg0
    obtain ⟨fd, hb, hF⟩ := LW.facts (P := (PySem.Challenge.rw_cotide_k35_whole_entries_in_any_order).prog) (w := w) KX G hmg c.t.d c.more
    exact ⟨K, fd, DL.spLaw K LW.f_law LW.N_law.length, KX, hb, fun H a ns hl hbits _ hS => ⟨a, ns, rfl, hS, hl, LW.law_true a ns hl hbits, fun _ => rfl⟩, fun base _ _ => hF base⟩
