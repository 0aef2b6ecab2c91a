import PyProof.Rows.All
import Wide.All
import OpenK.AllK
import Wide.FinOn
import HandS.HeadHook4
import HandS.HeadWalk
import HandS.Head2
import HandS.ForMost
import HandS.ForExc
import HandS.IsInst
import HandS.Wide
import HandS.Walk
import HandS.Flow
import HandS.Lambda
import HandS.TupMul
import HandS.TupAny
import HandS.TupLe
import HandS.Deep
import HandS.WordsDict
import HandS.WordsExc
import HandS.Defaults
import HandS.EndBits
import HandS.RevRange
import HandS.Conv
import KE.GoesEnum
import KE.GoesMore
import HandS.More
import HandS.Small
import HandS.Zip
import HandS.SortInts
import HandS.TryOnly
import HandS.TryMany
import HandS.TupSets
import HandS.SetFor
import HandS.CallLocal
import HandS.Sort
import HandS.SortOrd
import HandS.Style
import HandS.Text
import HandS.ListItems
import HandS.Iter
import HandS.Strs
import HandS.HeadHook3
import KE.KDictDisplayH
import HandS.ExcInit
import HandS.ExcField
import HandS.Call
import KE.SortKeyHeap
import PySem.Challenge.RW_censers_k51_listeners_come_and_go
set_option Elab.async false
set_option linter.all false
set_option maxRecDepth 100000
set_option maxHeartbeats 2000000
namespace Cz
open PySem PySem.Spec PyProof.Rows L2
abbrev FaB := PySem.W.Frag → Bool
def allHB (l : List (List FaB)) : FaB := fun K => l.all fun r => r.all fun f => f K
theorem atHB {l : List (List FaB)} {K : PySem.W.Frag} (h : allHB l K = true) (j k : Nat) {r : List FaB} {f : FaB} (hj : l[j]? = some r) (hk : r[k]? = some f) : f K = true :=
  List.all_eq_true.mp (List.all_eq_true.mp h r (List.mem_of_getElem? hj)) f (List.mem_of_getElem? hk)
def intHB (a : PySem.W.Frag → Addr) (x : Str) (i : Int) : FaB := fun K => match PySem.W.nsIn K (a K) x with
  | some (some (.int j _)) => decide (j = i)
  | _ => false
theorem intHB_ok {K : PySem.W.Frag} {a : PySem.W.Frag → Addr} {x : Str} {i : Int} (h : intHB a x i K = true) : ∃ t, PySem.W.nsIn K (a K) x = some (some (.int i t)) := by
  unfold intHB at h
  split at h
  · rename_i j t e
    rw [of_decide_eq_true h] at e
    exact ⟨t, e⟩
  · cases h
def strHB (x z : Str) : FaB := fun K => match PySem.W.nsIn K mainGlobals x with
  | some (some (.str y _)) => decide (y = z)
  | _ => false
theorem strHB_ok {K : PySem.W.Frag} {x z : Str} (h : strHB x z K = true) : ∃ t, PySem.W.nsIn K mainGlobals x = some (some (.str z t)) := by
  unfold strHB at h
  split at h
  · rename_i j t e
    rw [of_decide_eq_true h] at e
    exact ⟨t, e⟩
  · cases h
end Cz
set_option maxHeartbeats 2000000
namespace Cz
open PySem PySem.Spec PyProof.Rows L2
def nxO (o : Obj) : List Addr := match o.data with
  | .seq its _ => its.toList.flatMap He.refV
  | .dict es _ => es.toList.flatMap fun e => He.refV e.val
  | .func fd => He.refV fd.code ++ He.refV fd.defaults
  | .cls cd => [cd.ns]
  | _ => []
def nxL (g : Addr → Option Obj) (l : List Addr) : List Addr := l.flatMap fun a => match g a with
  | some o => nxO o
  | none => []
def stD : He.Defn := (Str.ofString "Room", some (Str.ofString "standings"))
def tabOnly (K : PySem.W.Frag) : Bool := K.all fun q => match q.2.data with
  | .fields vs => (match vs.toList with
    | _ :: .str n _ :: _ => n != Str.ofString "Room.standings" || (match (vs[11]? : Option Value) with
      | some (.ref P) => P == (He.cT K stD).2
      | _ => true)
    | _ => true)
  | _ => true
def asY (g : Addr → Option Obj) : List Addr := [mainGlobals, cStatics] ++ (nxL g [mainGlobals] ++ (nxL g (nxL g [mainGlobals]) ++ (nxL g (nxL g (nxL g [mainGlobals])) ++ nxL g (nxL g (nxL g (nxL g [mainGlobals]))))))
def obsY (fn : List He.DefD) (ts : List He.Tab) (tf : List He.Defn) (ex : PySem.W.Frag → Bool) (g : Addr → Option Obj) : He.AlX := (He.obsT [] fn ts (He.frT g (asY g)), ex (He.frT g (asY g)) && He.tabsB g tf (He.frT g (asY g)))
theorem saysY_of {fn : List He.DefD} {ts : List He.Tab} {tf : List He.Defn} {ex : PySem.W.Frag → Bool} {w : World} {h : Heap} (e : obsY fn ts tf ex h.get? = He.valX fn ts w) : He.SaysX [] fn ts tf ex w h (He.frT h.get? (asY h.get?)) := by
  have e1 : He.obsT [] fn ts (He.frT h.get? (asY h.get?)) = He.valT fn ts w := congrArg (fun z : He.AlX => z.1) e
  have e2 : (ex (He.frT h.get? (asY h.get?)) && He.tabsB h.get? tf (He.frT h.get? (asY h.get?))) = true := congrArg (fun z : He.AlX => z.2) e
  obtain ⟨h1, h2⟩ := Bool.and_eq_true_iff.mp e2
  have key : ∀ p ∈ tf, PySem.W.codeHdIn (He.frT h.get? (asY h.get?)) (He.cT (He.frT h.get? (asY h.get?)) p).1 (He.cT (He.frT h.get? (asY h.get?)) p).2 = true ∧ ∃ o, h.get? (He.cT (He.frT h.get? (asY h.get?)) p).2 = some o ∧ He.emptyTab o = true := fun p hp => by
    obtain ⟨h3, h4⟩ := Bool.and_eq_true_iff.mp (List.all_eq_true.mp h2 p hp)
    refine ⟨h3, ?_⟩
    cases q : h.get? (He.cT (He.frT h.get? (asY h.get?)) p).2 with
    | none =>
      rw [q] at h4
      cases h4
    | some o =>
      rw [q] at h4
      exact ⟨o, rfl, h4⟩
  exact ⟨e1, h1, fun p hp => (key p hp).1, fun p hp => by
    obtain ⟨_, o, q, z⟩ := key p hp
    exact He.frT_none q z, fun p hp => by
    obtain ⟨_, o, q, z⟩ := key p hp
    rw [q, He.emptyTab_eq z]⟩
def hookY (fn : List He.DefD) (ts : List He.Tab) (tf : List He.Defn) (ex : PySem.W.Frag → Bool) : PySem.W.Hook where
  α := He.AlX
  obs := fun s => obsY fn ts tf ex s.heap.get?
  val := fun w => He.valX fn ts w
  says := fun w h => ∃ K : PySem.W.Frag, K.In h ∧ He.SaysX [] fn ts tf ex w h K
  of := fun _ _ e => ⟨_, He.frT_in, saysY_of e⟩
  keeps := fun _ _ _ ⟨K, hK, c⟩ k => ⟨K, PySem.W.Frag.In.keeps hK k, ⟨c.t, c.more, c.hd, c.out, fun p hp => k _ _ (c.empty p hp)⟩⟩
theorem obsY_eq {fn : List He.DefD} {ts : List He.Tab} {tf : List He.Defn} {ex : PySem.W.Frag → Bool} {g : Addr → Option Obj} {s : Shared} (h : ∀ a, g a = s.heap.get? a) : obsY fn ts tf ex g = (hookY fn ts tf ex).obs s := by
  have e : g = s.heap.get? := funext h
  rw [e] <;> rfl
open HandSHeadRun PySem.W
noncomputable abbrev endQ (r : OpenRow) (M : Nat) (w : World) (os : OsState) : Option SharedT := endF (stepQ (denQ tabQ) r.prog w) M r.prog w os
theorem run_parts {r : OpenRow} {q : Program} {H : Hook} {ob : SharedT → H.α} {M : Nat} {loose : List PySem.Str} {w : World}
    (h1 : ∀ os, (endQ r M w os).map (fun s => (looksF r.prog (boot_heap w.params) s.abs, seenQ q loose (importedModules r.prog.main.body) (fun s => xlAt q [] s && recOk r.toRowW.records s) s.abs)) = some (true, openGood q loose))
    (h3 : ∀ os, (endQ r M w os).map ob = some (H.val w)) : RunEq r q H ob M loose w := fun os => by
  have a := h1 os
  have b := h3 os
  show (endQ r M w os).map (fun s => (looksF r.prog (boot_heap w.params) s.abs, seenQ q loose (importedModules r.prog.main.body) (fun s => xlAt q [] s && recOk r.toRowW.records s) s.abs, ob s)) = _
  cases e : endQ r M w os with
  | none => rw [e] at a; cases a
  | some s =>
    rw [e] at a b
    simp only [Option.map_some, Option.some.injEq, Prod.mk.injEq] at a b ⊢
    exact ⟨a.1, a.2, b⟩
theorem run_rows {r : OpenRow} {q : Program} {H : Hook} {ob : SharedT → H.α} {M : Nat} {loose : List PySem.Str} (row : String)
    (hf : ∀ w : World, RunEq r q H ob M loose (w.withFollow row false)) (ht : ∀ w : World, RunEq r q H ob M loose (w.withFollow row true)) (w : World) : RunEq r q H ob M loose w :=
  byRow2 row (P := fun w => RunEq r q H ob M loose w) hf ht w
end Cz
set_option maxHeartbeats 4000000
namespace Cz
open PySem PySem.Spec PyProof.Rows L2
def topS (i : Nat) : Stmt := PySem.Challenge.pw_censers_k51_listeners_come_and_go.main.body.getD i (.Pass ⟨0, 0, 0, 0⟩)
end Cz
namespace Hd
open PySem PySem.Spec PyProof.Rows L2 Cz
abbrev RW : PySem.W.OpenRow := PySem.W.OpenLaw.row PySem.Challenge.rw_censers_k51_listeners_come_and_go
def exL0 : List FaB := [fun K => decide (PySem.W.nsIn K mainGlobals "Sayings" = some (some (.ref (He.ga K "Sayings")))),
  fun K => decide (PySem.W.plainGet K (He.ga K "Sayings") Str.empty = true),
  fun K => decide (PySem.W.hasDictIn K (He.ga K "Sayings") = true),
  fun K => decide (PySem.W.plainOver K (He.ga K "Sayings") = true),
  fun K => decide (PySem.W.findIn K (.ref (He.ga K "Sayings")) "__setattr__" = some (some (.builtin "object.__setattr__"))),
  fun K => decide (PySem.W.makesIn K (He.ga K "Sayings") = true),
  fun K => decide (PySem.W.keepIn K (.ref (He.ga K "Sayings")) = true),
  fun K => decide (PySem.W.findIn K (.ref (He.ga K "Sayings")) "given" = some none),
  fun K => decide (PySem.W.findIn K (.ref (He.ga K "Sayings")) "size" = some none),
  fun K => decide (PySem.W.nsIn K mainGlobals "Tray" = some (some (.ref (He.ga K "Tray")))),
  fun K => decide (PySem.W.plainGet K (He.ga K "Tray") Str.empty = true),
  fun K => decide (PySem.W.hasDictIn K (He.ga K "Tray") = true),
  fun K => decide (PySem.W.plainOver K (He.ga K "Tray") = true),
  fun K => decide (PySem.W.findIn K (.ref (He.ga K "Tray")) "__setattr__" = some (some (.builtin "object.__setattr__"))),
  fun K => decide (PySem.W.makesIn K (He.ga K "Tray") = true),
  fun K => decide (PySem.W.keepIn K (.ref (He.ga K "Tray")) = true),
  fun K => decide (PySem.W.findIn K (.ref (He.ga K "Tray")) "stock" = some none),
  fun K => decide (PySem.W.nsIn K mainGlobals "Room" = some (some (.ref (He.ga K "Room")))),
  fun K => decide (PySem.W.plainGet K (He.ga K "Room") Str.empty = true),
  fun K => decide (PySem.W.hasDictIn K (He.ga K "Room") = true),
  fun K => decide (PySem.W.plainOver K (He.ga K "Room") = true),
  fun K => decide (PySem.W.findIn K (.ref (He.ga K "Room")) "__setattr__" = some (some (.builtin "object.__setattr__"))),
  fun K => decide (PySem.W.makesIn K (He.ga K "Room") = true),
  fun K => decide (PySem.W.keepIn K (.ref (He.ga K "Room")) = true),
  fun K => decide (PySem.W.findIn K (.ref (He.ga K "Room")) "box" = some none),
  fun K => decide (PySem.W.findIn K (.ref (He.ga K "Room")) "ended" = some none),
  fun K => decide (PySem.W.findIn K (.ref (He.ga K "Room")) "filled" = some none),
  fun K => decide (PySem.W.findIn K (.ref (He.ga K "Room")) "heard" = some none),
  fun K => decide (PySem.W.findIn K (.ref (He.ga K "Room")) "lifted" = some none),
  fun K => decide (PySem.W.findIn K (.ref (He.ga K "Room")) "people" = some none)]
def exL1 : List FaB := [fun K => decide (PySem.W.findIn K (.ref (He.ga K "Room")) "scores" = some none),
  fun K => decide (PySem.W.findIn K (.ref (He.ga K "Room")) "wrote" = some none),
  fun K => decide (PySem.W.nsIn K mainGlobals "look_many" = some (some (.ref (He.fAd K ("look_many", none))))),
  fun K => decide (PySem.W.findIn K (.ref (He.ga K "Sayings")) "__init__" = some (some (.ref (He.fAd K ("Sayings", some "__init__"))))),
  fun K => decide (PySem.W.isFn K (.ref (He.fAd K ("Sayings", some "__init__"))) = true),
  fun K => decide (PySem.W.nsIn K mainGlobals "good_name" = some (some (.ref (He.fAd K ("good_name", none))))),
  fun K => decide (PySem.W.findIn K (.ref (He.ga K "Tray")) "__init__" = some (some (.ref (He.fAd K ("Tray", some "__init__"))))),
  fun K => decide (PySem.W.isFn K (.ref (He.fAd K ("Tray", some "__init__"))) = true),
  fun K => decide (PySem.W.findIn K (.ref (He.ga K "Room")) "__init__" = some (some (.ref (He.fAd K ("Room", some "__init__"))))),
  fun K => decide (PySem.W.isFn K (.ref (He.fAd K ("Room", some "__init__"))) = true),
  fun K => decide (PySem.W.findIn K (.ref (He.ga K "Room")) "look_listener" = some (some (.ref (He.fAd K ("Room", some "look_listener"))))),
  fun K => decide (PySem.W.isFn K (.ref (He.fAd K ("Room", some "look_listener"))) = true),
  fun K => decide (PySem.W.findIn K (.ref (He.ga K "Room")) "come" = some (some (.ref (He.fAd K ("Room", some "come"))))),
  fun K => decide (PySem.W.isFn K (.ref (He.fAd K ("Room", some "come"))) = true),
  fun K => decide (PySem.W.findIn K (.ref (He.ga K "Room")) "leave" = some (some (.ref (He.fAd K ("Room", some "leave"))))),
  fun K => decide (PySem.W.isFn K (.ref (He.fAd K ("Room", some "leave"))) = true),
  fun K => decide (PySem.W.findIn K (.ref (He.ga K "Room")) "listeners" = some (some (.ref (He.fAd K ("Room", some "listeners"))))),
  fun K => decide (PySem.W.isFn K (.ref (He.fAd K ("Room", some "listeners"))) = true),
  fun K => decide (PySem.W.findIn K (.ref (He.ga K "Room")) "points" = some (some (.ref (He.fAd K ("Room", some "points"))))),
  fun K => decide (PySem.W.isFn K (.ref (He.fAd K ("Room", some "points"))) = true),
  fun K => decide (PySem.W.findIn K (.ref (He.ga K "Room")) "standings" = some (some (.ref (He.fAd K ("Room", some "standings"))))),
  fun K => decide (PySem.W.isFn K (.ref (He.fAd K ("Room", some "standings"))) = true),
  fun K => decide (PySem.W.nsIn K mainGlobals "_law_draw" = some (some (.ref (He.fAd K ("_law_draw", none))))),
  fun K => decide (PySem.W.nsIn K mainGlobals "_law_cell" = some (some (.ref (He.fAd K ("_law_cell", none))))),
  fun K => decide (PySem.W.nsIn K mainGlobals "_law_many" = some (some (.ref (He.fAd K ("_law_many", none))))),
  fun K => decide (PySem.W.nsIn K mainGlobals "_law_num" = some (some (.ref (He.fAd K ("_law_num", none))))),
  fun K => decide (PySem.W.nsIn K mainGlobals "_law_split" = some (some (.ref (He.fAd K ("_law_split", none))))),
  fun K => decide (PySem.W.nsIn K mainGlobals "_law_refused" = some (some (.ref (He.fAd K ("_law_refused", none))))),
  fun K => decide (PySem.W.nsIn K mainGlobals "_law_names" = some (some (.ref (He.fAd K ("_law_names", none))))),
  fun K => decide (PySem.W.nsIn K mainGlobals "_law_woods" = some (some (.ref (He.fAd K ("_law_woods", none)))))]
def exL2 : List FaB := [fun K => decide (PySem.W.nsIn K mainGlobals "_law_pair_of_wood" = some (some (.ref (He.fAd K ("_law_pair_of_wood", none))))),
  fun K => decide (PySem.W.nsIn K mainGlobals "_law_total" = some (some (.ref (He.fAd K ("_law_total", none))))),
  fun K => decide (PySem.W.nsIn K mainGlobals "_law_saying_ok" = some (some (.ref (He.fAd K ("_law_saying_ok", none))))),
  fun K => decide (PySem.W.nsIn K mainGlobals "_law_model" = some (some (.ref (He.fAd K ("_law_model", none))))),
  fun K => decide (PySem.W.nsIn K mainGlobals "_law_name_ok" = some (some (.ref (He.fAd K ("_law_name_ok", none))))),
  fun K => decide (PySem.W.nsIn K mainGlobals "_law_come" = some (some (.ref (He.fAd K ("_law_come", none))))),
  fun K => decide (PySem.W.nsIn K mainGlobals "_law_leave" = some (some (.ref (He.fAd K ("_law_leave", none))))),
  fun K => decide (PySem.W.nsIn K mainGlobals "_law_result_ok" = some (some (.ref (He.fAd K ("_law_result_ok", none))))),
  fun K => decide (PySem.W.nsIn K mainGlobals "_law_pairs_told" = some (some (.ref (He.fAd K ("_law_pairs_told", none))))),
  fun K => decide (PySem.W.nsIn K mainGlobals "_law_points" = some (some (.ref (He.fAd K ("_law_points", none))))),
  fun K => decide (PySem.W.nsIn K mainGlobals "_law_standings" = some (some (.ref (He.fAd K ("_law_standings", none))))),
  fun K => decide (PySem.W.nsIn K mainGlobals "_law_people_ok" = some (some (.ref (He.fAd K ("_law_people_ok", none))))),
  fun K => decide (PySem.W.nsIn K mainGlobals "_law_begun" = some (some (.ref (He.fAd K ("_law_begun", none))))),
  fun K => decide (PySem.W.nsIn K mainGlobals "_law_rich_woods" = some (some (.ref (He.fAd K ("_law_rich_woods", none))))),
  fun K => decide (PySem.W.nsIn K mainGlobals "_law_tried" = some (some (.ref (He.fAd K ("_law_tried", none))))),
  fun K => decide (PySem.W.nsIn K mainGlobals "_law_drawn" = some (some (.ref (He.fAd K ("_law_drawn", none))))),
  fun K => decide (PySem.W.nsIn K mainGlobals "law" = some (some (.ref (He.fAd K ("law", none))))),
  intHB (fun _ => mainGlobals) "GREATEST" 9,
  strHB "LETTERS" "abcdefghijklmnopqrstuvwxyz",
  intHB (fun _ => mainGlobals) "SEATS" 9,
  fun K => decide (PySem.W.nsIn K mainGlobals "all" = some none),
  fun K => decide (PySem.W.nsIn K mainGlobals "bool" = some none),
  fun K => decide (PySem.W.nsIn K mainGlobals "int" = some none),
  fun K => decide (PySem.W.nsIn K mainGlobals "isinstance" = some none),
  fun K => decide (PySem.W.nsIn K mainGlobals "len" = some none),
  fun K => decide (PySem.W.nsIn K mainGlobals "list" = some none),
  fun K => decide (PySem.W.nsIn K mainGlobals "max" = some none),
  fun K => decide (PySem.W.nsIn K mainGlobals "min" = some none),
  fun K => decide (PySem.W.nsIn K mainGlobals "range" = some none),
  fun K => decide (PySem.W.nsIn K mainGlobals "sorted" = some none)]
def exL3 : List FaB := [fun K => decide (PySem.W.nsIn K mainGlobals "str" = some none),
  fun K => decide (PySem.W.nsIn K mainGlobals "sum" = some none),
  fun K => decide (PySem.W.nsIn K mainGlobals "tuple" = some none),
  fun K => decide (PySem.W.nsIn K mainGlobals "BadMany" = some (some (.ref (He.ga K "BadMany")))),
  fun K => decide (PySem.W.subIn K (.ref (He.ga K "BadMany")) (.type "BaseException") = some true),
  fun K => decide (PySem.W.typeIn K (.ref (He.ga K "BadMany")) = some (.type "type")),
  fun K => decide (PySem.W.keepIn K (.ref (He.ga K "BadMany")) = true),
  fun K => decide (PySem.W.excIn K (He.ga K "BadMany") [.type "ValueError", .type "Exception", .type "BaseException", .type "object"] "ValueError.__new__" = true),
  fun K => decide (PySem.W.nsIn K mainGlobals "BadName" = some (some (.ref (He.ga K "BadName")))),
  fun K => decide (PySem.W.subIn K (.ref (He.ga K "BadName")) (.type "BaseException") = some true),
  fun K => decide (PySem.W.typeIn K (.ref (He.ga K "BadName")) = some (.type "type")),
  fun K => decide (PySem.W.keepIn K (.ref (He.ga K "BadName")) = true),
  fun K => decide (PySem.W.excIn K (He.ga K "BadName") [.type "ValueError", .type "Exception", .type "BaseException", .type "object"] "ValueError.__new__" = true),
  fun K => decide (PySem.W.nsIn K mainGlobals "BadTray" = some (some (.ref (He.ga K "BadTray")))),
  fun K => decide (PySem.W.subIn K (.ref (He.ga K "BadTray")) (.type "BaseException") = some true),
  fun K => decide (PySem.W.typeIn K (.ref (He.ga K "BadTray")) = some (.type "type")),
  fun K => decide (PySem.W.keepIn K (.ref (He.ga K "BadTray")) = true),
  fun K => decide (PySem.W.excIn K (He.ga K "BadTray") [.type "ValueError", .type "Exception", .type "BaseException", .type "object"] "ValueError.__new__" = true),
  fun K => decide (PySem.W.nsIn K mainGlobals "Full" = some (some (.ref (He.ga K "Full")))),
  fun K => decide (PySem.W.subIn K (.ref (He.ga K "Full")) (.type "BaseException") = some true),
  fun K => decide (PySem.W.typeIn K (.ref (He.ga K "Full")) = some (.type "type")),
  fun K => decide (PySem.W.keepIn K (.ref (He.ga K "Full")) = true),
  fun K => decide (PySem.W.excIn K (He.ga K "Full") [.type "ValueError", .type "Exception", .type "BaseException", .type "object"] "ValueError.__new__" = true),
  fun K => decide (PySem.W.nsIn K mainGlobals "NoListener" = some (some (.ref (He.ga K "NoListener")))),
  fun K => decide (PySem.W.subIn K (.ref (He.ga K "NoListener")) (.type "BaseException") = some true),
  fun K => decide (PySem.W.typeIn K (.ref (He.ga K "NoListener")) = some (.type "type")),
  fun K => decide (PySem.W.keepIn K (.ref (He.ga K "NoListener")) = true),
  fun K => decide (PySem.W.excIn K (He.ga K "NoListener") [.type "ValueError", .type "Exception", .type "BaseException", .type "object"] "ValueError.__new__" = true),
  fun K => decide (PySem.W.nsIn K mainGlobals "Taken" = some (some (.ref (He.ga K "Taken")))),
  fun K => decide (PySem.W.subIn K (.ref (He.ga K "Taken")) (.type "BaseException") = some true)]
def exL4 : List FaB := [fun K => decide (PySem.W.typeIn K (.ref (He.ga K "Taken")) = some (.type "type")),
  fun K => decide (PySem.W.keepIn K (.ref (He.ga K "Taken")) = true),
  fun K => decide (PySem.W.excIn K (He.ga K "Taken") [.type "ValueError", .type "Exception", .type "BaseException", .type "object"] "ValueError.__new__" = true),
  fun K => decide (PySem.W.subIn K (.ref (He.ga K "BadMany")) (.ref (He.ga K "BadName")) = some false),
  fun K => decide (PySem.W.isClsIn K (He.ga K "BadName") = true),
  fun K => decide (PySem.W.subIn K (.ref (He.ga K "BadMany")) (.ref (He.ga K "Full")) = some false),
  fun K => decide (PySem.W.isClsIn K (He.ga K "Full") = true),
  fun K => decide (PySem.W.subIn K (.ref (He.ga K "BadMany")) (.ref (He.ga K "NoListener")) = some false),
  fun K => decide (PySem.W.isClsIn K (He.ga K "NoListener") = true),
  fun K => decide (PySem.W.subIn K (.ref (He.ga K "BadMany")) (.ref (He.ga K "Taken")) = some false),
  fun K => decide (PySem.W.isClsIn K (He.ga K "Taken") = true),
  fun K => decide (PySem.W.subIn K (.ref (He.ga K "BadName")) (.ref (He.ga K "BadName")) = some true),
  fun K => decide (PySem.W.subIn K (.ref (He.ga K "BadName")) (.ref (He.ga K "Full")) = some false),
  fun K => decide (PySem.W.subIn K (.ref (He.ga K "BadName")) (.ref (He.ga K "NoListener")) = some false),
  fun K => decide (PySem.W.subIn K (.ref (He.ga K "BadName")) (.ref (He.ga K "Taken")) = some false),
  fun K => decide (PySem.W.subIn K (.ref (He.ga K "Full")) (.ref (He.ga K "BadName")) = some false),
  fun K => decide (PySem.W.subIn K (.ref (He.ga K "Full")) (.ref (He.ga K "Full")) = some true),
  fun K => decide (PySem.W.subIn K (.ref (He.ga K "Full")) (.ref (He.ga K "NoListener")) = some false),
  fun K => decide (PySem.W.subIn K (.ref (He.ga K "Full")) (.ref (He.ga K "Taken")) = some false),
  fun K => decide (PySem.W.subIn K (.ref (He.ga K "NoListener")) (.ref (He.ga K "BadName")) = some false),
  fun K => decide (PySem.W.subIn K (.ref (He.ga K "NoListener")) (.ref (He.ga K "Full")) = some false),
  fun K => decide (PySem.W.subIn K (.ref (He.ga K "NoListener")) (.ref (He.ga K "NoListener")) = some true),
  fun K => decide (PySem.W.subIn K (.ref (He.ga K "NoListener")) (.ref (He.ga K "Taken")) = some false),
  fun K => decide (PySem.W.subIn K (.ref (He.ga K "Taken")) (.ref (He.ga K "BadName")) = some false),
  fun K => decide (PySem.W.subIn K (.ref (He.ga K "Taken")) (.ref (He.ga K "Full")) = some false),
  fun K => decide (PySem.W.subIn K (.ref (He.ga K "Taken")) (.ref (He.ga K "NoListener")) = some false),
  fun K => decide (PySem.W.subIn K (.ref (He.ga K "Taken")) (.ref (He.ga K "Taken")) = some true),
  tabOnly]
def exL : List (List FaB) := [exL0, exL1, exL2, exL3, exL4]
def dD0 : He.DefD := ⟨("look_many", none), "look_many", "look_many", defArgs (topS 25), defBody (topS 25), defScope (topS 25), [], []⟩
def dD1 : He.DefD := ⟨("Sayings", some "__init__"), "__init__", "Sayings.__init__", defArgs (inClass (topS 41) 0), defBody (inClass (topS 41) 0), defScope (inClass (topS 41) 0), [], []⟩
def dD2 : He.DefD := ⟨("good_name", none), "good_name", "good_name", defArgs (topS 44), defBody (topS 44), defScope (topS 44), [], []⟩
def dD3 : He.DefD := ⟨("Tray", some "__init__"), "__init__", "Tray.__init__", defArgs (inClass (topS 45) 0), defBody (inClass (topS 45) 0), defScope (inClass (topS 45) 0), [], []⟩
def dD4 : He.DefD := ⟨("Room", some "__init__"), "__init__", "Room.__init__", defArgs (inClass (topS 48) 0), defBody (inClass (topS 48) 0), defScope (inClass (topS 48) 0), [], []⟩
def dD5 : He.DefD := ⟨("Room", some "look_listener"), "look_listener", "Room.look_listener", defArgs (inClass (topS 48) 1), defBody (inClass (topS 48) 1), defScope (inClass (topS 48) 1), [], []⟩
def dD6 : He.DefD := ⟨("Room", some "come"), "come", "Room.come", defArgs (inClass (topS 48) 4), defBody (inClass (topS 48) 4), defScope (inClass (topS 48) 4), [], []⟩
def dD7 : He.DefD := ⟨("Room", some "leave"), "leave", "Room.leave", defArgs (inClass (topS 48) 5), defBody (inClass (topS 48) 5), defScope (inClass (topS 48) 5), [], []⟩
def dD8 : He.DefD := ⟨("Room", some "listeners"), "listeners", "Room.listeners", defArgs (inClass (topS 48) 14), defBody (inClass (topS 48) 14), defScope (inClass (topS 48) 14), [], []⟩
def dD9 : He.DefD := ⟨("Room", some "points"), "points", "Room.points", defArgs (inClass (topS 48) 15), defBody (inClass (topS 48) 15), defScope (inClass (topS 48) 15), [], []⟩
def dD10 : He.DefD := ⟨("Room", some "standings"), "standings", "Room.standings", defArgs (inClass (topS 48) 16), defBody (inClass (topS 48) 16), defScope (inClass (topS 48) 16), [], []⟩
def dD11 : He.DefD := ⟨("_law_draw", none), "_law_draw", "_law_draw", defArgs (topS 50), defBody (topS 50), defScope (topS 50), [], []⟩
def dD12 : He.DefD := ⟨("_law_cell", none), "_law_cell", "_law_cell", defArgs (topS 51), defBody (topS 51), defScope (topS 51), [], []⟩
def dD13 : He.DefD := ⟨("_law_many", none), "_law_many", "_law_many", defArgs (topS 52), defBody (topS 52), defScope (topS 52), [], []⟩
def dD14 : He.DefD := ⟨("_law_num", none), "_law_num", "_law_num", defArgs (topS 53), defBody (topS 53), defScope (topS 53), [], []⟩
def dD15 : He.DefD := ⟨("_law_split", none), "_law_split", "_law_split", defArgs (topS 54), defBody (topS 54), defScope (topS 54), [.int 0], []⟩
def dD16 : He.DefD := ⟨("_law_refused", none), "_law_refused", "_law_refused", defArgs (topS 55), defBody (topS 55), defScope (topS 55), [], []⟩
def dD17 : He.DefD := ⟨("_law_names", none), "_law_names", "_law_names", defArgs (topS 56), defBody (topS 56), defScope (topS 56), [], []⟩
def dD18 : He.DefD := ⟨("_law_woods", none), "_law_woods", "_law_woods", defArgs (topS 57), defBody (topS 57), defScope (topS 57), [], []⟩
def dD19 : He.DefD := ⟨("_law_pair_of_wood", none), "_law_pair_of_wood", "_law_pair_of_wood", defArgs (topS 58), defBody (topS 58), defScope (topS 58), [], []⟩
def dD20 : He.DefD := ⟨("_law_total", none), "_law_total", "_law_total", defArgs (topS 59), defBody (topS 59), defScope (topS 59), [], []⟩
def dD21 : He.DefD := ⟨("_law_saying_ok", none), "_law_saying_ok", "_law_saying_ok", defArgs (topS 60), defBody (topS 60), defScope (topS 60), [], []⟩
def dD22 : He.DefD := ⟨("_law_model", none), "_law_model", "_law_model", defArgs (topS 61), defBody (topS 61), defScope (topS 61), [], []⟩
def dD23 : He.DefD := ⟨("_law_name_ok", none), "_law_name_ok", "_law_name_ok", defArgs (topS 62), defBody (topS 62), defScope (topS 62), [], []⟩
def dD24 : He.DefD := ⟨("_law_come", none), "_law_come", "_law_come", defArgs (topS 63), defBody (topS 63), defScope (topS 63), [], []⟩
def dD25 : He.DefD := ⟨("_law_leave", none), "_law_leave", "_law_leave", defArgs (topS 64), defBody (topS 64), defScope (topS 64), [], []⟩
def dD26 : He.DefD := ⟨("_law_result_ok", none), "_law_result_ok", "_law_result_ok", defArgs (topS 65), defBody (topS 65), defScope (topS 65), [], []⟩
def dD27 : He.DefD := ⟨("_law_pairs_told", none), "_law_pairs_told", "_law_pairs_told", defArgs (topS 66), defBody (topS 66), defScope (topS 66), [], []⟩
def dD28 : He.DefD := ⟨("_law_points", none), "_law_points", "_law_points", defArgs (topS 67), defBody (topS 67), defScope (topS 67), [], []⟩
def dD29 : He.DefD := ⟨("_law_standings", none), "_law_standings", "_law_standings", defArgs (topS 68), defBody (topS 68), defScope (topS 68), [], []⟩
def dD30 : He.DefD := ⟨("_law_people_ok", none), "_law_people_ok", "_law_people_ok", defArgs (topS 69), defBody (topS 69), defScope (topS 69), [], []⟩
def dD31 : He.DefD := ⟨("_law_begun", none), "_law_begun", "_law_begun", defArgs (topS 70), defBody (topS 70), defScope (topS 70), [], []⟩
def dD32 : He.DefD := ⟨("_law_rich_woods", none), "_law_rich_woods", "_law_rich_woods", defArgs (topS 71), defBody (topS 71), defScope (topS 71), [], []⟩
def dD33 : He.DefD := ⟨("_law_tried", none), "_law_tried", "_law_tried", defArgs (topS 72), defBody (topS 72), defScope (topS 72), [], []⟩
def dD34 : He.DefD := ⟨("_law_drawn", none), "_law_drawn", "_law_drawn", defArgs (topS 73), defBody (topS 73), defScope (topS 73), [], []⟩
def dD35 : He.DefD := ⟨("law", none), "law", "law", defArgs (topS 74), defBody (topS 74), defScope (topS 74), [], []⟩
def fnL0 : List He.DefD := [dD0, dD1, dD2, dD3, dD4, dD5, dD6, dD7, dD8, dD9, dD10, dD11, dD12, dD13, dD14, dD15, dD16, dD17, dD18, dD19, dD20, dD21, dD22, dD23, dD24, dD25, dD26, dD27, dD28, dD29]
def fnL1 : List He.DefD := [dD30, dD31, dD32, dD33, dD34, dD35]
def fnL : List He.DefD := fnL0 ++ fnL1
def tsL : List He.Tab := []
def tfL : List He.Defn := [Cz.stD]
abbrev hk : PySem.W.Hook := hookY fnL tsL tfL (allHB exL)
def ob (s : PySem.W.SharedT) : He.AlX := obsY fnL tsL tfL (allHB exL) (HandSHeadRun.getT s)
theorem ob_eq (s : PySem.W.SharedT) : ob s = hk.obs s.abs := obsY_eq (HandSHeadRun.getT_eq s)
def nms0 : List PySem.Str := ["_wall", "CenserError", "BadMany", "BadWay", "NoCenser", "BadTray", "NoWood", "BadSaying", "Clash", "NoFit", "BadName", "Taken", "Full", "NoListener", "NoRound", "Opened", "Misfit", "GREATEST", "is_way", "look"]
def nms1 : List PySem.Str := ["look_censer", "numbered", "look_many", "LENGTHS", "look_saying", "fits_one", "fits_all", "links", "said_apart", "fewest_said", "most_said", "plain_paper", "either_pair", "searched", "look_as_many", "Sayings", "LETTERS", "good_name", "Tray", "SEATS"]
def nms2 : List PySem.Str := ["Room", "_law_draw", "_law_cell", "_law_many", "_law_num", "_law_split", "_law_refused", "_law_names", "_law_woods", "_law_pair_of_wood", "_law_total", "_law_saying_ok", "_law_model", "_law_name_ok", "_law_come", "_law_leave", "_law_result_ok", "_law_pairs_told", "_law_points", "_law_standings"]
def nms3 : List PySem.Str := ["_law_people_ok", "_law_begun", "_law_rich_woods", "_law_tried", "_law_drawn"]
def nms : List PySem.Str := nms0 ++ nms1 ++ nms2 ++ nms3
theorem ra0 (w : World) (os : OsState) : (endQ RW 20000 (w.withFollow "special-get-raises" false) os).map (fun s => (HandSHeadRun.looksF RW.prog (PySem.W.boot_heap (w.withFollow "special-get-raises" false).params) s.abs, HandSHeadRun.seenQ (PySem.W.view RW.prog [74]) nms (importedModules RW.prog.main.body) (fun s => PySem.W.xlAt (PySem.W.view RW.prog [74]) [] s && PySem.W.recOk RW.toRowW.records s) s.abs)) = some (true, PySem.W.openGood (PySem.W.view RW.prog [74]) nms) := by kernel_rfl
theorem rc0 (w : World) (os : OsState) : (endQ RW 20000 (w.withFollow "special-get-raises" false) os).map ob = some (hk.val (w.withFollow "special-get-raises" false)) := by kernel_rfl
theorem ra1 (w : World) (os : OsState) : (endQ RW 20000 (w.withFollow "special-get-raises" true) os).map (fun s => (HandSHeadRun.looksF RW.prog (PySem.W.boot_heap (w.withFollow "special-get-raises" true).params) s.abs, HandSHeadRun.seenQ (PySem.W.view RW.prog [74]) nms (importedModules RW.prog.main.body) (fun s => PySem.W.xlAt (PySem.W.view RW.prog [74]) [] s && PySem.W.recOk RW.toRowW.records s) s.abs)) = some (true, PySem.W.openGood (PySem.W.view RW.prog [74]) nms) := by kernel_rfl
theorem rc1 (w : World) (os : OsState) : (endQ RW 20000 (w.withFollow "special-get-raises" true) os).map ob = some (hk.val (w.withFollow "special-get-raises" true)) := by kernel_rfl
theorem run (w : World) : HandSHeadRun.RunEq RW (PySem.W.view RW.prog [74]) hk ob 20000 nms w :=
  run_rows (r := RW) (q := (PySem.W.view RW.prog [74])) (H := hk) (ob := ob) (M := 20000) (loose := nms) "special-get-raises" (fun w => run_parts (r := RW) (q := (PySem.W.view RW.prog [74])) (H := hk) (ob := ob) (M := 20000) (loose := nms) (w := w.withFollow "special-get-raises" false) (ra0 w) (rc0 w)) (fun w => run_parts (r := RW) (q := (PySem.W.view RW.prog [74])) (H := hk) (ob := ob) (M := 20000) (loose := nms) (w := w.withFollow "special-get-raises" true) (ra1 w) (rc1 w)) w
end Hd
set_option maxHeartbeats 4000000
namespace Cz
open PySem PySem.Spec PyProof.Rows L2
inductive D where
  | non | bl (b : Bool) | int (i : Int) | str (x : Str) | tup (ds : List D) | lst (ds : List D) | scr (ds : List D) | dic (kvs : List (Key × D))
  /-- a def, a class by its name; an instance by its fields; a dict whose keys are tuples -/
  | fn (x : String) | obj (t : Nat) (C : String) (fs : List (Str × D)) | dtk (kvs : List (List Key × D))
  /-- an instance that is never changed any more; a dict that is never changed any more; an exception with what it carries -/
  | sob (C : String) (fs : List (Str × D)) | fdc (kvs : List (Key × D)) | exv (a dx : Addr) (fld : String) (d : D)
  /-- what a loop knows of a sealed thing -/
  | nod (o : Obj) (u : HO)
  /-- what stands at just this node: an argument that a def changes -/
  | tg (t : Nat) (d : D)
  /-- a node untold: any (t = 0), or just this one -/
  | hol (t : Nat)
deriving Inhabited
mutual
inductive Rep (K : PySem.W.Frag) (H : Hp) : D → V → List Addr → Prop
  | non : Rep K H .non .non []
  | bl (b : Bool) : Rep K H (.bl b) (.bl b) []
  | int (i : Int) : Rep K H (.int i) (.int i) []
  | str (x : Str) : Rep K H (.str x) (.str x) []
  | tup {a : Addr} {vs : List V} {ds : List D} {f : List Addr} : H a = some (.tup vs) → Reps K H ds vs f → Rep K H (.tup ds) (.ref a) f
  | lst {a : Addr} {vs : List V} {ds : List D} {f : List Addr} : H a = some (.lst vs) → Reps K H ds vs f → Rep K H (.lst ds) (.ref a) (a :: f)
  | scr {a : Addr} {vs : List V} {ds : List D} {f : List Addr} : ((∀ H', SqL K H' a vs) ∨ ∃ o, H a = some (.frz o (.lst vs))) → Reps K H ds vs f → Rep K H (.scr ds) (.ref a) f
  | dic {a : Addr} {kvs : List (Key × V)} {kds : List (Key × D)} {f : List Addr} : H a = some (.dK kvs) → (kds.map (·.1)).Nodup → RepK K H kds kvs f → Rep K H (.dic kds) (.ref a) (a :: f)
  | fn {x : String} {a : Addr} : PySem.W.nsIn K mainGlobals (Str.ofString x) = some (some (.ref a)) → Rep K H (.fn x) (.ref a) []
  | obj {t : Nat} {C : String} {a Ca dx : Addr} {fvs : List (Str × V)} {fds : List (Str × D)} {f : List Addr} : H a = some (.ins Ca dx fvs) → PySem.W.nsIn K mainGlobals (Str.ofString C) = some (some (.ref Ca)) → (fds.map (·.1)).Nodup → RepK K H fds fvs f → (t = 0 ∨ t = a + 1) → Rep K H (.obj t C fds) (.ref a) (a :: f)
  | dtk {a : Addr} {kvs : List (List Key × V)} {kds : List (List Key × D)} {f : List Addr} : H a = some (.dT kvs) → (kds.map (·.1)).Nodup → RepK K H kds kvs f → Rep K H (.dtk kds) (.ref a) (a :: f)
  | sob {C : String} {a Ca dx : Addr} {o : Obj} {fvs : List (Str × V)} {fds : List (Str × D)} : H a = some (.frz o (.ins Ca dx fvs)) → PySem.W.nsIn K mainGlobals (Str.ofString C) = some (some (.ref Ca)) → (fds.map (·.1)).Nodup → RepK K H fds fvs [] → Rep K H (.sob C fds) (.ref a) []
  | fdc {a : Addr} {o : Obj} {kvs : List (Key × V)} {kds : List (Key × D)} : H a = some (.frz o (.dK kvs)) → (kds.map (·.1)).Nodup → RepK K H kds kvs [] → Rep K H (.fdc kds) (.ref a) []
  | exv {a dx : Addr} {fld : String} {v : V} {d : D} : H dx = some (.xd [(Str.ofString fld, v)]) → Rep K H d v [] → Rep K H (.exv a dx fld d) (.ref a) []
  | nod {a : Addr} {o : Obj} {u : HO} : H a = some (.frz o u) → Rep K H (.nod o u) (.ref a) []
  | tg {t : Nat} {d : D} {a : Addr} {f : List Addr} : Rep K H d (.ref a) f → t = a + 1 → Rep K H (.tg t d) (.ref a) f
  | hol {t : Nat} {a : Addr} : (t = 0 ∨ t = a + 1) → Rep K H (.hol t) (.ref a) []
inductive Reps (K : PySem.W.Frag) (H : Hp) : List D → List V → List Addr → Prop
  | nil : Reps K H [] [] []
  | cons {d : D} {v : V} {f : List Addr} {ds : List D} {vs : List V} {g : List Addr} : Rep K H d v f → Reps K H ds vs g → Reps K H (d :: ds) (v :: vs) (f ++ g)
inductive RepK (K : PySem.W.Frag) (H : Hp) : {κ : Type} → List (κ × D) → List (κ × V) → List Addr → Prop
  | nil {κ : Type} : RepK K H ([] : List (κ × D)) [] []
  | cons {κ : Type} {k : κ} {d : D} {v : V} {f : List Addr} {ds : List (κ × D)} {vs : List (κ × V)} {g : List Addr} : Rep K H d v f → RepK K H ds vs g → RepK K H ((k, d) :: ds) ((k, v) :: vs) (f ++ g)
end
section
variable {K : PySem.W.Frag} {H H' : Hp}
def IsT : HO → Prop
  | .tup _ => True
  | .frz _ _ => True
  | .xd _ => True
  | _ => False
theorem SqT.keep {a : Addr} {vs : List V} (h : ∀ b o, H b = some o → IsT o → H' b = some o) (q : SqT K H a vs) : SqT K H' a vs := by
  rcases q with (q | ⟨o, q⟩) | q
  · exact .inl (.inl (h _ _ q trivial))
  · exact .inl (.inr ⟨o, h _ _ q trivial⟩)
  · exact .inr q
theorem Rd.keep {a : Addr} {u : HO} (h : ∀ o, H a = some o → H' a = some o) (q : Rd H a u) : Rd H' a u := by
  rcases q with q | ⟨o, q⟩
  · exact .inl (h _ q)
  · exact .inr ⟨o, h _ q⟩
mutual
theorem Rep.frame (ht : ∀ b o, H b = some o → IsT o → H' b = some o) : ∀ {d : D} {v : V} {f : List Addr}, Rep K H d v f → (∀ a ∈ f, ∀ o, H a = some o → H' a = some o) → Rep K H' d v f
  | _, _, _, .non, _ => .non
  | _, _, _, .bl b, _ => .bl b
  | _, _, _, .int i, _ => .int i
  | _, _, _, .str x, _ => .str x
  | _, _, _, .tup q r, h => .tup (ht _ _ q trivial) (Reps.frame ht r h)
  | _, _, _, .lst q r, h => .lst (h _ List.mem_cons_self _ q) (Reps.frame ht r fun a ha => h a (List.mem_cons_of_mem _ ha))
  | _, _, _, .scr q r, h => .scr (q.imp id fun ⟨o, e⟩ => ⟨o, ht _ _ e trivial⟩) (Reps.frame ht r h)
  | _, _, _, .dic q n r, h => .dic (h _ List.mem_cons_self _ q) n (RepK.frame ht r fun a ha => h a (List.mem_cons_of_mem _ ha))
  | _, _, _, .fn q, _ => .fn q
  | _, _, _, .obj q c n r z, h => .obj (h _ List.mem_cons_self _ q) c n (RepK.frame ht r fun a ha => h a (List.mem_cons_of_mem _ ha)) z
  | _, _, _, .dtk q n r, h => .dtk (h _ List.mem_cons_self _ q) n (RepK.frame ht r fun a ha => h a (List.mem_cons_of_mem _ ha))
  | _, _, _, .sob q c n r, h => .sob (ht _ _ q trivial) c n (RepK.frame ht r fun a ha => nomatch ha)
  | _, _, _, .fdc q n r, h => .fdc (ht _ _ q trivial) n (RepK.frame ht r fun a ha => nomatch ha)
  | _, _, _, .exv q r, h => .exv (ht _ _ q trivial) (Rep.frame ht r fun a ha => nomatch ha)
  | _, _, _, .nod q, h => .nod (ht _ _ q trivial)
  | _, _, _, .tg r z, h => .tg (Rep.frame ht r h) z
  | _, _, _, .hol z, h => .hol z
theorem Reps.frame (ht : ∀ b o, H b = some o → IsT o → H' b = some o) : ∀ {d : List D} {v : List V} {f : List Addr}, Reps K H d v f → (∀ a ∈ f, ∀ o, H a = some o → H' a = some o) → Reps K H' d v f
  | _, _, _, .nil, _ => .nil
  | _, _, _, .cons r t, h => .cons (Rep.frame ht r fun a ha => h a (List.mem_append_left _ ha)) (Reps.frame ht t fun a ha => h a (List.mem_append_right _ ha))
theorem RepK.frame (ht : ∀ b o, H b = some o → IsT o → H' b = some o) : ∀ {κ : Type} {d : List (κ × D)} {v : List (κ × V)} {f : List Addr}, RepK K H d v f → (∀ a ∈ f, ∀ o, H a = some o → H' a = some o) → RepK K H' d v f
  | _, _, _, _, .nil, _ => .nil
  | _, _, _, _, .cons r t, h => .cons (Rep.frame ht r fun a ha => h a (List.mem_append_left _ ha)) (RepK.frame ht t fun a ha => h a (List.mem_append_right _ ha))
end
theorem Rep.same {d : D} {v : V} {f : List Addr} (s : Same H H') (r : Rep K H d v f) : Rep K H' d v f := r.frame (fun b o e _ => s b o e) fun a _ o e => s a o e
theorem Reps.same {d : List D} {v : List V} {f : List Addr} (s : Same H H') (r : Reps K H d v f) : Reps K H' d v f := r.frame (fun b o e _ => s b o e) fun a _ o e => s a o e
theorem RepK.same {κ : Type} {d : List (κ × D)} {v : List (κ × V)} {f : List Addr} (s : Same H H') (r : RepK K H d v f) : RepK K H' d v f := r.frame (fun b o e _ => s b o e) fun a _ o e => s a o e
mutual
theorem Rep.trk : ∀ {d : D} {v : V} {f : List Addr}, Rep K H d v f → ∀ a ∈ f, H a ≠ none
  | _, _, _, .tup _ r, a, ha => Reps.trk r a ha
  | _, _, _, .lst q r, a, ha => by
    rcases List.mem_cons.mp ha with e | ha
    · subst e; rw [q]; simp
    · exact Reps.trk r a ha
  | _, _, _, .scr _ r, a, ha => Reps.trk r a ha
  | _, _, _, .dic q n r, a, ha => by
    rcases List.mem_cons.mp ha with e | ha
    · subst e; rw [q]; simp
    · exact RepK.trk r a ha
  | _, _, _, .obj q c n r _, a, ha => by
    rcases List.mem_cons.mp ha with e | ha
    · subst e; rw [q]; simp
    · exact RepK.trk r a ha
  | _, _, _, .sob _ _ _ _, a, ha => nomatch ha
  | _, _, _, .fdc _ _ _, a, ha => nomatch ha
  | _, _, _, .exv _ _, a, ha => nomatch ha
  | _, _, _, .nod _, a, ha => nomatch ha
  | _, _, _, .tg r _, a, ha => Rep.trk r a ha
  | _, _, _, .hol _, a, ha => nomatch ha
  | _, _, _, .dtk q n r, a, ha => by
    rcases List.mem_cons.mp ha with e | ha
    · subst e; rw [q]; simp
    · exact RepK.trk r a ha
theorem Reps.trk : ∀ {d : List D} {v : List V} {f : List Addr}, Reps K H d v f → ∀ a ∈ f, H a ≠ none
  | _, _, _, .cons r t, a, ha => by
    rcases List.mem_append.mp ha with ha | ha
    · exact Rep.trk r a ha
    · exact Reps.trk t a ha
theorem RepK.trk : ∀ {κ : Type} {d : List (κ × D)} {v : List (κ × V)} {f : List Addr}, RepK K H d v f → ∀ a ∈ f, H a ≠ none
  | _, _, _, _, .cons r t, a, ha => by
    rcases List.mem_append.mp ha with ha | ha
    · exact Rep.trk r a ha
    · exact RepK.trk t a ha
end
theorem Reps.length : ∀ {d : List D} {v : List V} {f : List Addr}, Reps K H d v f → d.length = v.length
  | _, _, _, .nil => rfl
  | _, _, _, .cons _ t => by simp [Reps.length t]
theorem Rep.lstI {ds : List D} {v : V} {f : List Addr} (r : Rep K H (.lst ds) v f) : ∃ a vs g, v = .ref a ∧ SqL K H a vs ∧ Reps K H ds vs g ∧ (∀ b ∈ g, b ∈ f) ∧ (f.Nodup → g.Nodup) := by
  cases r with
  | lst q r => exact ⟨_, _, _, rfl, .of q, r, fun b hb => List.mem_cons_of_mem _ hb, fun n => (List.nodup_cons.mp n).2⟩
theorem Rep.scrI {ds : List D} {v : V} {f : List Addr} (r : Rep K H (.scr ds) v f) : ∃ a vs g, v = .ref a ∧ SqL K H a vs ∧ Reps K H ds vs g ∧ (∀ b ∈ g, b ∈ f) ∧ (f.Nodup → g.Nodup) := by
  cases r with
  | scr q r =>
    rcases q with q | ⟨o, q⟩
    · exact ⟨_, _, _, rfl, q _, r, fun b hb => hb, fun n => n⟩
    · exact ⟨_, _, _, rfl, .inl (.inr ⟨o, q⟩), r, fun b hb => hb, fun n => n⟩
theorem Rep.tupI {ds : List D} {v : V} {f : List Addr} (r : Rep K H (.tup ds) v f) : ∃ a vs, v = .ref a ∧ H a = some (.tup vs) ∧ Reps K H ds vs f := by
  cases r with
  | tup q r => exact ⟨_, _, rfl, q, r⟩
theorem Reps.get : ∀ {ds : List D} {vs : List V} {f : List Addr} {i : Nat} {d : D}, Reps K H ds vs f → ds[i]? = some d → ∃ v g, vs[i]? = some v ∧ Rep K H d v g ∧ (∀ b ∈ g, b ∈ f) ∧ (f.Nodup → g.Nodup)
  | _, _, _, 0, d, .cons r _, e => by
    simp at e; subst e
    exact ⟨_, _, rfl, r, fun b hb => List.mem_append_left _ hb, fun n => (List.nodup_append.mp n).1⟩
  | _, _, _, i + 1, d, .cons r t, e => by
    obtain ⟨v, g, h1, h2, h3, h4⟩ := Reps.get (i := i) (d := d) t (by simpa using e)
    exact ⟨v, g, by simpa using h1, h2, fun b hb => List.mem_append_right _ (h3 b hb), fun n => h4 (List.nodup_append.mp n).2.1⟩
theorem Reps.take : ∀ {ds : List D} {vs : List V} {f : List Addr} (n : Nat), Reps K H ds vs f → ∃ g, Reps K H (ds.take n) (vs.take n) g ∧ (∀ b ∈ g, b ∈ f) ∧ (f.Nodup → g.Nodup)
  | _, _, _, 0, _ => ⟨[], .nil, by simp, by simp⟩
  | _, _, _, n + 1, .nil => ⟨[], .nil, by simp, by simp⟩
  | _, _, _, n + 1, .cons (f := f) r t => by
    obtain ⟨g, h1, h2, h3⟩ := Reps.take n t
    refine ⟨f ++ g, .cons r h1, fun b hb => ?_, fun nd => ?_⟩
    · rcases List.mem_append.mp hb with hb | hb
      · exact List.mem_append_left _ hb
      · exact List.mem_append_right _ (h2 b hb)
    · obtain ⟨n1, n2, n3⟩ := List.nodup_append.mp nd
      exact List.nodup_append.mpr ⟨n1, h3 n2, fun a ha b hb => n3 a ha b (h2 b hb)⟩
theorem Reps.drop : ∀ {ds : List D} {vs : List V} {f : List Addr} (n : Nat), Reps K H ds vs f → ∃ g, Reps K H (ds.drop n) (vs.drop n) g ∧ (∀ b ∈ g, b ∈ f) ∧ (f.Nodup → g.Nodup)
  | _, _, _, 0, r => ⟨_, r, fun _ h => h, fun h => h⟩
  | _, _, _, n + 1, .nil => ⟨[], .nil, by simp, by simp⟩
  | _, _, _, n + 1, .cons r t => by
    obtain ⟨g, h1, h2, h3⟩ := Reps.drop n t
    exact ⟨g, h1, fun b hb => List.mem_append_right _ (h2 b hb), fun nd => h3 (List.nodup_append.mp nd).2.1⟩
theorem Reps.app : ∀ {ds es : List D} {vs ws : List V} {f g : List Addr}, Reps K H ds vs f → Reps K H es ws g → Reps K H (ds ++ es) (vs ++ ws) (f ++ g)
  | _, _, _, _, _, _, .nil, s => s
  | _, _, _, _, _, _, .cons r t, s => by rw [List.append_assoc]; exact .cons r (Reps.app t s)
theorem Reps.ints : ∀ (ns : List Int), Reps K H (ns.map D.int) (ns.map V.int) []
  | [] => .nil
  | n :: ns => .cons (f := []) (g := []) (.int n) (Reps.ints ns)
theorem Reps.ints_inv : ∀ {ns : List Int} {vs : List V} {f : List Addr}, Reps K H (ns.map D.int) vs f → vs = ns.map V.int ∧ f = []
  | [], _, _, h => by cases h; exact ⟨rfl, rfl⟩
  | n :: ns, _, _, h => by
    cases h with
    | cons r t =>
      cases r
      obtain ⟨e1, e2⟩ := Reps.ints_inv t
      subst e1; subst e2
      exact ⟨rfl, rfl⟩
end
mutual
def noL : D → Bool
  | .non => true | .bl _ => true | .int _ => true | .str _ => true
  | .tup ds => noLs ds
  | .lst _ => false | .scr ds => noLs ds | .dic _ => false
  | .fn _ => true | .obj _ _ _ => false | .dtk _ => false
  | .sob _ _ => true | .fdc _ => true | .exv _ _ _ _ => true | .nod _ _ => true | .tg _ _ => false | .hol _ => true
def noLs : List D → Bool
  | [] => true
  | d :: ds => noL d && noLs ds
end
mutual
theorem Rep.noL {K : PySem.W.Frag} {H : Hp} : ∀ {d : D} {v : V} {f : List Addr}, Rep K H d v f → Cz.noL d = true → f = []
  | _, _, _, .non, _ => rfl
  | _, _, _, .bl b, _ => rfl
  | _, _, _, .int i, _ => rfl
  | _, _, _, .str x, _ => rfl
  | _, _, _, .tup q r, h => Reps.noL r (by simpa [Cz.noL] using h)
  | _, _, _, .lst q r, h => by simp [Cz.noL] at h
  | _, _, _, .scr q r, h => Reps.noL r (by simpa [Cz.noL] using h)
  | _, _, _, .dic q n r, h => by simp [Cz.noL] at h
  | _, _, _, .fn q, _ => rfl
  | _, _, _, .obj q c n r _, h => by simp [Cz.noL] at h
  | _, _, _, .dtk q n r, h => by simp [Cz.noL] at h
  | _, _, _, .sob _ _ _ _, _ => rfl
  | _, _, _, .fdc _ _ _, _ => rfl
  | _, _, _, .exv _ _, _ => rfl
  | _, _, _, .nod _, _ => rfl
  | _, _, _, .tg _ _, h => by simp [Cz.noL] at h
  | _, _, _, .hol _, _ => rfl
theorem Reps.noL {K : PySem.W.Frag} {H : Hp} : ∀ {d : List D} {v : List V} {f : List Addr}, Reps K H d v f → Cz.noLs d = true → f = []
  | _, _, _, .nil, _ => rfl
  | _, _, _, .cons r t, h => by
    simp only [Cz.noLs, Bool.and_eq_true] at h
    rw [Rep.noL r h.1, Reps.noL t h.2]; rfl
end
@[simp] theorem noLs_ints : ∀ ns : List Int, noLs (ns.map D.int) = true
  | [] => rfl
  | n :: ns => by simp [noLs, noL, noLs_ints ns]
inductive Kd where
  | own | bor (is : List Nat)
def Kd.is : Kd → List Nat
  | .own => []
  | .bor is => is
def Kd.join : Kd → Kd → Kd
  | .own, .own => .own
  | a, b => .bor (a.is ++ b.is)
theorem Kd.join_own (k : Kd) : k.join .own = k := by cases k <;> simp [Kd.join, Kd.is]
inductive Ec where
  | n (s : String) | p (s fld : String) (d : D)
instance : Coe String Ec := ⟨Ec.n⟩
def Ec.nm : Ec → String
  | .n s => s
  | .p s _ _ => s
@[simp] theorem Ec.nm_n (s : String) : (Ec.n s).nm = s := rfl
@[simp] theorem Ec.nm_p (s f : String) (d : D) : (Ec.p s f d).nm = s := rfl
inductive R (α : Type) where
  | ok (a : α) | ex (c : Ec) | st
def R.bind {α β : Type} : R α → (α → R β) → R β
  | .ok a, f => f a
  | .ex c, _ => .ex c
  | .st, _ => .st
@[simp] theorem R.bind_ok {α β : Type} (a : α) (f : α → R β) : (R.ok a).bind f = f a := rfl
@[simp] theorem R.bind_ex {α β : Type} (c : Ec) (f : α → R β) : (R.ex c : R α).bind f = .ex c := rfl
@[simp] theorem R.bind_st {α β : Type} (f : α → R β) : (R.st : R α).bind f = .st := rfl
inductive Sl where
  | no | ow (d : D) | bo (is : List Nat) (d : D)
  /-- the tables of code are known -/
  | tb
abbrev Env := List Sl
abbrev KD := Kd × D
abbrev SE := Env → R KD
abbrev STs := Env → R Bool
abbrev SA := Env → R (List KD)
inductive Out where
  | nx (ρ : Env) | rt (k : Kd) (d : D) | bk (ρ : Env) | ct (ρ : Env) | ex (c : Ec) (ρ : Env) | st | ri (ρ : Env) (k : Kd) (d : D)
abbrev SS := Env → Out
def MutX : Option HO → Prop
  | some (.lst _) => True
  | some (.dK _) => True
  | some (.dT _) => True
  | some (.set _ _) => True
  | some (.ins _ _ _) => True
  | _ => False
structure Mu (o : Option HO) : Prop where
  mx : MutX o
theorem Mu.m {o : Option HO} (h : Mu o) : L2.Mut o := by
  have := h.mx
  cases o with
  | none => exact this.elim
  | some o => cases o <;> first | trivial | exact this.elim
def TE0 : HO → Prop
  | .tbl _ => True
  | .ext _ => True
  | _ => False
def lamQ : Str := "Room.standings"
def lamN : Str := lamQ ++ ".<locals>.<lambda>"
def TabK (K : PySem.W.Frag) (H : Hp) : Prop := ∀ (c : Addr) (o : Obj) (vs : Array Value) (P : Addr), K.lookup c = some o → o.data = .fields vs → PySem.W.codeIn K (.ref c) lamQ = true → vs[11]? = some (.ref P) → LamX.TabS H P lamN
def NoTb (H : Hp) : Prop := ∀ a ps, H a ≠ some (.tbl ps)
theorem TabK.keep {K : PySem.W.Frag} {H H' : Hp} (h : TabK K H) (k : ∀ a o, H a = some o → TE0 o → H' a = some o) : TabK K H' := fun c o vs P e1 e2 e3 e4 => by
  obtain ⟨ps, h1, h2, h3⟩ := h c o vs P e1 e2 e3 e4
  exact ⟨ps, k _ _ h1 trivial, h2, fun pos cv e => let ⟨c', g1, g2⟩ := h3 pos cv e; ⟨c', g1, k _ _ g2 trivial⟩⟩
def Sl.isT : Sl → Bool
  | .tb => true
  | _ => false
def hasT (ρ : List Sl) : Bool := ρ.any Sl.isT
def Sh (A : Addr → Prop) (H0 : Hp) (F : Nat → List Addr) (a : Addr) : Prop := (A a ∨ H0 a = none) ∧ ∀ j, a ∉ F j
def BOk (A : Addr → Prop) (H0 : Hp) (F : Nat → List Addr) (is : List Nat) (f : List Addr) : Prop := ∀ a ∈ f, (∃ j ∈ is, a ∈ F j) ∨ Sh A H0 F a
def KOk (A : Addr → Prop) (H0 : Hp) (F : Nat → List Addr) (H H' : Hp) : Kd → List Addr → Prop
  | .own, f => f.Nodup ∧ ∀ a ∈ f, H a = none ∧ Mu (H' a)
  | .bor is, f => BOk A H0 F is f
def RetK (A : Addr → Prop) (H0 H' : Hp) : Kd → List Addr → Prop
  | .own, f => f.Nodup ∧ ∀ a ∈ f, H0 a = none ∧ Mu (H' a)
  | .bor _, f => ∀ a ∈ f, A a ∨ H0 a = none
structure SR (K : PySem.W.Frag) (A : Addr → Prop) (H0 : Hp) (F : Nat → List Addr) (G : List (D × V)) (ρ : Env) (σ : L2.St) (H : Hp) : Prop where
  len : ρ.length = σ.length
  fr : Same H0 H
  own : ∀ i, (F i).Nodup ∧ ∀ a ∈ F i, H0 a = none ∧ Mu (H a)
  dis : ∀ i j a, a ∈ F i → a ∈ F j → i = j
  slo : ∀ (i : Nat) d, ρ[i]? = some (.ow d) → ∃ v, σ[i]? = some (some v) ∧ Rep K H d v (F i)
  slb : ∀ (i : Nat) is d, ρ[i]? = some (.bo is d) → ∃ v f, σ[i]? = some (some v) ∧ Rep K H d v f ∧ BOk A H0 F is f
  gho : ∀ p ∈ G, ∃ f, Rep K H p.1 p.2 f ∧ ∀ a ∈ f, Sh A H0 F a
  emp : ∀ i, i < ρ.length → F i ≠ [] → ∃ d, ρ[i]? = some (.ow d)
  fin : ∃ L, ∀ j, L ≤ j → F j = []
  tb : hasT ρ = true → TabK K H ∧ NoTb H0
section
variable {K : PySem.W.Frag} {A : Addr → Prop} {H0 H H1 H' : Hp} {F : Nat → List Addr} {G : List (D × V)} {ρ : Env} {σ : L2.St}
theorem Mu.same {a : Addr} (s : Same H H') (m : Mu (H a)) : Mu (H' a) := by
  cases e : H a with
  | none => rw [e] at m; exact m.m.elim
  | some o => rw [s a o e]; rw [e] at m; exact m
theorem Mu.not {o : HO} (m : Mu (some o)) (t : TE0 o) : False := by
  have := m.mx
  cases o <;> first | exact t.elim | exact this.elim
theorem hasT_set {ρ : List Sl} {i : Nat} {x : Sl} (hx : x.isT = false) (h : hasT (ρ.set i x) = true) : hasT ρ = true := by
  unfold hasT at h ⊢
  obtain ⟨y, hy, e⟩ := List.any_eq_true.mp h
  rcases List.mem_or_eq_of_mem_set hy with z | z
  · exact List.any_eq_true.mpr ⟨y, z, e⟩
  · rw [z, hx] at e; cases e
theorem hasT_map {ρ : List Sl} {g : Sl → Sl} (hg : ∀ x, (g x).isT = true → x.isT = true) (h : hasT (ρ.map g) = true) : hasT ρ = true := by
  unfold hasT at h ⊢
  rw [List.any_map] at h
  obtain ⟨y, hy, e⟩ := List.any_eq_true.mp h
  exact List.any_eq_true.mpr ⟨y, hy, hg y e⟩
theorem Mu.ne {a : Addr} (m : Mu (H a)) : H a ≠ none := by
  intro e; rw [e] at m; exact m.m
theorem SR.same (r : SR K A H0 F G ρ σ H) (s : Same H H') : SR K A H0 F G ρ σ H' where
  len := r.len
  fr := r.fr.trans s
  own := fun i => ⟨(r.own i).1, fun a ha => ⟨((r.own i).2 a ha).1, ((r.own i).2 a ha).2.same s⟩⟩
  dis := r.dis
  slo := fun i d e => let ⟨v, h1, h2⟩ := r.slo i d e; ⟨v, h1, h2.same s⟩
  slb := fun i is d e => let ⟨v, f, h1, h2, h3⟩ := r.slb i is d e; ⟨v, f, h1, h2.same s, h3⟩
  gho := fun p hp => let ⟨f, h1, h2⟩ := r.gho p hp; ⟨f, h1.same s, h2⟩
  emp := r.emp
  fin := r.fin
  tb := fun z => ⟨(r.tb z).1.keep fun a o e _ => s a o e, (r.tb z).2⟩
theorem hasT_iff {ρ : List Sl} : hasT ρ = true ↔ ∃ i : Nat, ρ[i]? = some .tb := by
  unfold hasT
  rw [List.any_eq_true]
  refine ⟨fun ⟨x, hx, e⟩ => ?_, fun ⟨i, e⟩ => ⟨.tb, List.mem_of_getElem? e, rfl⟩⟩
  obtain ⟨i, hi, e2⟩ := List.mem_iff_getElem.mp hx
  refine ⟨i, ?_⟩
  rw [List.getElem?_eq_getElem hi, e2]
  cases x <;> first | rfl | cases e
theorem SR.tbS {ρ' : Env} (sr : SR K A H0 F G ρ σ H) (h : hasT ρ' = true → hasT ρ = true) (k : ∀ a o, H a = some o → TE0 o → H' a = some o) : hasT ρ' = true → TabK K H' ∧ NoTb H0 := fun z => ⟨(sr.tb (h z)).1.keep k, (sr.tb (h z)).2⟩
theorem SR.teF (sr : SR K A H0 F G ρ σ H) {i : Nat} {a : Addr} {o : HO} (h : a ∈ F i) (e : H a = some o) (t : TE0 o) : False := by
  have m := ((sr.own i).2 a h).2
  rw [e] at m
  exact m.not t
theorem KOk.bok {k : Kd} {f : List Addr} (r : SR K A H0 F G ρ σ H) (h : KOk A H0 F H H' k f) : BOk A H0 F k.is f := by
  cases k with
  | own => exact fun a ha => .inr ⟨.inr (r.fr.free (h.2 a ha).1), fun j hj => ((r.own j).2 a hj).2.ne (h.2 a ha).1⟩
  | bor is => exact h
theorem BOk.mono {is js : List Nat} {f g : List Addr} (h : BOk A H0 F is f) (hi : ∀ j ∈ is, j ∈ js) (hf : ∀ a ∈ g, a ∈ f) : BOk A H0 F js g := fun a ha => by
  rcases h a (hf a ha) with ⟨j, hj, q⟩ | q
  · exact .inl ⟨j, hi j hj, q⟩
  · exact .inr q
theorem KOk.sub {k : Kd} {f g : List Addr} (h : KOk A H0 F H H' k f) (hs : ∀ a ∈ g, a ∈ f) (hn : f.Nodup → g.Nodup) : KOk A H0 F H H' k g := by
  cases k with
  | own => exact ⟨hn h.1, fun a ha => h.2 a (hs a ha)⟩
  | bor is => exact fun a ha => h a (hs a ha)
theorem KOk.nil (k : Kd) : KOk A H0 F H H' k [] := by
  cases k with
  | own => exact ⟨List.nodup_nil, fun a ha => nomatch ha⟩
  | bor is => exact fun a ha => nomatch ha
theorem KOk.wide {k : Kd} {f : List Addr} {Ha Hb : Hp} (h : KOk A H0 F H H' k f) (s1 : Same Ha H) (s2 : Same H' Hb) : KOk A H0 F Ha Hb k f := by
  cases k with
  | own => exact ⟨h.1, fun a ha => ⟨s1.free (h.2 a ha).1, (h.2 a ha).2.same s2⟩⟩
  | bor is => exact h
theorem KOk.join {k k' : Kd} {f g : List Addr} {Ha Hm Hb : Hp} (r : SR K A H0 F G ρ σ Ha) (s1 : Same Ha Hm) (s2 : Same Hm Hb) (hf : ∀ a ∈ f, Hm a ≠ none) (h : KOk A H0 F Ha Hm k f) (h' : KOk A H0 F Hm Hb k' g) :
    KOk A H0 F Ha Hb (k.join k') (f ++ g) := by
  have b1 := h.bok r
  have b2 := h'.bok (r.same s1)
  have key : BOk A H0 F (k.is ++ k'.is) (f ++ g) := fun a ha => by
    rcases List.mem_append.mp ha with ha | ha
    · exact b1.mono (fun j hj => List.mem_append_left _ hj) (fun _ q => q) a ha
    · exact b2.mono (fun j hj => List.mem_append_right _ hj) (fun _ q => q) a ha
  cases k with
  | own =>
    cases k' with
    | own =>
      refine ⟨List.nodup_append.mpr ⟨h.1, h'.1, fun a ha b hb e => ?_⟩, fun a ha => ?_⟩
      · subst e; exact hf a ha (h'.2 a hb).1
      · rcases List.mem_append.mp ha with ha | ha
        · exact ⟨(h.2 a ha).1, (h.2 a ha).2.same s2⟩
        · exact ⟨s1.free (h'.2 a ha).1, (h'.2 a ha).2⟩
    | bor js => exact key
  | bor is => exact key
end
end Cz
set_option maxHeartbeats 4000000
namespace Cz
open PySem PySem.Spec PyProof.Rows L2
section
variable {X : Cx}
theorem OpR.or {f : Value → Value → Sem Value} {r r' : R2} (h : OpR X f r) (h' : OpR X f r') : OpR X f (fun x y H Q => r x y H Q ∨ r' x y H Q) := by
  intro pins s σ H x y v u Q I rx ry q
  rcases q with q | q
  · exact h pins s σ H x y v u Q I rx ry q
  · exact h' pins s σ H x y v u Q I rx ry q
def rCatTT (K : PySem.W.Frag) : R2 := fun x y H Q => ∃ a b xs ys, x = .ref a ∧ y = .ref b ∧ SqT K H a xs ∧ SqT K H b ys ∧ xs.length + ys.length ≤ sizeLine ∧
  (xs = [] → Q (.ref b) H) ∧ (xs ≠ [] → ys = [] → Q (.ref a) H) ∧ (xs ≠ [] → ys ≠ [] → ∀ p, H p = none → Q (.ref p) (upd H p (.tup (xs ++ ys))))
theorem op_catTT : OpR X (binaryOp .Add) (rCatTT X.K) := by
  intro pins s σ H x y v u Q I rx ry h
  obtain ⟨a, b, xs, ys, rfl, rfl, ha, hb, hz, q0, q1, q2⟩ := h
  cases rx
  cases ry
  obtain ⟨its, r1, ht, _⟩ := I.tuple ha
  obtain ⟨its2, r2, ht2, _⟩ := I.tuple hb
  by_cases hx : xs = []
  · obtain ⟨⟨cls, dd, data, sl⟩, ho, hc, n, hd⟩ := id ht
    obtain ⟨⟨cls2, dd2, data2, sl2⟩, ho2, hc2, n2, hd2⟩ := id ht2
    simp only at hc hd hc2 hd2
    subst hc hd hc2 hd2
    have hv : its = [] := r1.nil_iff.mpr hx
    exact concat_meets ⟨_, ho, rfl⟩ ⟨_, ho2, rfl⟩ noFill_tuple_add seq_tuple_add PySem.F.slot_tuple_add PySem.F.entry_tuple_add (PySem.F.args_tuple_add_2 _ _)
      (tuple_addW0 a b its.toArray its2.toArray n n2 dd dd2 sl sl2 (by simp [hv])) ⟨ho, ho2, ⟨.ref b, H, I, rfl, q0 hx⟩⟩
  · refine HT.cat_tup ht ht2 (fun z => hx (r1.nil_iff.mp z)) (fun z => ⟨.ref a, H, I, rfl, q1 hx (r2.nil_iff.mp z)⟩) (fun z => ?_) (by rw [← r1.length, ← r2.length]; exact hz)
    refine ⟨.ref s.heap.objs.size, _, I.laid (t' := s.toks) (o := .tup (xs ++ ys)) (fun b ob q => Heap.get?_push_of_some _ q) (Nat.le_refl _) ?_, rfl, q2 hx (fun w => z (r2.nil_iff.mpr w)) _ (I.hok.fresh (Nat.le_refl _))⟩
    exact ⟨by rw [List.length_append]; exact hz, _, r1.append r2, IsTup.new _ _⟩
def rCatLL (K : PySem.W.Frag) : R2 := fun x y H Q => ∃ l b xs zs, x = .ref l ∧ y = .ref b ∧ SqL K H l xs ∧ SqL K H b zs ∧ xs.length + zs.length ≤ sizeLine ∧ ∀ p, H p = none → Q (.ref p) (upd H p (.lst (xs ++ zs)))
theorem op_catLL : OpR X (binaryOp .Add) (rCatLL X.K) := by
  intro pins s σ H x y v u Q I rx ry h
  obtain ⟨l, b, xs, zs, rfl, rfl, hH, hB, hz, q⟩ := h
  cases rx
  cases ry
  obtain ⟨its, r, hl, _⟩ := I.list hH
  obtain ⟨its2, r2, hl2, _⟩ := I.list hB
  obtain ⟨⟨cls, dd, data, sl⟩, n, ho, hc, hdn, hd⟩ := id hl
  obtain ⟨⟨cls2, dd2, data2, sl2⟩, n2, ho2, hc2, hdn2, hd2⟩ := id hl2
  simp only at hc hd hc2 hd2 hdn hdn2
  subst hc hd hc2 hd2 hdn hdn2
  refine concat_meets ⟨_, ho, rfl⟩ ⟨_, ho2, rfl⟩ noFill_list_add seq_list_add PySem.F.slot_list_add PySem.F.entry_list_add (PySem.F.args_list_add_2 _ _) (list_addW l b its.toArray its2.toArray n n2 _ _ sl sl2 (by rw [List.size_toArray, List.size_toArray, ← r.length, ← r2.length]; exact hz)) ⟨ho, ho2, ?_⟩
  have ea : its.toArray ++ its2.toArray = (its ++ its2).toArray := by simp
  rw [ea]
  exact ⟨.ref _, _, I.lnew (t' := s.toks) (r.append r2) (by rw [List.length_append]; omega), rfl, q _ I.fresh⟩
theorem max_rawT {prog : Program} {w : World} {A : Around} {E : Value → Shared → Prop} {s : Shared} {l : Addr} {its : List Value} {ns : List Int} {Q : Value → Shared → Prop} (hh : A.handled = none) (hl : s.heap.IsTuple l its.toArray) (hi : IntsAre its ns) (hne : 0 < ns.length)
    (h : ∀ h' tk M t', (∀ b o, s.heap.get? b = some o → h'.get? b = some o) → M ∈ ns → (∀ a, a ∈ ns → a ≤ M) → Q (.int M t') { s with heap := h', toks := tk }) : wpAny (model prog w) A (call (.builtin "max") [.ref l]) Q E s := by
  obtain ⟨xs, e⟩ := hi.allInts.items
  have hn : numsOf (intItems xs).toList = ns := by rw [← e]; exact hi.numsOf
  rw [nums_intItems] at hn
  subst hn
  rw [e] at hl
  have hsz : 0 < xs.size := by simpa using hne
  have hlt : l < s.heap.objs.size := by obtain ⟨_, e, _⟩ := hl; exact Heap.lt_size e
  refine call_max_walk (wpAny_pyIter_tuple hl ?_)
  refine ⟨_, [_, l], [_], _, _, _, _, rfl, Walks.tuple (A := A.in1) hh _ l (Nat.ne_of_lt hlt) (intItems xs), ⟨⟨_, Heap.get?_push_size _ rfl, rfl, rfl⟩, hl.push _⟩, fun c hc => ?_, by simpa [intItems] using hsz, CmpOf.ints_gt (numAt xs) (fun _ _ => intItems_at), fun v h' tk hP hk => ?_⟩
  · show c < (s.heap.push _).objs.size
    rw [Heap.size_push]
    rcases List.mem_cons.mp hc with rfl | hc
    · exact Nat.lt_succ_self _
    · rcases List.mem_cons.mp hc with rfl | hc
      · exact Nat.lt_succ_of_lt hlt
      · cases hc
  · have hold : ∀ c o, s.heap.get? c = some o → h'.get? c = some o := fun c o e => by
      refine hk c o (fun hm => ?_) (Heap.get?_push_of_some _ e)
      rcases List.mem_cons.mp hm with e1 | hm
      · have := Heap.lt_size e; rw [e1] at this; exact Nat.lt_irrefl _ this
      · cases hm
    have hP' : (intItems xs)[argBest (fun i j => decide (numAt xs i > numAt xs j)) (xs.size - 1)]? = some v := by simpa [intItems] using hP
    obtain ⟨t, rfl⟩ := intItems_at hP'
    obtain ⟨h1, h2⟩ := argBest_gt (numAt xs) (xs.size - 1)
    refine h h' tk _ t hold ?_ fun a ha => ?_
    · rw [numAt_eq]; exact PySem.getD_mem (by rw [List.length_map, Array.length_toList]; omega)
    · obtain ⟨j, hj, rfl⟩ := mem_getD ha
      rw [List.length_map, Array.length_toList] at hj
      rw [← numAt_eq]; exact h2 j (by omega)
theorem min_rawT {prog : Program} {w : World} {A : Around} {E : Value → Shared → Prop} {s : Shared} {l : Addr} {its : List Value} {ns : List Int} {Q : Value → Shared → Prop} (hh : A.handled = none) (hl : s.heap.IsTuple l its.toArray) (hi : IntsAre its ns) (hne : 0 < ns.length)
    (h : ∀ h' tk M t', (∀ b o, s.heap.get? b = some o → h'.get? b = some o) → M ∈ ns → (∀ a, a ∈ ns → M ≤ a) → Q (.int M t') { s with heap := h', toks := tk }) : wpAny (model prog w) A (call (.builtin "min") [.ref l]) Q E s := by
  obtain ⟨xs, e⟩ := hi.allInts.items
  have hn : numsOf (intItems xs).toList = ns := by rw [← e]; exact hi.numsOf
  rw [nums_intItems] at hn
  subst hn
  rw [e] at hl
  have hsz : 0 < xs.size := by simpa using hne
  have hlt : l < s.heap.objs.size := by obtain ⟨_, e, _⟩ := hl; exact Heap.lt_size e
  refine call_min_walk (wpAny_pyIter_tuple hl ?_)
  refine ⟨_, [_, l], [_], _, _, _, _, rfl, Walks.tuple (A := A.in1) hh _ l (Nat.ne_of_lt hlt) (intItems xs), ⟨⟨_, Heap.get?_push_size _ rfl, rfl, rfl⟩, hl.push _⟩, fun c hc => ?_, by simpa [intItems] using hsz, CmpOf.ints_lt (numAt xs) (fun _ _ => intItems_at), fun v h' tk hP hk => ?_⟩
  · show c < (s.heap.push _).objs.size
    rw [Heap.size_push]
    rcases List.mem_cons.mp hc with rfl | hc
    · exact Nat.lt_succ_self _
    · rcases List.mem_cons.mp hc with rfl | hc
      · exact Nat.lt_succ_of_lt hlt
      · cases hc
  · have hold : ∀ c o, s.heap.get? c = some o → h'.get? c = some o := fun c o e => by
      refine hk c o (fun hm => ?_) (Heap.get?_push_of_some _ e)
      rcases List.mem_cons.mp hm with e1 | hm
      · have := Heap.lt_size e; rw [e1] at this; exact Nat.lt_irrefl _ this
      · cases hm
    have hP' : (intItems xs)[argBest (fun i j => decide (numAt xs i < numAt xs j)) (xs.size - 1)]? = some v := by simpa [intItems] using hP
    obtain ⟨t, rfl⟩ := intItems_at hP'
    obtain ⟨h1, h2⟩ := argBest_lt (numAt xs) (xs.size - 1)
    refine h h' tk _ t hold ?_ fun a ha => ?_
    · rw [numAt_eq]; exact PySem.getD_mem (by rw [List.length_map, Array.length_toList]; omega)
    · obtain ⟨j, hj, rfl⟩ := mem_getD ha
      rw [List.length_map, Array.length_toList] at hj
      rw [← numAt_eq]; exact h2 j (by omega)
def rMaxT (K : PySem.W.Frag) : List V → Hp → VK → Prop := fun vs H Q => ∃ (a : Addr) (ns : List Int), vs = [V.ref a] ∧ SqT K H a (ns.map V.int) ∧ 0 < ns.length ∧ ∀ m, m ∈ ns → (∀ y, y ∈ ns → y ≤ m) → Q (.int m) H
def rMinT (K : PySem.W.Frag) : List V → Hp → VK → Prop := fun vs H Q => ∃ (a : Addr) (ns : List Int), vs = [V.ref a] ∧ SqT K H a (ns.map V.int) ∧ 0 < ns.length ∧ ∀ m, m ∈ ns → (∀ y, y ∈ ns → m ≤ y) → Q (.int m) H
theorem cr_maxT (hc : X.calm = true) : CallR X (.builtin "max") (rMaxT X.K) := by
  intro pins s σ H vs us Q I r h
  obtain ⟨a, ns, rfl, hs, hne, q⟩ := h
  obtain ⟨its, rv, hl, _⟩ := I.tuple hs
  rw [Vals.ref1 r]
  exact max_rawT (I.ok.hd hc) (show s.heap.IsTuple a its.toArray from hl) rv.ints hne fun h' tk m t' hk h1 h2 => ⟨.int _, H, I.kept hk, ⟨_, rfl⟩, q m h1 h2⟩
theorem cr_minT (hc : X.calm = true) : CallR X (.builtin "min") (rMinT X.K) := by
  intro pins s σ H vs us Q I r h
  obtain ⟨a, ns, rfl, hs, hne, q⟩ := h
  obtain ⟨its, rv, hl, _⟩ := I.tuple hs
  rw [Vals.ref1 r]
  exact min_rawT (I.ok.hd hc) (show s.heap.IsTuple a its.toArray from hl) rv.ints hne fun h' tk m t' hk h1 h2 => ⟨.int _, H, I.kept hk, ⟨_, rfl⟩, q m h1 h2⟩
def CMulX (i j : Int) : Prop := i.natAbs.log2 + j.natAbs.log2 < 100000000
theorem CMulX.ok {i j : Int} (h : CMulX i j) : IntMulOk i j := by
  have b : ∀ x : Int, Builtin.Int.intBits x ≤ x.natAbs.log2 + 1 := fun x => by
    unfold Builtin.Int.intBits
    split <;> omega
  have h1 := b i
  have h2 := b j
  have h3 : i.natAbs.log2 + j.natAbs.log2 < 100000000 := h
  have e : bitsLine = 134217728 := by decide
  unfold IntMulOk
  intro z
  rw [Bool.and_eq_true] at z
  have z2 := z.2
  unfold Builtin.Int.intTooBig at z2
  have z3 := of_decide_eq_true z2
  rw [e] at z3
  omega
theorem op_mulX : OpR X (binaryOp .Mult) (rI CMulX fun i j => .int (i * j)) := opI fun _ _ _ _ _ _ _ hc q => mul_int q hc.ok
theorem tuple_mul1 (l : Addr) (items : Array Value) (n : Nat) (dd : Option Addr) (sl : Array (Option Value)) (u : Tok) :
    Meets (Builtin.«tuple.__mul__» ⟨[.ref l, .int 1 u], []⟩) (fun _ R s => s.heap.get? l = some { cls := .type "tuple", dict := dd, data := .seq items n, slots := sl } ∧ R (.ok (.ret (.ref l))) s) :=
  .of_wp fun prog w A R s h => by
    obtain ⟨hp, g, d, tk, os⟩ := s
    obtain ⟨hl, h⟩ := h
    have f1 := AutoSeq1.idx_int
    have c0 : (decide ((1 : Int) < -(2 ^ 63)) || decide ((1 : Int) ≥ 2 ^ 63)) = false := by decide
    have c1 : (items.isEmpty || (1 : Int) == 1) = true := by simp
    wp_walk using wpAny_loadPart' hl
    repeat (first
      | (refine wpAny_ite_false (decide_eq_false (by rw [c0]; exact Bool.false_ne_true)) ?_; wp_walk using wpAny_loadPart' hl)
      | (refine wpAny_ite_true (decide_eq_true (by rw [c1])) ?_; wp_walk using wpAny_loadPart' hl)
      | (refine wpAny_ite_true (by first | exact c1 | exact decide_eq_true c1) ?_; wp_walk using wpAny_loadPart' hl))
    exact ⟨_, rfl, h⟩
def rRepT1 (K : PySem.W.Frag) : R2 := fun x y H Q => ∃ l k xs, x = .ref l ∧ y = .int k ∧ SqT K H l xs ∧ xs ≠ [] ∧ 1 ≤ k ∧ k ≤ 1000 ∧ xs.length ≤ 1000 ∧ (k = 1 → Q (.ref l) H) ∧ (k ≠ 1 → ∀ p, H p = none → Q (.ref p) (upd H p (.tup (List.replicate k.toNat xs).flatten)))
theorem op_repT1 : OpR X (binaryOp .Mult) (rRepT1 X.K) := by
  intro pins s σ H x y v u Q I rx ry h
  obtain ⟨l, k, xs, rfl, rfl, hT, hne, h1, h2, hz, q1, q2⟩ := h
  by_cases hk : k = 1
  · subst hk
    cases rx
    obtain ⟨t, rfl⟩ := ry
    obtain ⟨its, r, ⟨⟨cls, dd, data, sl⟩, ho, hc, n, hd⟩, hs⟩ := I.tuple hT
    simp only at hc hd
    subst hc hd
    refine wpAny_binaryOp_repeat_ref (T := "tuple") (U := "int") (by decide) ⟨_, ho, rfl⟩ (fun s' => typeIs_int s' 1 t) noFill_tuple_mul F.fills_int_mul F.slot_int_rmul repeat_tuple F.slot_int_index.lookup
      (call_meets F.slot_int_rmul (typeIs_int s 1 t) F.entry_int_rmul (F.args_int_rmul_2 _ _) (int_rmul_tuple 1 t l its.toArray n dd sl)
        ⟨ho, rfl, ⟨_, ho, rfl⟩, call_meets F.slot_tuple_mul ⟨_, ho, rfl⟩ F.entry_tuple_mul (F.args_tuple_mul_2 _ _) (tuple_mul1 l its.toArray n dd sl t) ⟨ho, ?_⟩⟩)
    exact ⟨.ref l, H, I, rfl, q1 rfl⟩
  · exact op_repT pins s σ H _ _ v u Q I rx ry ⟨l, k, xs, rfl, rfl, hT, hne, by omega, h2, hz, q2 hk⟩
theorem foldl_size : ∀ (k : Nat) (z a : Array Nat), ((List.replicate k z).foldl (· ++ ·) a).size = a.size + z.size * k
  | 0, z, a => by simp
  | k + 1, z, a => by rw [List.replicate_succ, List.foldl_cons, foldl_size k z, Array.size_append, Nat.mul_succ]; omega
def strMul (z : Str) (k : Nat) : Str := ⟨(List.replicate k z.cps).foldl (· ++ ·) #[]⟩
def rMulS : R2 := fun x y H Q => ∃ (z : Str) (k : Int), x = .str z ∧ y = .int k ∧ 2 ≤ k ∧ k ≤ 1000 ∧ 1 ≤ z.length ∧ z.length ≤ 1000 ∧ Q (.str (strMul z k.toNat)) H
theorem op_mulS : OpR X (binaryOp .Mult) rMulS := by
  intro pins s σ H x y v u Q I rx ry h
  obtain ⟨z, k, rfl, rfl, h1, h2, h3, h4, q⟩ := h
  obtain ⟨t, rfl⟩ := rx
  obtain ⟨t', rfl⟩ := ry
  have n1 : ¬ k < 1 := by omega
  have n2 : (k == 1 || z.length == 0) = false := by
    rw [Bool.or_eq_false_iff]; exact ⟨beq_eq_false_iff_ne.mpr (by omega), beq_eq_false_iff_ne.mpr (by omega)⟩
  have hb : z.length * k.toNat ≤ 1000000 := by
    have a : z.length * k.toNat ≤ 1000 * 1000 := Nat.mul_le_mul h4 (by omega)
    omega
  refine P.mul_str (by rw [decide_eq_false (by omega), decide_eq_false (by omega)]; rfl) (fun _ _ => ?_) (fun _ _ => ?_) ?_
  · have : (2 ^ 63 - 1 : Int) / k ≥ (2 ^ 63 - 1) / 1000 := Int.le_ediv_of_mul_le (by omega) (by
      have : ((2 ^ 63 - 1) / 1000 : Int) * k ≤ ((2 ^ 63 - 1) / 1000 : Int) * 1000 := Int.mul_le_mul_of_nonneg_left h2 (by decide)
      have e : ((2 ^ 63 - 1) / 1000 : Int) * 1000 ≤ 2 ^ 63 - 1 := by decide
      omega)
    have e2 : ((2 ^ 63 - 1) / 1000 : Int) ≥ 1000 := by decide
    omega
  · unfold PySem.Builtin.Str.tooLong
    exact decide_eq_false (by have := sizeLine_eq; omega)
  · rw [if_neg n1, if_neg (by rw [n2]; exact Bool.false_ne_true)]
    refine ⟨?_, ⟨.str (strMul z k.toNat), H, I.tok _, ⟨_, rfl⟩, q⟩⟩
    show (strMul z k.toNat).cps.size ≤ _
    unfold strMul
    rw [foldl_size]
    have := sizeLine_eq
    have e : z.cps.size = z.length := rfl
    rw [e]
    simp
    omega
end
end Cz
set_option maxHeartbeats 4000000
namespace Cz
open PySem PySem.Spec PyProof.Rows L2
def WxOk (K : PySem.W.Frag) (CA : String → Addr) (c : Ec) (w : Value → Option Addr → Hp → Prop) (H : Hp) : Prop := match c with
  | .n s => w (.ref (CA s)) none H
  | .p s fld d => ∀ dx v, H dx = some (.xd [(Str.ofString fld, v)]) → Rep K H d v [] → w (.ref (CA s)) (some dx) H
def Post {α : Type} (K : PySem.W.Frag) (CA : String → Addr) (W : WX) (σ : L2.St) (H : Hp) (r : R α) (ok : α → Prop) : Prop :=
  match r with
  | .ok a => ok a
  | .ex c => ∀ H', Same H H' → WxOk K CA c (fun cls od => W cls od σ) H'
  | .st => False
def Cont (K : PySem.W.Frag) (A : Addr → Prop) (H0 : Hp) (F : Nat → List Addr) (H : Hp) (kd : KD) (Q : VK) : Prop :=
  ∀ v H' f, Same H H' → Rep K H' kd.2 v f → KOk A H0 F H H' kd.1 f → Q v H'
def tE (K : PySem.W.Frag) (CA : String → Addr) (W : WX) (s : SE) : TE := fun σ H Q =>
  ∃ A H0 F G ρ, SR K A H0 F G ρ σ H ∧ Post K CA W σ H (s ρ) fun kd => Cont K A H0 F H kd Q
def tT (K : PySem.W.Frag) (CA : String → Addr) (W : WX) (s : STs) : TT := fun σ H Q =>
  ∃ A H0 F G ρ, SR K A H0 F G ρ σ H ∧ Post K CA W σ H (s ρ) fun b => ∀ H', Same H H' → Q b H'
def R.of {α : Type} : Option α → R α
  | some a => .ok a
  | none => .st
@[simp] theorem R.of_some {α : Type} (a : α) : R.of (some a) = .ok a := rfl
@[simp] theorem R.of_none {α : Type} : R.of (none : Option α) = .st := rfl
section
variable {K : PySem.W.Frag} {CA : String → Addr} {W : WX} {σ : L2.St} {H H1 : Hp}
theorem Post.bind {α β : Type} {r : R α} {f : α → R β} {ok : β → Prop} {ok' : α → Prop} (h : Post K CA W σ H (r.bind f) ok) (k : ∀ a, Post K CA W σ H (f a) ok → ok' a) : Post K CA W σ H r ok' := by
  cases r with
  | ok a => exact k a h
  | ex c => exact h
  | st => exact h
theorem Post.later {α : Type} {r : R α} {ok : α → Prop} (h : Post K CA W σ H r ok) (s : Same H H1) : Post K CA W σ H1 r ok := by
  cases r with
  | ok a => exact h
  | ex c => exact fun H' q => h H' (s.trans q)
  | st => exact h
theorem Post.of {α : Type} {o : Option α} {ok : α → Prop} (h : Post K CA W σ H (R.of o) ok) : ∃ a, o = some a ∧ ok a := by
  cases o with
  | none => exact h.elim
  | some a => exact ⟨a, rfl, h⟩
theorem Post.imp {α : Type} {r : R α} {ok ok' : α → Prop} (h : Post K CA W σ H r ok) (k : ∀ a, r = .ok a → ok a → ok' a) : Post K CA W σ H r ok' := by
  cases r with
  | ok a => exact k a rfl h
  | ex c => exact h
  | st => exact h
end
section
variable {X : Cx} {e : Expr}
theorem peI {t t' : TE} (h : PE X e t) (k : ∀ σ H Q, t' σ H Q → t σ H Q) : PE X e t' := ⟨fun pins s σ H Q I q => h.run pins s σ H Q I (k σ H Q q)⟩
theorem ptI {t t' : TT} (h : PT X e t) (k : ∀ σ H Q, t' σ H Q → t σ H Q) : PT X e t' := ⟨fun pins s σ H Q I q => h.run pins s σ H Q I (k σ H Q q)⟩
theorem pwI {t t' : TT} (h : PW X e t) (k : ∀ σ H Q, t' σ H Q → t σ H Q) : PW X e t' := ⟨fun w pins s σ H Q I q => h.run w pins s σ H Q I (k σ H Q q)⟩
end
def locE (i : Nat) : SE := fun ρ => match ρ[i]? with
  | some (.ow d) => .ok (.bor [i], d)
  | some (.bo is d) => .ok (.bor is, d)
  | _ => .st
def conE (d : D) : SE := fun _ => .ok (.own, d)
section
variable {X : Cx} {CA : String → Addr} {W : WX} {pos : Pos}
theorem e_loc (i : Nat) {x : Str} (hN : X.N[i]? = some x := by rfl) (hv : Vis X.env.scope x := by first | exact Or.inl rfl | exact Or.inr (Or.inl rfl) | exact Or.inr (Or.inr rfl)) (hd : (x == ("__debug__" : Str)) = false := by decide)
    (hcd : (x == ("__classdict__" : Str)) = false := by decide) : PE X (.Name x pos) (tE X.K CA W (locE i)) := by
  refine peI (pe_var hN hv hd hcd) fun σ H Q ⟨A, H0, F, G, ρ, sr, h⟩ => ?_
  unfold locE at h
  cases e : ρ[i]? with
  | none => rw [e] at h; exact h.elim
  | some sl =>
    rw [e] at h
    cases sl with
    | no => exact h.elim
    | tb => exact h.elim
    | ow d =>
      obtain ⟨v, hv, r⟩ := sr.slo i d e
      exact ⟨v, hv, h v H (F i) (Same.refl H) r fun a ha => .inl ⟨i, by simp, ha⟩⟩
    | bo is d =>
      obtain ⟨v, f, hv, r, b⟩ := sr.slb i is d e
      exact ⟨v, hv, h v H f (Same.refl H) r b⟩
theorem e_con {e : Expr} {d : D} {v : V} (h : PE X e (tC v)) (r : ∀ K H, Rep K H d v []) : PE X e (tE X.K CA W (conE d)) :=
  peI h fun σ H Q ⟨A, H0, F, G, ρ, sr, h⟩ => h v H [] (Same.refl H) (r _ _) (KOk.nil _)
theorem e_int {i : Int} {j} : PE X (.Constant (.int i) j pos) (tE X.K CA W (conE (.int i))) := e_con pe_int fun _ _ => .int i
theorem e_bl {b : Bool} {j} : PE X (.Constant (.bool b) j pos) (tE X.K CA W (conE (.bl b))) := e_con pe_bl fun _ _ => .bl b
theorem e_non {j} : PE X (.Constant .none j pos) (tE X.K CA W (conE .non)) := e_con pe_non fun _ _ => .non
theorem e_str {x : Str} {j} : PE X (.Constant (.str x) j pos) (tE X.K CA W (conE (.str x))) := e_con pe_str fun _ _ => .str x
theorem e_gint {x : Str} {i : Int} (hm : ∃ t, X.mg x = some (.int i t)) (hg : Gl X x := by rfl) (hd : (x == ("__debug__" : Str)) = false := by decide) : PE X (.Name x pos) (tE X.K CA W (conE (.int i))) := by
  obtain ⟨t, hm⟩ := hm
  exact e_con (pe_glob (v := .int i) hg hm ⟨t, rfl⟩ hd) fun _ _ => .int i
theorem e_gstr {x : Str} {i : Str} (hm : ∃ t, X.mg x = some (.str i t)) (hg : Gl X x := by rfl) (hd : (x == ("__debug__" : Str)) = false := by decide) : PE X (.Name x pos) (tE X.K CA W (conE (.str i))) := by
  obtain ⟨t, hm⟩ := hm
  exact e_con (pe_glob (v := .str i) hg hm ⟨t, rfl⟩ hd) fun _ _ => .str i
end
def LIM : Nat := 16777216
theorem lim_eq : LIM = sizeLine := sizeLine_eq.symm
def mulOk (i j : Int) : Bool := decide (i.natAbs.log2 + j.natAbs.log2 < 100000000)
def divOk (j : Int) : Bool := decide (0 < j) && decide (j.natAbs.log2 < 9000)
def powOk (i j : Int) : Bool := decide (0 ≤ j) && decide (j ≤ 1000000) && decide (i.natAbs < 2 ^ 64)
def lk (k : Kd) (ds : List D) : Kd := if noLs ds = true then .own else k
def opB : Operator → KD → KD → Option KD
  | .Add, (_, .int i), (_, .int j) => some (.own, .int (i + j))
  | .Add, (_, .str i), (_, .str j) => if i.length + j.length ≤ LIM then some (.own, .str (i ++ j)) else none
  | .Add, (k1, .tup a), (k2, .tup b) => if a.length + b.length ≤ LIM then some (k1.join k2, .tup (a ++ b)) else none
  | .Add, (k1, .lst a), (k2, .lst b) => if a.length + b.length ≤ LIM then some (lk (k1.join k2) (a ++ b), .lst (a ++ b)) else none
  | .Add, (k1, .scr a), (k2, .lst b) => if a.length + b.length ≤ LIM then some (lk (k1.join k2) (a ++ b), .lst (a ++ b)) else none
  | .Add, (k1, .lst a), (k2, .scr b) => if a.length + b.length ≤ LIM then some (lk (k1.join k2) (a ++ b), .lst (a ++ b)) else none
  | .Add, (k1, .scr a), (k2, .scr b) => if a.length + b.length ≤ LIM then some (lk (k1.join k2) (a ++ b), .lst (a ++ b)) else none
  | .Sub, (_, .int i), (_, .int j) => some (.own, .int (i - j))
  | .Mult, (_, .int i), (_, .int j) => if mulOk i j = true then some (.own, .int (i * j)) else none
  | .Mult, (k, .tup a), (_, .int j) => if a ≠ [] ∧ 1 ≤ j ∧ j ≤ 1000 ∧ a.length ≤ 1000 ∧ noLs a = true then some (k, .tup (List.replicate j.toNat a).flatten) else none
  | .Mult, (_, .str z), (_, .int j) => if 2 ≤ j ∧ j ≤ 1000 ∧ 1 ≤ z.length ∧ z.length ≤ 1000 then some (.own, .str (strMul z j.toNat)) else none
  | .FloorDiv, (_, .int i), (_, .int j) => if divOk j = true then some (.own, .int (i / j)) else none
  | .Mod, (_, .int i), (_, .int j) => if 0 < j then some (.own, .int (i % j)) else none
  | .Pow, (_, .int i), (_, .int j) => if powOk i j = true then some (.own, .int (i ^ j.toNat)) else none
  | _, _, _ => none
def binE (op : Operator) (a b : SE) : SE := fun ρ => (a ρ).bind fun x => (b ρ).bind fun y => R.of (opB op x y)
def rOp (K : PySem.W.Frag) : Operator → R2
  | .Add => fun x y H Q => rI0 (fun i j => .int (i + j)) x y H Q ∨ (∃ i j, x = .str i ∧ y = .str j ∧ i.length + j.length ≤ sizeLine ∧ Q (.str (i ++ j)) H) ∨ rCatTT K x y H Q ∨ rCatLL K x y H Q
  | .Sub => rI0 fun i j => .int (i - j)
  | .Mult => fun x y H Q => rI CMulX (fun i j => .int (i * j)) x y H Q ∨ rRepT1 K x y H Q ∨ rMulS x y H Q
  | .FloorDiv => rI CDivW fun i j => .int (i / j)
  | .Mod => rI (fun _ j => 0 < j) fun i j => .int (i % j)
  | .Pow => rI CPow fun i j => .int (i ^ j.toNat)
  | _ => fun _ _ _ _ => False
theorem rOp_ok {X : Cx} (op : Operator) : OpR X (binaryOp op) (rOp X.K op) := by
  cases op with
  | Add => exact op_add.or (op_add_str.or (op_catTT.or op_catLL))
  | Sub => exact op_sub
  | Mult => exact op_mulX.or (op_repT1.or op_mulS)
  | FloorDiv => exact op_fdivW
  | Mod => exact op_mod
  | Pow => exact op_pow
  | _ => exact fun _ _ _ _ _ _ _ _ _ _ _ _ h => h.elim
theorem same_upd {H : Hp} {p : Addr} {o : HO} (h : H p = none) : Same H (upd H p o) := fun b x e => by
  rw [upd_ne (ne_of_none e h)]; exact e
section
variable {K : PySem.W.Frag} {A : Addr → Prop} {H0 H H1 H2 : Hp} {F : Nat → List Addr} {G : List (D × V)} {ρ : Env} {σ : L2.St} {Q : VK}
theorem Cont.atom {d : D} {v : V} {k : Kd} (h : Cont K A H0 F H (k, d) Q) (s : Same H H1) (r : Rep K H1 d v []) : Q v H1 := h v H1 [] s r (KOk.nil _)
theorem KOk.node {k : Kd} {p : Addr} {xs : List V} {f : List Addr} (sr : SR K A H0 F G ρ σ H) (s : Same H H1) (np : H1 p = none) (hf : ∀ a ∈ f, H1 a ≠ none) (o : KOk A H0 F H H1 k f) :
    KOk A H0 F H (upd H1 p (.lst xs)) k (p :: f) := by
  have hp : ∀ a ∈ f, a ≠ p := fun a ha e => hf a ha (by rw [e]; exact np)
  cases k with
  | own =>
    refine ⟨List.nodup_cons.mpr ⟨fun hm => hp p hm rfl, o.1⟩, fun a ha => ?_⟩
    rcases List.mem_cons.mp ha with e | ha
    · subst e; exact ⟨s.free np, ⟨by rw [upd_same]; trivial⟩⟩
    · exact ⟨(o.2 a ha).1, (o.2 a ha).2.same (same_upd np)⟩
  | bor is =>
    intro a ha
    rcases List.mem_cons.mp ha with e | ha
    · subst e
      exact .inr ⟨.inr ((sr.fr.trans s).free np), fun j hj => ((sr.same s).own j).2 a hj |>.2.ne np⟩
    · exact o a ha
theorem KOk.lk {k : Kd} {ds : List D} {vs : List V} {f : List Addr} (r : Reps K H1 ds vs f) (o : KOk A H0 F H H1 k f) : KOk A H0 F H H1 (lk k ds) f := by
  unfold Cz.lk
  split
  · rename_i h
    rw [Reps.noL r h]
    exact KOk.nil _
  · exact o
theorem Cont.newL {k : Kd} {ds : List D} {vs : List V} {f : List Addr} {p : Addr} (h : Cont K A H0 F H (k, .lst ds) Q) (sr : SR K A H0 F G ρ σ H) (s : Same H H1) (r : Reps K H1 ds vs f) (o : KOk A H0 F H H1 k f) (np : H1 p = none) : Q (.ref p) (upd H1 p (.lst vs)) :=
  h _ _ (p :: f) (s.trans (same_upd np)) (.lst upd_same (r.same (same_upd np))) (o.node sr s np r.trk)
theorem Cont.newT {k : Kd} {ds : List D} {vs : List V} {f : List Addr} {p : Addr} (h : Cont K A H0 F H (k, .tup ds) Q) (s : Same H H1) (r : Reps K H1 ds vs f) (o : KOk A H0 F H H1 k f) (np : H1 p = none) : Q (.ref p) (upd H1 p (.tup vs)) :=
  h _ _ f (s.trans (same_upd np)) (.tup upd_same (r.same (same_upd np))) (o.wide (Same.refl H) (same_upd np))
theorem opB_ok {op : Operator} {k1 k2 : Kd} {d1 d2 : D} {v1 v2 : V} {f1 f2 : List Addr} {kd : KD} (sr : SR K A H0 F G ρ σ H) (s1 : Same H H1) (s2 : Same H1 H2) (r1 : Rep K H1 d1 v1 f1) (r2 : Rep K H2 d2 v2 f2)
    (o1 : KOk A H0 F H H1 k1 f1) (o2 : KOk A H0 F H1 H2 k2 f2) (e : opB op (k1, d1) (k2, d2) = some kd) (h : Cont K A H0 F H kd Q) : rOp K op v1 v2 H2 Q := by
  have s12 := s1.trans s2
  have r1' := r1.same s2
  have two : ∀ {P : Int → Int → Prop} {g : Int → Int → Int} {i j : Int}, d1 = .int i → d2 = .int j → P i j → kd = (.own, .int (g i j)) → rI P (fun i j => .int (g i j)) v1 v2 H2 Q := fun {P g i j} e1 e2 p e3 => by
    subst e1; subst e2; subst e3
    cases r1; cases r2
    exact ⟨_, _, rfl, rfl, p, h.atom s12 (.int _)⟩
  have cat : ∀ {a b : List D}, (∃ a1 vs g, v1 = .ref a1 ∧ SqL K H1 a1 vs ∧ Reps K H1 a vs g ∧ (∀ b ∈ g, b ∈ f1) ∧ (f1.Nodup → g.Nodup)) → (∃ a1 vs g, v2 = .ref a1 ∧ SqL K H2 a1 vs ∧ Reps K H2 b vs g ∧ (∀ b ∈ g, b ∈ f2) ∧ (f2.Nodup → g.Nodup)) →
      (if a.length + b.length ≤ LIM then some (lk (k1.join k2) (a ++ b), D.lst (a ++ b)) else none) = some kd → rCatLL K v1 v2 H2 Q := fun {a b} ⟨a1, vs1, g1, ev1, t1, q1, i1, n1⟩ ⟨a2, vs2, g2, ev2, t2, q2, i2, n2⟩ e => by
    split at e
    · rename_i hz
      cases e
      subst ev1; subst ev2
      have q1' := q1.same s2
      refine ⟨_, _, _, _, rfl, rfl, s2.seq t1, t2, by rw [← lim_eq, ← q1.length, ← q2.length]; exact hz, fun p np => ?_⟩
      have o := KOk.join sr s1 s2 q1.trk (o1.sub i1 n1) (o2.sub i2 n2)
      exact h.newL sr s12 (q1'.app q2) (o.lk (q1'.app q2)) np
    · cases e
  cases op with
  | Add =>
    cases d1 with
    | int i =>
      cases d2 with
      | int j => simp only [opB, Option.some.injEq] at e; subst e; cases r1; cases r2; exact .inl ⟨_, _, rfl, rfl, h.atom s12 (.int _)⟩
      | _ => simp [opB] at e
    | str i =>
      cases d2 with
      | str j =>
        simp only [opB] at e
        split at e
        · cases e; cases r1; cases r2; rename_i hz; exact .inr (.inl ⟨_, _, rfl, rfl, by rw [← lim_eq]; exact hz, h.atom s12 (.str _)⟩)
        · cases e
      | _ => simp [opB] at e
    | tup a =>
      cases d2 with
      | tup b =>
        simp only [opB] at e
        split at e
        · rename_i hz
          cases e
          cases r1' with
          | tup t1 q1 =>
          cases r2 with
          | tup t2 q2 =>
          refine .inr (.inr (.inl ⟨_, _, _, _, rfl, rfl, .of t1, .of t2, by rw [← lim_eq, ← q1.length, ← q2.length]; exact hz, fun hx => ?_, fun hx hy => ?_, fun hx hy p np => ?_⟩))
          · subst hx
            cases q1
            exact h _ _ f2 s12 (.tup t2 q2) (KOk.join sr s1 s2 (f := []) (fun a ha => nomatch ha) (KOk.nil k1) o2)
          · subst hy
            cases q2
            refine h _ _ f1 s12 (by rw [List.append_nil]; exact .tup t1 q1) ?_
            have := KOk.join sr s1 s2 (g := []) r1.trk o1 (KOk.nil k2)
            rw [List.append_nil] at this
            exact this
          · exact h.newT s12 (q1.app q2) (KOk.join sr s1 s2 r1.trk o1 o2) np
        · cases e
      | _ => simp [opB] at e
    | lst a =>
      cases d2 with
      | lst b => exact .inr (.inr (.inr (cat r1.lstI r2.lstI e)))
      | scr b => exact .inr (.inr (.inr (cat r1.lstI r2.scrI e)))
      | _ => simp [opB] at e
    | scr a =>
      cases d2 with
      | lst b => exact .inr (.inr (.inr (cat r1.scrI r2.lstI e)))
      | scr b => exact .inr (.inr (.inr (cat r1.scrI r2.scrI e)))
      | _ => simp [opB] at e
    | _ => cases d2 <;> simp [opB] at e
  | Sub =>
    cases d1 with
    | int i =>
      cases d2 with
      | int j => simp only [opB, Option.some.injEq] at e; subst e; cases r1; cases r2; exact ⟨_, _, rfl, rfl, h.atom s12 (.int _)⟩
      | _ => simp [opB] at e
    | _ => cases d2 <;> simp [opB] at e
  | Mult =>
    cases d1 with
    | int i =>
      cases d2 with
      | int j =>
        simp only [opB] at e
        split at e
        · rename_i hz; cases e; exact .inl (two (P := CMulX) rfl rfl (show i.natAbs.log2 + j.natAbs.log2 < 100000000 from of_decide_eq_true hz) rfl)
        · cases e
      | _ => simp [opB] at e
    | tup a =>
      cases d2 with
      | int j =>
        simp only [opB] at e
        split at e
        · rename_i hz
          cases e
          obtain ⟨h1, h2, h3, h4, h5⟩ := hz
          cases r1' with
          | @tup a0 vs _ _ t1 q1 =>
          cases r2
          have hne : vs ≠ [] := fun z => by subst z; cases q1; exact h1 rfl
          have hf := Reps.noL q1 h5
          refine .inr (.inl ⟨_, _, _, rfl, rfl, .of t1, hne, h2, h3, by rw [← q1.length]; exact h4, fun z => ?_, fun z p np => ?_⟩)
          · have : (List.replicate j.toNat a).flatten = a := by rw [z]; simp
            rw [this] at h
            exact h _ _ f1 s12 (.tup t1 q1) (by rw [hf]; exact KOk.nil _)
          · have rr : ∀ m : Nat, Reps K H2 (List.replicate m a).flatten (List.replicate m vs).flatten [] := fun m => by
              induction m with
              | zero => exact .nil
              | succ m ih =>
                rw [hf] at q1
                have := q1.app ih
                simpa [List.replicate_succ] using this
            exact h.newT s12 (rr _) (KOk.nil _) np
        · cases e
      | _ => simp [opB] at e
    | str z =>
      cases d2 with
      | int j =>
        simp only [opB] at e
        split at e
        · rename_i hz; cases e; cases r1; cases r2
          exact .inr (.inr ⟨_, _, rfl, rfl, hz.1, hz.2.1, hz.2.2.1, hz.2.2.2, h.atom s12 (.str _)⟩)
        · cases e
      | _ => simp [opB] at e
    | _ => cases d2 <;> simp [opB] at e
  | FloorDiv =>
    cases d1 with
    | int i =>
      cases d2 with
      | int j =>
        simp only [opB] at e
        split at e
        · rename_i hz; cases e
          have hz' := Bool.and_eq_true_iff.mp hz
          exact two rfl rfl ⟨of_decide_eq_true hz'.1, of_decide_eq_true hz'.2⟩ rfl
        · cases e
      | _ => simp [opB] at e
    | _ => cases d2 <;> simp [opB] at e
  | Mod =>
    cases d1 with
    | int i =>
      cases d2 with
      | int j =>
        simp only [opB] at e
        split at e
        · rename_i hz; cases e; exact two (P := fun _ j => 0 < j) rfl rfl hz rfl
        · cases e
      | _ => simp [opB] at e
    | _ => cases d2 <;> simp [opB] at e
  | Pow =>
    cases d1 with
    | int i =>
      cases d2 with
      | int j =>
        simp only [opB] at e
        split at e
        · rename_i hz; cases e
          have hz' := Bool.and_eq_true_iff.mp hz
          have hz2 := Bool.and_eq_true_iff.mp hz'.1
          exact two rfl rfl ⟨of_decide_eq_true hz2.1, of_decide_eq_true hz2.2, of_decide_eq_true hz'.2⟩ rfl
        · cases e
      | _ => simp [opB] at e
    | _ => cases d2 <;> simp [opB] at e
  | _ => cases d1 <;> cases d2 <;> simp [opB] at e
end
section
variable {X : Cx} {CA : String → Addr} {W : WX} {pos : Pos} {a b : Expr} {sa sb : SE}
theorem e_bin {op : Operator} (ha : PE X a (tE X.K CA W sa)) (hb : PE X b (tE X.K CA W sb)) : PE X (.BinOp a op b pos) (tE X.K CA W (binE op sa sb)) := by
  refine peI (pe_op (rOp_ok op) ha hb) fun σ H Q ⟨A, H0, F, G, ρ, sr, h⟩ => ?_
  refine ⟨A, H0, F, G, ρ, sr, h.bind fun ⟨k1, d1⟩ h1 => ?_⟩
  intro v1 H1 f1 s1 r1 o1
  refine ⟨A, H0, F, G, ρ, sr.same s1, (h1.later s1).bind fun ⟨k2, d2⟩ h2 => ?_⟩
  intro v2 H2 f2 s2 r2 o2
  obtain ⟨kd, e, h3⟩ := h2.of
  exact opB_ok sr s1 s2 r1 r2 o1 o2 e h3
end
end Cz
set_option maxHeartbeats 4000000
namespace Cz
open PySem PySem.Spec PyProof.Rows L2
theorem Post.ofB {α β : Type} {K : PySem.W.Frag} {CA : String → Addr} {W : WX} {σ : L2.St} {H : Hp} {o : Option α} {f : α → R β} {ok : β → Prop} (h : Post K CA W σ H ((R.of o).bind f) ok) : ∃ a, o = some a ∧ Post K CA W σ H (f a) ok := by
  cases o with
  | none => exact h.elim
  | some a => exact ⟨a, rfl, h⟩
mutual
def toP : D → Option PyData
  | .non => some .none | .bl b => some (.bool b) | .int i => some (.int i) | .str x => some (.str x)
  | .tup ds => (toPs ds).map .tuple
  | .lst ds => (toPs ds).map .list
  | .scr ds => (toPs ds).map .list
  | .dic _ => none
  | .fn _ => none | .obj _ _ _ => none | .dtk _ => none
  | .sob _ _ => none | .fdc _ => none | .exv _ _ _ _ => none | .nod _ _ => none | .tg _ _ => none | .hol _ => none
def toPs : List D → Option (List PyData)
  | [] => some []
  | d :: ds => match toP d, toPs ds with
    | some p, some ps => some (p :: ps)
    | _, _ => none
end
def eqD (a b : D) : Option Bool := match toP a, toP b with
  | some p, some q => if SeqAt.shaped p = true then if SeqAt.shaped q = true then some (PyData.eqv p q) else none else none
  | _, _ => none
section
variable {K : PySem.W.Frag} {H : Hp}
mutual
theorem Rep.dp : ∀ {d : D} {v : V} {f : List Addr} {p : PyData}, Rep K H d v f → toP d = some p → Dp K H v p
  | _, _, _, _, .non, e => by simp only [toP, Option.some.injEq] at e; subst e; exact .non
  | _, _, _, _, .bl b, e => by simp only [toP, Option.some.injEq] at e; subst e; exact .bl b
  | _, _, _, _, .int i, e => by simp only [toP, Option.some.injEq] at e; subst e; exact .int i
  | _, _, _, _, .str x, e => by simp only [toP, Option.some.injEq] at e; subst e; exact .str x
  | _, _, _, _, .tup (ds := ds) q r, e => by
    cases h : toPs ds with
    | none => simp [toP, h] at e
    | some ps => simp only [toP, h, Option.map_some, Option.some.injEq] at e; subst e; exact .tup (.of q) (Reps.dp r h)
  | _, _, _, _, .lst (ds := ds) q r, e => by
    cases h : toPs ds with
    | none => simp [toP, h] at e
    | some ps => simp only [toP, h, Option.map_some, Option.some.injEq] at e; subst e; exact .lst (.of q) (Reps.dp r h)
  | _, _, _, _, .scr (ds := ds) q r, e => by
    cases h : toPs ds with
    | none => simp [toP, h] at e
    | some ps =>
      simp only [toP, h, Option.map_some, Option.some.injEq] at e; subst e
      rcases q with q | ⟨o, q⟩
      · exact .lst (q _) (Reps.dp r h)
      · exact .lst (.inl (.inr ⟨o, q⟩)) (Reps.dp r h)
  | _, _, _, _, .dic q n r, e => by simp [toP] at e
  | _, _, _, _, .fn q, e => by simp [toP] at e
  | _, _, _, _, .obj q c n r _, e => by simp [toP] at e
  | _, _, _, _, .dtk q n r, e => by simp [toP] at e
  | _, _, _, _, .sob _ _ _ _, e => by simp [toP] at e
  | _, _, _, _, .fdc _ _ _, e => by simp [toP] at e
  | _, _, _, _, .exv _ _, e => by simp [toP] at e
  | _, _, _, _, .nod _, e => by simp [toP] at e
  | _, _, _, _, .tg _ _, e => by simp [toP] at e
  | _, _, _, _, .hol _, e => by simp [toP] at e
theorem Reps.dp : ∀ {d : List D} {v : List V} {f : List Addr} {p : List PyData}, Reps K H d v f → toPs d = some p → DpAll K H v p
  | _, _, _, _, .nil, e => by simp only [toPs, Option.some.injEq] at e; subst e; exact .nil
  | _, _, _, _, .cons (d := d) (ds := ds) r t, e => by
    cases h : toP d with
    | none => simp [toPs, h] at e
    | some p =>
      cases h2 : toPs ds with
      | none => simp [toPs, h, h2] at e
      | some ps => simp only [toPs, h, h2, Option.some.injEq] at e; subst e; exact .cons (Rep.dp r h) (Reps.dp t h2)
end
end
def fV : D → Option V
  | .non => some .non | .bl b => some (.bl b) | .int i => some (.int i) | .str x => some (.str x)
  | _ => none
def fVs : List D → Option (List V)
  | [] => some []
  | d :: ds => match fV d, fVs ds with
    | some p, some ps => some (p :: ps)
    | _, _ => none
def keyD : D → Option Key
  | .int i => some (.inl i)
  | .str x => some (.inr x)
  | _ => none
def valD {κ : Type} [DecidableEq κ] : List (κ × D) → κ → Option D
  | [], _ => none
  | (k, d) :: r, q => if k = q then some d else valD r q
def keysT : List D → Option (List Key)
  | [] => some []
  | d :: ds => match keyD d, keysT ds with
    | some k, some ks => some (k :: ks)
    | _, _ => none
def keyT : D → Option (List Key)
  | .tup ds => keysT ds
  | _ => none
def inD (x y : D) : Option Bool := match y with
  | .dic kvs => (keyD x).map fun k => (valD kvs k).isSome
  | .fdc kvs => (keyD x).map fun k => (valD kvs k).isSome
  | .dtk kvs => (keyT x).map fun k => (valD kvs k).isSome
  | .str z => (match x with
    | .str s => (match s.cps.toList with
      | [c] => some (decide (c ∈ z.cps.toList))
      | _ => some (!(Builtin.Str.occurrences z s 0 z.length 1).isEmpty))
    | _ => none)
  | .tup ds => (match fV x, fVs ds with
    | some v, some vs => some (inV v vs)
    | _, _ => none)
  | .lst ds => (match toP x, toPs ds with
    | some p, some ps => if SeqAt.shaped p = true then if SeqAt.shaped (.list ps) = true then some (ps.any fun z => PyData.eqv z p) else none else none
    | _, _ => none)
  | _ => none
def isNon : D → Bool
  | .non => true
  | _ => false
def intsD : List D → Option (List Int)
  | [] => some []
  | .int i :: r => (intsD r).map (i :: ·)
  | _ :: _ => none
@[simp] theorem intsD_map : ∀ ns : List Int, intsD (ns.map D.int) = some ns
  | [] => rfl
  | n :: ns => by simp [intsD, intsD_map ns]
theorem intsD_eq : ∀ {ds : List D} {ns : List Int}, intsD ds = some ns → ds = ns.map D.int
  | [], ns, e => by simp only [intsD, Option.some.injEq] at e; subst e; rfl
  | d :: ds, ns, e => by
    cases d with
    | int i =>
      cases h : intsD ds with
      | none => simp [intsD, h] at e
      | some ms => simp only [intsD, h, Option.map_some, Option.some.injEq] at e; subst e; rw [intsD_eq h]; rfl
    | _ => simp [intsD] at e
def leT (ns ms : List Int) : Bool := Ob.lexAt (fun j => decide (ns.getD j 0 = ms.getD j 0)) (fun j => decide (ns.getD j 0 ≤ ms.getD j 0)) (decide (ns.length ≤ ms.length)) 0 (min ns.length ms.length)
def cmpB : CmpOp → D → D → Option Bool
  | .Lt, .int i, .int j => some (decide (i < j))
  | .Lt, .tup a, .tup b => (intsD a).bind fun ns => (intsD b).map fun ms => HT.lexLt ns ms
  | .LtE, .int i, .int j => some (decide (i ≤ j))
  | .LtE, .tup a, .tup b => (intsD a).bind fun ns => (intsD b).map fun ms => leT ns ms
  | .Gt, .int i, .int j => some (decide (i > j))
  | .GtE, .int i, .int j => some (decide (i ≥ j))
  | .Eq, a, b => eqD a b
  | .NotEq, a, b => (eqD a b).map (!·)
  | .Is, a, .non => some (isNon a)
  | .IsNot, a, .non => some (!isNon a)
  | .In, x, y => inD x y
  | .NotIn, x, y => (inD x y).map (!·)
  | _, _, _ => none
section
variable {K : PySem.W.Frag} {H : Hp}
theorem Rep.fV {d : D} {v u : V} {f : List Addr} (r : Rep K H d v f) (e : Cz.fV d = some u) : v = u ∧ flatV u = true := by
  cases r <;> simp [Cz.fV] at e <;> (subst e; exact ⟨rfl, rfl⟩)
theorem Reps.fV : ∀ {ds : List D} {vs us : List V} {f : List Addr}, Reps K H ds vs f → fVs ds = some us → vs = us ∧ us.all flatV = true
  | _, _, _, _, .nil, e => by simp only [fVs, Option.some.injEq] at e; subst e; exact ⟨rfl, rfl⟩
  | _, _, _, _, .cons (d := d) (ds := ds) r t, e => by
    cases h : Cz.fV d with
    | none => simp [fVs, h] at e
    | some p =>
      cases h2 : fVs ds with
      | none => simp [fVs, h, h2] at e
      | some ps =>
        simp only [fVs, h, h2, Option.some.injEq] at e; subst e
        obtain ⟨e1, e2⟩ := r.fV h
        obtain ⟨e3, e4⟩ := Reps.fV t h2
        subst e1; subst e3
        exact ⟨rfl, by simp [e2, e4]⟩
theorem keyD_rep {d : D} {v : V} {f : List Addr} {k : Key} (r : Rep K H d v f) (e : keyD d = some k) : v = kV k := by
  cases r <;> simp [keyD] at e <;> (subst e; rfl)
theorem keysT_rep : ∀ {ds : List D} {vs : List V} {f : List Addr} {k : List Key}, Reps K H ds vs f → keysT ds = some k → vs = k.map kV
  | [], _, _, k, .nil, e => by simp [keysT] at e; subst e; rfl
  | d :: ds, _, _, k, .cons r t, e => by
    cases h1 : keyD d with
    | none => simp [keysT, h1] at e
    | some k1 =>
      cases h2 : keysT ds with
      | none => simp [keysT, h1, h2] at e
      | some ks =>
        simp only [keysT, h1, h2, Option.some.injEq] at e
        subst e
        rw [keyD_rep r h1, keysT_rep t h2]; rfl
theorem keyT_rep {d : D} {v : V} {f : List Addr} {k : List Key} (r : Rep K H d v f) (e : keyT d = some k) : ∃ b, v = .ref b ∧ H b = some (.tup (k.map kV)) := by
  cases r with
  | tup q t =>
    have := keysT_rep t e
    subst this
    exact ⟨_, rfl, q⟩
  | _ => simp [keyT] at e
theorem RepK.val {κ : Type} [DecidableEq κ] : ∀ {kds : List (κ × D)} {kvs : List (κ × V)} {f : List Addr} (k : κ), RepK K H kds kvs f →
    (valD kds k = none ∧ valV kvs k = none) ∨ ∃ d v g, valD kds k = some d ∧ valV kvs k = some v ∧ Rep K H d v g ∧ (∀ a ∈ g, a ∈ f) ∧ (f.Nodup → g.Nodup)
  | _, _, _, k, .nil => .inl ⟨rfl, rfl⟩
  | _, _, _, k, .cons (k := q) (d := d) (v := v) r t => by
    by_cases h : q = k
    · refine .inr ⟨d, v, _, by simp [valD, h], valV_pos h, r, fun a ha => List.mem_append_left _ ha, fun n => (List.nodup_append.mp n).1⟩
    · rcases RepK.val k t with ⟨e1, e2⟩ | ⟨d', v', g, e1, e2, e3, e4, e5⟩
      · exact .inl ⟨by simp [valD, h, e1], by rw [valV_neg (p := (q, v)) h]; exact e2⟩
      · exact .inr ⟨d', v', g, by simp [valD, h, e1], by rw [valV_neg (p := (q, v)) h]; exact e2, e3, fun a ha => List.mem_append_right _ (e4 a ha), fun n => e5 (List.nodup_append.mp n).2.1⟩
end
def rDIn (neg : Bool) : R2 := fun x y H Q => ∃ a o, y = .ref a ∧ DGet H a x o ∧ Q (.bl (if neg then !o.isSome else o.isSome)) H
theorem op_dIn {X : Cx} (hu : X.A.units + 1 < cLine) : OpR X (compareOp .In) (rDIn false) := by
  intro pins s σ H x y v u Q I rx ry h
  obtain ⟨a, o, rfl, g, q⟩ := h
  obtain rfl : u = Value.ref a := ry
  exact d_in hu I g rx fun s3 I3 => ⟨.bl o.isSome, H, I3, rfl, q⟩
theorem op_dNotIn {X : Cx} (hu : X.A.units + 1 < cLine) : OpR X (compareOp .NotIn) (rDIn true) := by
  intro pins s σ H x y v u Q I rx ry h
  obtain ⟨a, o, rfl, g, q⟩ := h
  obtain rfl : u = Value.ref a := ry
  exact d_notIn hu I g rx fun s3 I3 => ⟨.bl (!o.isSome), H, I3, rfl, q⟩
def rOcc (neg : Bool) : R2 := fun x y H Q => ∃ i j, x = .str i ∧ y = .str j ∧ Q (.bl (if neg then !(!(Builtin.Str.occurrences j i 0 j.length 1).isEmpty) else !(Builtin.Str.occurrences j i 0 j.length 1).isEmpty)) H
def rSgn (neg : Bool) : R2 := fun x y H Q => ∃ (c : Nat) (z : Str), x = .str ⟨#[c]⟩ ∧ y = .str z ∧ Q (.bl (if neg then !decide (c ∈ z.cps.toList) else decide (c ∈ z.cps.toList))) H
def rInT (K : PySem.W.Frag) (neg : Bool) : R2 := fun x y H Q => rDIn neg x y H Q ∨ rOcc neg x y H Q ∨ rSgn neg x y H Q ∨ rIn K neg x y H Q ∨ (if neg then rNotInD K x y H Q else rInD K x y H Q)
def rCmp (K : PySem.W.Frag) : CmpOp → R2
  | .Lt => fun x y H Q => rI0 (fun i j => .bl (decide (i < j))) x y H Q ∨ rLtT K x y H Q
  | .LtE => fun x y H Q => rI0 (fun i j => .bl (decide (i ≤ j))) x y H Q ∨ rLeT K x y H Q
  | .Gt => rI0 fun i j => .bl (decide (i > j))
  | .GtE => rI0 fun i j => .bl (decide (i ≥ j))
  | .Eq => rEqD K
  | .NotEq => rNeD K
  | .Is => fun x y H Q => y = .non ∧ Q (.bl (decide (x = .non))) H
  | .IsNot => fun x y H Q => y = .non ∧ Q (.bl (!decide (x = .non))) H
  | .In => rInT K false
  | .NotIn => rInT K true
theorem rCmp_ok {X : Cx} (hu : X.A.units + 65 < cLine) (op : CmpOp) : OpR X (compareOp op) (rCmp X.K op) := by
  cases op with
  | Lt => exact OpR.or op_lt (op_ltT (by omega))
  | LtE => exact OpR.or op_le (op_leT (by omega))
  | Gt => exact op_gt
  | GtE => exact op_ge
  | Eq => exact op_eqD (by omega)
  | NotEq => exact op_neD (by omega)
  | Is => exact op_isN
  | IsNot => exact op_notN
  | In => exact (op_dIn (by omega)).or (OpR.or op_in_str (OpR.or op_in_sign (OpR.or op_in_seq (op_inD hu))))
  | NotIn => exact (op_dNotIn (by omega)).or (OpR.or op_notin_str (OpR.or op_notIn_sign (OpR.or op_notIn_seq (op_notInD hu))))
theorem isNon_rep {K : PySem.W.Frag} {H : Hp} {d : D} {v : V} {f : List Addr} (r : Rep K H d v f) : decide (v = V.non) = isNon d := by
  cases r <;> simp [isNon]
theorem inD_ok {K : PySem.W.Frag} {H : Hp} {neg : Bool} {d1 d2 : D} {v1 v2 : V} {f1 f2 : List Addr} {b : Bool} {Q : VK} (r1 : Rep K H d1 v1 f1) (r2 : Rep K H d2 v2 f2) (e : inD d1 d2 = some b) (h : Q (.bl (if neg then !b else b)) H) : rInT K neg v1 v2 H Q := by
  cases d2 with
  | dic kvs =>
    cases k : keyD d1 with
    | none => simp [inD, k] at e
    | some k' =>
      simp only [inD, k, Option.map_some, Option.some.injEq] at e
      subst e
      cases r2 with
      | dic h2 _ q2 =>
      have ev := keyD_rep r1 k
      subst ev
      refine .inl ⟨_, _, rfl, DGet.k h2, ?_⟩
      rcases q2.val k' with ⟨e1, e2⟩ | ⟨_, _, _, e1, e2, _⟩
      · rw [e1] at h; rw [e2]; exact h
      · rw [e1] at h; rw [e2]; exact h
  | fdc kvs =>
    cases k : keyD d1 with
    | none => simp [inD, k] at e
    | some k' =>
      simp only [inD, k, Option.map_some, Option.some.injEq] at e
      subst e
      cases r2 with
      | fdc h2 _ q2 =>
      have ev := keyD_rep r1 k
      subst ev
      refine .inl ⟨_, _, rfl, .inl ⟨_, k', .inr ⟨_, h2⟩, rfl, rfl⟩, ?_⟩
      rcases q2.val k' with ⟨e1, e2⟩ | ⟨_, _, _, e1, e2, _⟩
      · rw [e1] at h; rw [e2]; exact h
      · rw [e1] at h; rw [e2]; exact h
  | dtk kvs =>
    cases k : keyT d1 with
    | none => simp [inD, k] at e
    | some k' =>
      simp only [inD, k, Option.map_some, Option.some.injEq] at e
      subst e
      cases r2 with
      | dtk h2 _ q2 =>
      obtain ⟨b, ev, eb⟩ := keyT_rep r1 k
      subst ev
      refine .inl ⟨_, _, rfl, DGet.t h2 eb, ?_⟩
      rcases q2.val k' with ⟨e1, e2⟩ | ⟨_, _, _, e1, e2, _⟩
      · rw [e1] at h; rw [e2]; exact h
      · rw [e1] at h; rw [e2]; exact h
  | str z =>
    cases d1 with
    | str s =>
      cases r1; cases r2
      obtain ⟨⟨l⟩⟩ := s
      cases l with
      | nil =>
        simp only [inD, Option.some.injEq] at e
        subst e
        exact .inr (.inl ⟨_, _, rfl, rfl, h⟩)
      | cons c l =>
        cases l with
        | nil =>
          simp only [inD, Option.some.injEq] at e
          subst e
          exact .inr (.inr (.inl ⟨c, z, rfl, rfl, h⟩))
        | cons c2 l =>
          simp only [inD, Option.some.injEq] at e
          subst e
          exact .inr (.inl ⟨_, _, rfl, rfl, h⟩)
    | _ => simp [inD] at e
  | tup ds =>
    cases h1 : fV d1 with
    | none => simp [inD, h1] at e
    | some v =>
      cases h2 : fVs ds with
      | none => simp [inD, h1, h2] at e
      | some vs =>
        simp only [inD, h1, h2, Option.some.injEq] at e
        subst e
        cases r2 with
        | tup t q =>
        obtain ⟨e1, e2⟩ := r1.fV h1
        obtain ⟨e3, e4⟩ := q.fV h2
        subst e1; subst e3
        exact .inr (.inr (.inr (.inl ⟨_, _, rfl, .inr (.of t), e2, e4, h⟩)))
  | lst ds =>
    cases h1 : toP d1 with
    | none => simp [inD, h1] at e
    | some p =>
      cases h2 : toPs ds with
      | none => simp [inD, h1, h2] at e
      | some ps =>
        simp only [inD, h1, h2] at e
        split at e
        · rename_i z1
          split at e
          · rename_i z2
            cases e
            obtain ⟨a, vs, g, rfl, t, q, _, _⟩ := r2.lstI
            refine .inr (.inr (.inr (.inr ?_)))
            cases neg with
            | false => exact ⟨p, ps, r1.dp h1, .lst t (q.dp h2), z1, z2, h⟩
            | true => exact ⟨p, ps, r1.dp h1, .lst t (q.dp h2), z1, z2, h⟩
          · cases e
        · cases e
  | _ => cases d1 <;> simp [inD] at e
theorem eqD_ok {K : PySem.W.Frag} {H : Hp} {d1 d2 : D} {v1 v2 : V} {f1 f2 : List Addr} {b : Bool} (r1 : Rep K H d1 v1 f1) (r2 : Rep K H d2 v2 f2) (e : eqD d1 d2 = some b) : ∃ p q, Dp K H v1 p ∧ Dp K H v2 q ∧ SeqAt.shaped p = true ∧ SeqAt.shaped q = true ∧ PyData.eqv p q = b := by
  cases h1 : toP d1 with
  | none => simp [eqD, h1] at e
  | some p =>
    cases h2 : toP d2 with
    | none => simp [eqD, h1, h2] at e
    | some q =>
      simp only [eqD, h1, h2] at e
      split at e
      · rename_i z1
        split at e
        · rename_i z2
          cases e
          exact ⟨p, q, r1.dp h1, r2.dp h2, z1, z2, rfl⟩
        · cases e
      · cases e
theorem cmpB_ok {K : PySem.W.Frag} {H : Hp} {op : CmpOp} {d1 d2 : D} {v1 v2 : V} {f1 f2 : List Addr} {b : Bool} {Q : VK} (r1 : Rep K H d1 v1 f1) (r2 : Rep K H d2 v2 f2) (e : cmpB op d1 d2 = some b) (h : Q (.bl b) H) : rCmp K op v1 v2 H Q := by
  have intz : ∀ {p : Int → Int → Bool}, (∀ i j, d1 = .int i → d2 = .int j → p i j = b) → (∃ i, d1 = .int i) → (∃ j, d2 = .int j) → rI0 (fun i j => .bl (p i j)) v1 v2 H Q := fun {p} hp ⟨i, e1⟩ ⟨j, e2⟩ => by
    have := hp i j e1 e2
    subst e1; subst e2; cases r1; cases r2
    exact ⟨_, _, rfl, rfl, by show Q (.bl (p i j)) H; rw [this]; exact h⟩
  cases op with
  | Eq => obtain ⟨p, q, h1, h2, z1, z2, e'⟩ := eqD_ok r1 r2 e; exact ⟨p, q, h1, h2, z1, z2, by rw [e']; exact h⟩
  | NotEq =>
    cases e0 : eqD d1 d2 with
    | none => simp [cmpB, e0] at e
    | some b0 =>
      simp only [cmpB, e0, Option.map_some, Option.some.injEq] at e
      subst e
      obtain ⟨p, q, h1, h2, z1, z2, e'⟩ := eqD_ok r1 r2 e0; exact ⟨p, q, h1, h2, z1, z2, by rw [e']; exact h⟩
  | In => exact inD_ok r1 r2 e h
  | NotIn =>
    cases e0 : inD d1 d2 with
    | none => simp [cmpB, e0] at e
    | some b0 =>
      simp only [cmpB, e0, Option.map_some, Option.some.injEq] at e
      subst e
      exact inD_ok r1 r2 e0 h
  | Is =>
    cases d2 with
    | non => simp only [cmpB, Option.some.injEq] at e; subst e; cases r2; exact ⟨rfl, by rw [isNon_rep r1]; exact h⟩
    | _ => simp [cmpB] at e
  | IsNot =>
    cases d2 with
    | non => simp only [cmpB, Option.some.injEq] at e; subst e; cases r2; exact ⟨rfl, by rw [isNon_rep r1]; exact h⟩
    | _ => simp [cmpB] at e
  | Lt =>
    cases d1 with
    | int i => cases d2 with
      | int j => simp only [cmpB, Option.some.injEq] at e; exact .inl (intz (fun i' j' e1 e2 => by cases e1; cases e2; exact e) ⟨_, rfl⟩ ⟨_, rfl⟩)
      | _ => simp [cmpB] at e
    | tup ds => cases d2 with
      | tup es =>
        cases h1 : intsD ds with
        | none => simp [cmpB, h1] at e
        | some ns =>
          cases h2 : intsD es with
          | none => simp [cmpB, h1, h2] at e
          | some ms =>
            simp only [cmpB, h1, h2, Option.bind_some, Option.map_some, Option.some.injEq] at e
            subst e
            have e1 := intsD_eq h1
            have e2 := intsD_eq h2
            subst e1; subst e2
            cases r1 with
            | tup t1 q1 =>
            cases r2 with
            | tup t2 q2 =>
            obtain ⟨v1, _⟩ := q1.ints_inv
            obtain ⟨v2, _⟩ := q2.ints_inv
            subst v1; subst v2
            exact .inr ⟨_, _, ns, ms, rfl, rfl, .of t1, .of t2, h⟩
      | _ => simp [cmpB] at e
    | _ => cases d2 <;> simp [cmpB] at e
  | LtE =>
    cases d1 with
    | int i => cases d2 with
      | int j => simp only [cmpB, Option.some.injEq] at e; exact .inl (intz (fun i' j' e1 e2 => by cases e1; cases e2; exact e) ⟨_, rfl⟩ ⟨_, rfl⟩)
      | _ => simp [cmpB] at e
    | tup ds => cases d2 with
      | tup es =>
        cases h1 : intsD ds with
        | none => simp [cmpB, h1] at e
        | some ns =>
          cases h2 : intsD es with
          | none => simp [cmpB, h1, h2] at e
          | some ms =>
            simp only [cmpB, h1, h2, Option.bind_some, Option.map_some, Option.some.injEq] at e
            subst e
            have e1 := intsD_eq h1
            have e2 := intsD_eq h2
            subst e1; subst e2
            cases r1 with
            | tup t1 q1 =>
            cases r2 with
            | tup t2 q2 =>
            obtain ⟨v1, _⟩ := q1.ints_inv
            obtain ⟨v2, _⟩ := q2.ints_inv
            subst v1; subst v2
            exact .inr ⟨_, _, ns, ms, rfl, rfl, .of t1, .of t2, h⟩
      | _ => simp [cmpB] at e
    | _ => cases d2 <;> simp [cmpB] at e
  | Gt =>
    cases d1 with
    | int i => cases d2 with
      | int j => simp only [cmpB, Option.some.injEq] at e; exact intz (fun i' j' e1 e2 => by cases e1; cases e2; exact e) ⟨_, rfl⟩ ⟨_, rfl⟩
      | _ => simp [cmpB] at e
    | _ => cases d2 <;> simp [cmpB] at e
  | GtE =>
    cases d1 with
    | int i => cases d2 with
      | int j => simp only [cmpB, Option.some.injEq] at e; exact intz (fun i' j' e1 e2 => by cases e1; cases e2; exact e) ⟨_, rfl⟩ ⟨_, rfl⟩
      | _ => simp [cmpB] at e
    | _ => cases d2 <;> simp [cmpB] at e
def cmpT (op : CmpOp) (a b : SE) : STs := fun ρ => (a ρ).bind fun x => (b ρ).bind fun y => R.of (cmpB op x.2 y.2)
def chnT (o1 o2 : CmpOp) (a b c : SE) : STs := fun ρ => (a ρ).bind fun x => (b ρ).bind fun y => (R.of (cmpB o1 x.2 y.2)).bind fun t =>
  if t = true then (c ρ).bind fun z => R.of (cmpB o2 y.2 z.2) else .ok false
def andT (a b : STs) : STs := fun ρ => (a ρ).bind fun t => if t = true then b ρ else .ok false
def orT (a b : STs) : STs := fun ρ => (a ρ).bind fun t => if t = true then .ok true else b ρ
def notT (a : STs) : STs := fun ρ => (a ρ).bind fun t => .ok (!t)
def truD : D → Option Bool
  | .non => some false
  | .bl b => some b
  | .int i => some (i != 0)
  | .str y => if y.length ≤ LIM then some ((y.length : Int) != 0) else none
  | .tup ds => some (!ds.isEmpty)
  | .lst ds => some (!ds.isEmpty)
  | .scr ds => some (!ds.isEmpty)
  | .dic kvs => some (!kvs.isEmpty)
  | _ => none
def valT (a : SE) : STs := fun ρ => (a ρ).bind fun x => R.of (truD x.2)
def boolE (t : STs) : SE := fun ρ => (t ρ).bind fun b => .ok (.own, .bl b)
def iteE (t : STs) (a b : SE) : SE := fun ρ => (t ρ).bind fun c => if c = true then a ρ else b ρ
def negE (a : SE) : SE := fun ρ => (a ρ).bind fun x => match x.2 with
  | .int i => .ok (.own, .int (-i))
  | _ => .st
theorem Reps.isEmpty {K : PySem.W.Frag} {H : Hp} {ds : List D} {vs : List V} {f : List Addr} (r : Reps K H ds vs f) : vs.isEmpty = ds.isEmpty := by cases r <;> rfl
theorem RepK.isEmpty {K : PySem.W.Frag} {H : Hp} {ds : List (Key × D)} {vs : List (Key × V)} {f : List Addr} (r : RepK K H ds vs f) : vs.isEmpty = ds.isEmpty := by cases r <;> rfl
theorem truD_ok {K : PySem.W.Frag} {H : Hp} {d : D} {v : V} {f : List Addr} {b : Bool} (r : Rep K H d v f) (e : truD d = some b) : TruV K v H b := by
  cases r with
  | non => simp only [truD, Option.some.injEq] at e; exact e.symm
  | bl b => simp only [truD, Option.some.injEq] at e; exact e.symm
  | int i => simp only [truD, Option.some.injEq] at e; exact e.symm
  | str x =>
    simp only [truD] at e
    split at e
    · rename_i hz; cases e; exact ⟨by rw [← lim_eq]; exact hz, rfl⟩
    · cases e
  | tup t q => simp only [truD, Option.some.injEq] at e; exact .inr (.inl ⟨_, .of t, by rw [q.isEmpty]; exact e.symm⟩)
  | lst t q => simp only [truD, Option.some.injEq] at e; exact .inl ⟨_, .of t, by rw [q.isEmpty]; exact e.symm⟩
  | scr t q =>
    simp only [truD, Option.some.injEq] at e
    rcases t with t | ⟨o, t⟩
    · exact .inl ⟨_, t _, by rw [q.isEmpty]; exact e.symm⟩
    · exact .inl ⟨_, .inl (.inr ⟨o, t⟩), by rw [q.isEmpty]; exact e.symm⟩
  | dic t _ q => simp only [truD, Option.some.injEq] at e; exact .inr (.inr ⟨_, t, by rw [q.isEmpty]; exact e.symm⟩)
  | _ => simp [truD] at e
section
variable {X : Cx} {CA : String → Addr} {W : WX} {pos : Pos} {a b c : Expr} {sa sb sc : SE} {ta tb : STs} {rest : List Expr}
theorem t_cmp {op : CmpOp} (hu : X.A.units + 65 < cLine) (ha : PE X a (tE X.K CA W sa)) (hb : PE X b (tE X.K CA W sb)) (hm : behindInMarks op b = false := by first | exact nomark _ | rfl) : PT X (.Compare a [op] [b] pos) (tT X.K CA W (cmpT op sa sb)) := by
  refine ptI (pt_cmpR (rCmp_ok hu op) ha hb hm) fun σ H Q ⟨A, H0, F, G, ρ, sr, h⟩ => ?_
  refine ⟨A, H0, F, G, ρ, sr, h.bind fun ⟨k1, d1⟩ h1 => ?_⟩
  intro v1 H1 f1 s1 r1 o1
  refine ⟨A, H0, F, G, ρ, sr.same s1, (h1.later s1).bind fun ⟨k2, d2⟩ h2 => ?_⟩
  intro v2 H2 f2 s2 r2 o2
  obtain ⟨t, e, h3⟩ := h2.of
  exact cmpB_ok (r1.same s2) r2 e ⟨t, rfl, h3 H2 (s1.trans s2)⟩
theorem e_cmp {op : CmpOp} (hu : X.A.units + 65 < cLine) (ha : PE X a (tE X.K CA W sa)) (hb : PE X b (tE X.K CA W sb)) (hm : behindInMarks op b = false := by first | exact nomark _ | rfl) : PE X (.Compare a [op] [b] pos) (tE X.K CA W (boolE (cmpT op sa sb))) := by
  refine peI (pe_cmpR (rCmp_ok hu op) ha hb hm) fun σ H Q ⟨A, H0, F, G, ρ, sr, h⟩ => ?_
  have h : Post X.K CA W σ H ((sa ρ).bind fun x => (sb ρ).bind fun y => (R.of (cmpB op x.2 y.2)).bind fun b => .ok ((Kd.own, D.bl b) : KD)) (fun kd => Cont X.K A H0 F H kd Q) := by
    have e : boolE (cmpT op sa sb) ρ = ((sa ρ).bind fun x => (sb ρ).bind fun y => (R.of (cmpB op x.2 y.2)).bind fun b => .ok ((Kd.own, D.bl b) : KD)) := by
      unfold boolE cmpT
      cases sa ρ with
      | ok x => cases sb ρ <;> rfl
      | _ => rfl
    rw [e] at h
    exact h
  refine ⟨A, H0, F, G, ρ, sr, h.bind fun ⟨k1, d1⟩ h1 => ?_⟩
  intro v1 H1 f1 s1 r1 o1
  refine ⟨A, H0, F, G, ρ, sr.same s1, (h1.later s1).bind fun ⟨k2, d2⟩ h2 => ?_⟩
  intro v2 H2 f2 s2 r2 o2
  obtain ⟨t, e, h3⟩ := h2.ofB
  exact cmpB_ok (r1.same s2) r2 e (Cont.atom h3 (s1.trans s2) (.bl t))
theorem t_chn {o1 o2 : CmpOp} (hu : X.A.units + 65 < cLine) (ha : PE X a (tE X.K CA W sa)) (hb : PE X b (tE X.K CA W sb)) (hc : PE X c (tE X.K CA W sc)) (hm : lastMarks [o1, o2] [b, c] = false := by with_unfolding_all rfl) :
    PT X (.Compare a [o1, o2] [b, c] pos) (tT X.K CA W (chnT o1 o2 sa sb sc)) := by
  refine ptI (pt_chain (rCmp_ok hu o1) (rCmp_ok hu o2) ha hb hc hm) fun σ H Q ⟨A, H0, F, G, ρ, sr, h⟩ => ?_
  refine ⟨A, H0, F, G, ρ, sr, h.bind fun ⟨k1, d1⟩ h1 => ?_⟩
  intro v1 H1 f1 s1 r1 o1'
  refine ⟨A, H0, F, G, ρ, sr.same s1, (h1.later s1).bind fun ⟨k2, d2⟩ h2 => ?_⟩
  intro v2 H2 f2 s2 r2 o2'
  obtain ⟨t, e, h3⟩ := h2.ofB
  refine cmpB_ok (r1.same s2) r2 e ⟨t, rfl, ?_⟩
  cases t with
  | false => exact ⟨false, rfl, h3 H2 (s1.trans s2)⟩
  | true =>
    refine ⟨A, H0, F, G, ρ, (sr.same s1).same s2, ((h3.later s2).bind fun ⟨k3, d3⟩ h4 => ?_)⟩
    intro v3 H3 f3 s3 r3 o3
    obtain ⟨t, e, h5⟩ := h4.of
    exact cmpB_ok (r2.same s3) r3 e ⟨t, rfl, h5 H3 ((s1.trans s2).trans s3)⟩
theorem e_chn {o1 o2 : CmpOp} (hu : X.A.units + 65 < cLine) (ha : PE X a (tE X.K CA W sa)) (hb : PE X b (tE X.K CA W sb)) (hc : PE X c (tE X.K CA W sc)) (hm : lastMarks [o1, o2] [b, c] = false := by with_unfolding_all rfl) :
    PE X (.Compare a [o1, o2] [b, c] pos) (tE X.K CA W (boolE (chnT o1 o2 sa sb sc))) := by
  refine peI (pe_chain (rCmp_ok hu o1) (rCmp_ok hu o2) ha hb hc hm) fun σ H Q ⟨A, H0, F, G, ρ, sr, h⟩ => ?_
  have h : Post X.K CA W σ H ((sa ρ).bind fun x => (sb ρ).bind fun y => (R.of (cmpB o1 x.2 y.2)).bind fun t => if t = true then (sc ρ).bind fun z => (R.of (cmpB o2 y.2 z.2)).bind fun b => .ok ((Kd.own, D.bl b) : KD) else .ok ((Kd.own, D.bl false) : KD)) (fun kd => Cont X.K A H0 F H kd Q) := by
    have e : boolE (chnT o1 o2 sa sb sc) ρ = ((sa ρ).bind fun x => (sb ρ).bind fun y => (R.of (cmpB o1 x.2 y.2)).bind fun t => if t = true then (sc ρ).bind fun z => (R.of (cmpB o2 y.2 z.2)).bind fun b => .ok ((Kd.own, D.bl b) : KD) else .ok ((Kd.own, D.bl false) : KD)) := by
      unfold boolE chnT
      cases sa ρ with
      | ok x =>
        cases sb ρ with
        | ok y =>
          simp only [R.bind]
          cases cmpB o1 x.2 y.2 with
          | none => rfl
          | some t =>
            cases t with
            | false => rfl
            | true => simp only [R.of, R.bind, if_true]; cases sc ρ <;> rfl
        | _ => rfl
      | _ => rfl
    rw [e] at h
    exact h
  refine ⟨A, H0, F, G, ρ, sr, h.bind fun ⟨k1, d1⟩ h1 => ?_⟩
  intro v1 H1 f1 s1 r1 o1'
  refine ⟨A, H0, F, G, ρ, sr.same s1, (h1.later s1).bind fun ⟨k2, d2⟩ h2 => ?_⟩
  intro v2 H2 f2 s2 r2 o2'
  obtain ⟨t, e, h3⟩ := h2.ofB
  refine cmpB_ok (r1.same s2) r2 e ⟨t, rfl, ?_⟩
  cases t with
  | false => exact Cont.atom h3 (s1.trans s2) (.bl false)
  | true =>
    refine ⟨A, H0, F, G, ρ, (sr.same s1).same s2, ((h3.later s2).bind fun ⟨k3, d3⟩ h4 => ?_)⟩
    intro v3 H3 f3 s3 r3 o3
    obtain ⟨t, e, h5⟩ := h4.ofB
    exact cmpB_ok (r2.same s3) r3 e (Cont.atom h5 ((s1.trans s2).trans s3) (.bl t))
theorem tw_and1 (ha : PT X a (tT X.K CA W ta)) : PW X (.BoolOp .And [a] pos) (tT X.K CA W ta) := pw_and1 ha
theorem tw_or1 (ha : PT X a (tT X.K CA W ta)) : PW X (.BoolOp .Or [a] pos) (tT X.K CA W ta) := pw_or1 ha
theorem tw_and (ha : PT X a (tT X.K CA W ta)) (hb : PW X (.BoolOp .And (b :: rest) pos) (tT X.K CA W tb)) : PW X (.BoolOp .And (a :: b :: rest) pos) (tT X.K CA W (andT ta tb)) := by
  refine pwI (pw_and ha hb) fun σ H Q ⟨A, H0, F, G, ρ, sr, h⟩ => ?_
  refine ⟨A, H0, F, G, ρ, sr, h.bind fun t h1 H1 s1 => ?_⟩
  cases t with
  | true => exact ⟨A, H0, F, G, ρ, sr.same s1, (h1.later s1).imp fun b _ q H2 s2 => q H2 (s1.trans s2)⟩
  | false => exact h1 H1 s1
theorem tw_or (ha : PT X a (tT X.K CA W ta)) (hb : PW X (.BoolOp .Or (b :: rest) pos) (tT X.K CA W tb)) : PW X (.BoolOp .Or (a :: b :: rest) pos) (tT X.K CA W (orT ta tb)) := by
  refine pwI (pw_or ha hb) fun σ H Q ⟨A, H0, F, G, ρ, sr, h⟩ => ?_
  refine ⟨A, H0, F, G, ρ, sr, h.bind fun t h1 H1 s1 => ?_⟩
  cases t with
  | false => exact ⟨A, H0, F, G, ρ, sr.same s1, (h1.later s1).imp fun b _ q H2 s2 => q H2 (s1.trans s2)⟩
  | true => exact h1 H1 s1
theorem t_pw (h : PW X a (tT X.K CA W ta)) : PT X a (tT X.K CA W ta) := h.pt
theorem t_not (ha : PT X a (tT X.K CA W ta)) : PT X (.UnaryOp .Not a pos) (tT X.K CA W (notT ta)) := by
  refine ptI (pt_not ha) fun σ H Q ⟨A, H0, F, G, ρ, sr, h⟩ => ?_
  exact ⟨A, H0, F, G, ρ, sr, h.bind fun t h1 => h1⟩
theorem t_val (ha : PE X a (tE X.K CA W sa)) (he : ∀ whole, isTrue a X.env whole = (do let v ← whole; standAt a.pos; holding [v] (truthy v)) := by intro _; rfl) : PT X a (tT X.K CA W (valT sa)) := by
  refine ptI (pt_truth ha he) fun σ H Q ⟨A, H0, F, G, ρ, sr, h⟩ => ?_
  refine ⟨A, H0, F, G, ρ, sr, h.bind fun ⟨k, d⟩ h1 => ?_⟩
  intro v H1 f s1 r o
  obtain ⟨t, e, h2⟩ := h1.of
  exact ⟨t, truD_ok r e, h2 H1 s1⟩
theorem eb_one {op} {t : STs} (h : PE X a (tE X.K CA W (boolE t))) : PE X (.BoolOp op [a] pos) (tE X.K CA W (boolE t)) := pe_one h
theorem eb_and {t u : STs} (ha : PE X a (tE X.K CA W (boolE t))) (hb : PE X (.BoolOp .And (b :: rest) pos) (tE X.K CA W (boolE u))) : PE X (.BoolOp .And (a :: b :: rest) pos) (tE X.K CA W (boolE (andT t u))) := by
  refine peI (pe_and ha hb) fun σ H Q ⟨A, H0, F, G, ρ, sr, h⟩ => ?_
  have e : boolE (andT t u) ρ = (boolE t ρ).bind fun x => match x.2 with | .bl true => boolE u ρ | .bl false => .ok (.own, .bl false) | _ => .st := by
    unfold boolE andT
    cases t ρ with
    | ok x => cases x <;> rfl
    | _ => rfl
  rw [e] at h
  refine ⟨A, H0, F, G, ρ, sr, h.bind fun ⟨k, d⟩ h1 => ?_⟩
  intro v H1 f s1 r o
  cases d with
  | bl c =>
    cases r
    refine ⟨c, rfl, ?_⟩
    cases c with
    | true => exact ⟨A, H0, F, G, ρ, sr.same s1, (h1.later s1).imp fun kd _ q v H2 f s2 r2 o2 => q v H2 f (s1.trans s2) r2 (o2.wide s1 (Same.refl _))⟩
    | false => exact Cont.atom h1 s1 (.bl false)
  | _ => exact h1.elim
theorem eb_not {t : STs} (ha : PE X a (tE X.K CA W (boolE t))) : PE X (.UnaryOp .Not a pos) (tE X.K CA W (boolE (notT t))) := by
  refine peI (pe_not ha) fun σ H Q ⟨A, H0, F, G, ρ, sr, h⟩ => ?_
  have e : boolE (notT t) ρ = (boolE t ρ).bind fun x => match x.2 with | .bl c => .ok (.own, .bl (!c)) | _ => .st := by
    unfold boolE notT
    cases t ρ <;> rfl
  rw [e] at h
  refine ⟨A, H0, F, G, ρ, sr, h.bind fun ⟨k, d⟩ h1 => ?_⟩
  intro v H1 f s1 r o
  cases d with
  | bl c => cases r; exact ⟨c, rfl, Cont.atom h1 s1 (.bl _)⟩
  | _ => exact h1.elim
def bvT (a : SE) : STs := fun ρ => (a ρ).bind fun x => match x.2 with
  | .bl b => .ok b
  | _ => .st
theorem eb_val (ha : PE X a (tE X.K CA W sa)) : PE X a (tE X.K CA W (boolE (bvT sa))) := by
  refine peI ha fun σ H Q ⟨A, H0, F, G, ρ, sr, h⟩ => ?_
  have e : boolE (bvT sa) ρ = (sa ρ).bind fun x => match x.2 with | .bl c => .ok (.own, .bl c) | _ => .st := by
    unfold boolE bvT
    cases sa ρ with
    | ok x => obtain ⟨k, d⟩ := x; cases d <;> rfl
    | _ => rfl
  rw [e] at h
  refine ⟨A, H0, F, G, ρ, sr, h.bind fun ⟨k, d⟩ h1 => ?_⟩
  intro v H1 f s1 r o
  cases d with
  | bl c => cases r; exact Cont.atom h1 s1 (.bl _)
  | _ => exact h1.elim
theorem e_ite (hc : PT X c (tT X.K CA W ta)) (ha : PE X a (tE X.K CA W sa)) (hb : PE X b (tE X.K CA W sb)) : PE X (.IfExp c a b pos) (tE X.K CA W (iteE ta sa sb)) := by
  refine peI (pe_ifExp hc ha hb) fun σ H Q ⟨A, H0, F, G, ρ, sr, h⟩ => ?_
  refine ⟨A, H0, F, G, ρ, sr, h.bind fun t h1 H1 s1 => ?_⟩
  cases t with
  | true => exact ⟨A, H0, F, G, ρ, sr.same s1, (h1.later s1).imp fun kd _ q v H2 f s2 r2 o2 => q v H2 f (s1.trans s2) r2 (o2.wide s1 (Same.refl _))⟩
  | false => exact ⟨A, H0, F, G, ρ, sr.same s1, (h1.later s1).imp fun kd _ q v H2 f s2 r2 o2 => q v H2 f (s1.trans s2) r2 (o2.wide s1 (Same.refl _))⟩
theorem e_neg (ha : PE X a (tE X.K CA W sa)) : PE X (.UnaryOp .USub a pos) (tE X.K CA W (negE sa)) := by
  refine peI (pe_un un_neg ha) fun σ H Q ⟨A, H0, F, G, ρ, sr, h⟩ => ?_
  refine ⟨A, H0, F, G, ρ, sr, h.bind fun ⟨k, d⟩ h1 => ?_⟩
  intro v H1 f s1 r o
  cases d with
  | int i => cases r; exact ⟨i, rfl, Cont.atom h1 s1 (.int _)⟩
  | _ => exact h1.elim
end
end Cz
set_option maxHeartbeats 4000000
namespace Cz
open PySem PySem.Spec PyProof.Rows L2
def nk (k : Kd) (d : D) : Kd := if noL d = true then .own else k
theorem KOk.nk {K : PySem.W.Frag} {A : Addr → Prop} {H0 H H1 H2 : Hp} {F : Nat → List Addr} {k : Kd} {d : D} {v : V} {f : List Addr} (r : Rep K H2 d v f) (o : KOk A H0 F H H1 k f) : KOk A H0 F H H1 (nk k d) f := by
  unfold Cz.nk
  split
  · rename_i hz; rw [Rep.noL r hz]; exact KOk.nil _
  · exact o
theorem KOk.nk' {K : PySem.W.Frag} {A : Addr → Prop} {H0 H H1 H2 : Hp} {F : Nat → List Addr} {k : Kd} {d : D} {v : V} {f : List Addr} (r : Rep K H2 d v f) (o : KOk A H0 F H H1 (Cz.nk k d) f) : KOk A H0 F H H1 k f := by
  unfold Cz.nk at o
  split at o
  · rename_i hz; rw [Rep.noL r hz]; exact KOk.nil _
  · exact o
def jn : List KD → Kd
  | [] => .own
  | x :: r => (nk x.1 x.2).join (jn r)
def tA (K : PySem.W.Frag) (CA : String → Addr) (W : WX) (s : SA) : TA := fun σ H Q =>
  ∃ A H0 F G ρ, SR K A H0 F G ρ σ H ∧ Post K CA W σ H (s ρ) fun xs => ∀ vs H' f, Same H H' → Reps K H' (xs.map (·.2)) vs f → KOk A H0 F H H' (jn xs) f → Q vs H'
def nilA : SA := fun _ => .ok []
def consA (a : SE) (r : SA) : SA := fun ρ => (a ρ).bind fun x => (r ρ).bind fun xs => .ok (x :: xs)
def tupE (s : SA) : SE := fun ρ => (s ρ).bind fun xs => if xs.length ≤ LIM then .ok (jn xs, .tup (xs.map (·.2))) else .st
def lstE (s : SA) : SE := fun ρ => (s ρ).bind fun xs => if xs.length ≤ LIM then .ok (lk (jn xs) (xs.map (·.2)), .lst (xs.map (·.2))) else .st
def dnwE : SE := fun _ => .ok (.own, .dic [])
def idxB : KD → D → Option KD
  | (k, .lst ds), .int i => (atI ds i).map fun d => (k, d)
  | (k, .scr ds), .int i => (atI ds i).map fun d => (k, d)
  | (k, .tup ds), .int i => (atI ds i).map fun d => (k, d)
  | (_, .str z), .int i => if z.length ≤ LIM then (atI z.cps.toList i).map fun c => (.own, .str ⟨#[c]⟩) else none
  | (k, .dic kvs), y => (keyD y).bind fun q => (valD kvs q).map fun d => (k, d)
  | (_, .fdc kvs), y => (keyD y).bind fun q => (valD kvs q).map fun d => (.own, d)
  | (k, .dtk kvs), y => (keyT y).bind fun q => (valD kvs q).map fun d => (k, d)
  | _, _ => none
def idxE (a b : SE) : SE := fun ρ => (a ρ).bind fun x => (b ρ).bind fun y => R.of (idxB x y.2)
def cutD (ds : List D) (lo hi : Option Int) : List D := (ds.drop (HT.sIx ds.length 0 lo)).take (HT.sIx ds.length ds.length hi - HT.sIx ds.length 0 lo)
def slB : KD → Option Int → Option Int → Option KD
  | (k, .lst ds), lo, hi => some (lk k (cutD ds lo hi), .lst (cutD ds lo hi))
  | (k, .scr ds), lo, hi => some (lk k (cutD ds lo hi), .lst (cutD ds lo hi))
  | (k, .tup ds), lo, hi => some (k, .tup (cutD ds lo hi))
  | (_, .str z), lo, hi => if z.length ≤ LIM then some (.own, .str (cutS z lo hi)) else none
  | _, _, _ => none
abbrev SO := Env → R (Option Int)
def noO : SO := fun _ => .ok none
def someO (a : SE) : SO := fun ρ => (a ρ).bind fun x => match x.2 with
  | .int i => .ok (some i)
  | _ => .st
def slE (a : SE) (lo hi : SO) : SE := fun ρ => (a ρ).bind fun x => (lo ρ).bind fun l => (hi ρ).bind fun h => R.of (slB x l h)
def tO (K : PySem.W.Frag) (CA : String → Addr) (W : WX) (s : SO) : TO := fun σ H Q =>
  ∃ A H0 F G ρ, SR K A H0 F G ρ σ H ∧ Post K CA W σ H (s ρ) fun o => ∀ H', Same H H' → Q o H'
section
variable {K : PySem.W.Frag} {A : Addr → Prop} {H0 H H1 H2 : Hp} {F : Nat → List Addr} {G : List (D × V)} {ρ : Env} {σ : L2.St} {Q : VK}
theorem atI_rep {ds : List D} {vs : List V} {f : List Addr} {i : Int} {d : D} (r : Reps K H ds vs f) (e : atI ds i = some d) : ∃ v g, atI vs i = some v ∧ Rep K H d v g ∧ (∀ b ∈ g, b ∈ f) ∧ (f.Nodup → g.Nodup) := by
  unfold atI at e ⊢
  rw [← r.length]
  cases h : ixN ds.length i with
  | none => rw [h] at e; cases e
  | some j =>
    rw [h] at e
    exact r.get e
theorem cut_rep {ds : List D} {vs : List V} {f : List Addr} (lo hi : Option Int) (r : Reps K H ds vs f) : ∃ g, Reps K H (cutD ds lo hi) (cutV vs lo hi) g ∧ (∀ b ∈ g, b ∈ f) ∧ (f.Nodup → g.Nodup) := by
  unfold cutD cutV
  rw [← r.length]
  obtain ⟨g, h1, h2, h3⟩ := r.drop (HT.sIx ds.length 0 lo)
  obtain ⟨g', h4, h5, h6⟩ := h1.take (HT.sIx ds.length ds.length hi - HT.sIx ds.length 0 lo)
  exact ⟨g', h4, fun b hb => h2 b (h5 b hb), fun n => h6 (h3 n)⟩
end
def rIxD : R2 := fun x y H Q => ∃ a v, x = .ref a ∧ DGet H a y (some v) ∧ Q v H
theorem ix_dict {X : Cx} (hu : X.A.units + 1 < cLine) : IxR X rIxD := by
  intro value slice pins s σ H x y v u Q I rx ry h hs
  obtain ⟨a, w, rfl, g, q⟩ := h
  obtain rfl : v = Value.ref a := rx
  exact tail_any (dict_typeIs I g) PySem.F.slot_dict_getitem.lookup (d_getItem hu I g ry fun w' s3 I3 rw' => ⟨w, H, I3, rw', q⟩) hs
def rIxx (K : PySem.W.Frag) : R2 := fun x y H Q => rIx K x y H Q ∨ rIxD x y H Q
theorem ix_any {X : Cx} (hu : X.A.units + 1 < cLine) : IxR X (rIxx X.K) := ix_seq.or (ix_dict hu)
def rSlx (K : PySem.W.Frag) : V → Option Int → Option Int → Hp → VK → Prop := fun x lo hi H Q => rSlL K x lo hi H Q ∨ rSlA K x lo hi H Q ∨ rSlS x lo hi H Q
theorem sl_any {X : Cx} : SlR X (rSlx X.K) := sl_list.or (sl_tupA.or sl_str)
section
variable {K : PySem.W.Frag} {A : Addr → Prop} {H0 H H1 H2 : Hp} {F : Nat → List Addr} {G : List (D × V)} {ρ : Env} {σ : L2.St} {Q : VK}
theorem idxB_ok {k : Kd} {d1 d2 : D} {v1 v2 : V} {f1 f2 : List Addr} {kd : KD} (s1 : Same H H1) (s2 : Same H1 H2) (r1 : Rep K H1 d1 v1 f1) (r2 : Rep K H2 d2 v2 f2) (o1 : KOk A H0 F H H1 k f1)
    (e : idxB (k, d1) d2 = some kd) (h : Cont K A H0 F H kd Q) : rIxx K v1 v2 H2 Q := by
  have r1' := r1.same s2
  have s12 := s1.trans s2
  have o1' := o1.wide (Same.refl H) s2
  cases d1 with
  | lst ds =>
    cases d2 with
    | int i =>
      cases ha : atI ds i with
      | none => simp [idxB, ha] at e
      | some d =>
        simp only [idxB, ha, Option.map_some, Option.some.injEq] at e
        subst e
        obtain ⟨a, vs, g, rfl, t, q, i1, n1⟩ := r1'.lstI
        obtain ⟨v, g', h1, h2, h3, h4⟩ := atI_rep q ha
        cases r2
        exact .inl (.inl ⟨_, _, _, _, rfl, rfl, t, h1, h v H2 g' s12 h2 ((o1'.sub i1 n1).sub h3 h4)⟩)
    | _ => simp [idxB] at e
  | scr ds =>
    cases d2 with
    | int i =>
      cases ha : atI ds i with
      | none => simp [idxB, ha] at e
      | some d =>
        simp only [idxB, ha, Option.map_some, Option.some.injEq] at e
        subst e
        obtain ⟨a, vs, g, rfl, t, q, i1, n1⟩ := r1'.scrI
        obtain ⟨v, g', h1, h2, h3, h4⟩ := atI_rep q ha
        cases r2
        exact .inl (.inl ⟨_, _, _, _, rfl, rfl, t, h1, h v H2 g' s12 h2 ((o1'.sub i1 n1).sub h3 h4)⟩)
    | _ => simp [idxB] at e
  | tup ds =>
    cases d2 with
    | int i =>
      cases ha : atI ds i with
      | none => simp [idxB, ha] at e
      | some d =>
        simp only [idxB, ha, Option.map_some, Option.some.injEq] at e
        subst e
        obtain ⟨a, vs, rfl, t, q⟩ := r1'.tupI
        obtain ⟨v, g', h1, h2, h3, h4⟩ := atI_rep q ha
        cases r2
        exact .inl (.inr (.inl ⟨_, _, _, _, rfl, rfl, .of t, h1, h v H2 g' s12 h2 (o1'.sub h3 h4)⟩))
    | _ => simp [idxB] at e
  | str z =>
    cases d2 with
    | int i =>
      simp only [idxB] at e
      split at e
      · rename_i hz
        cases ha : atI z.cps.toList i with
        | none => rw [ha] at e; cases e
        | some c =>
          rw [ha] at e
          simp only [Option.map_some, Option.some.injEq] at e
          subst e
          cases r1'; cases r2
          exact .inl (.inr (.inr ⟨_, _, _, rfl, rfl, by rw [← lim_eq]; exact hz, ha, h.atom s12 (.str _)⟩))
      · cases e
    | _ => simp [idxB] at e
  | dic kvs =>
    cases hk : keyD d2 with
    | none => cases d2 <;> simp [idxB, hk] at e
    | some q =>
      have e : ((keyD d2).bind fun q => (valD kvs q).map fun d => (k, d)) = some kd := by cases d2 <;> exact e
      rw [hk] at e
      cases r1' with
      | dic hd _ qd =>
      have ev := keyD_rep r2 hk
      subst ev
      rcases qd.val q with ⟨e1, _⟩ | ⟨d, v, g, e1, e2, e3, e4, e5⟩
      · simp [e1] at e
      · simp only [Option.bind_some, e1, Option.map_some, Option.some.injEq] at e
        subst e
        refine .inr ⟨_, v, rfl, e2 ▸ DGet.k hd, h v H2 g s12 e3 (o1'.sub (fun b hb => List.mem_cons_of_mem _ (e4 b hb)) fun n => e5 (List.nodup_cons.mp n).2)⟩
  | fdc kvs =>
    cases hk : keyD d2 with
    | none => cases d2 <;> simp [idxB, hk] at e
    | some q =>
      have e : ((keyD d2).bind fun q => (valD kvs q).map fun d => ((.own, d) : KD)) = some kd := by cases d2 <;> exact e
      rw [hk] at e
      cases r1' with
      | fdc hd _ qd =>
      have ev := keyD_rep r2 hk
      subst ev
      rcases qd.val q with ⟨e1, _⟩ | ⟨d, v, g, e1, e2, e3, e4, e5⟩
      · simp [e1] at e
      · simp only [Option.bind_some, e1, Option.map_some, Option.some.injEq] at e
        subst e
        have hg : g = [] := List.eq_nil_iff_forall_not_mem.mpr fun b hb => nomatch e4 b hb
        subst hg
        refine .inr ⟨_, v, rfl, .inl ⟨_, q, .inr ⟨_, hd⟩, rfl, e2.symm⟩, h v H2 [] s12 e3 (KOk.nil _)⟩
  | dtk kvs =>
    cases hk : keyT d2 with
    | none => cases d2 <;> simp [idxB, hk] at e
    | some q =>
      have e : ((keyT d2).bind fun q => (valD kvs q).map fun d => (k, d)) = some kd := by cases d2 <;> exact e
      rw [hk] at e
      cases r1' with
      | dtk hd _ qd =>
      obtain ⟨b, ev, eb⟩ := keyT_rep r2 hk
      subst ev
      rcases qd.val q with ⟨e1, _⟩ | ⟨d, v, g, e1, e2, e3, e4, e5⟩
      · simp [e1] at e
      · simp only [Option.bind_some, e1, Option.map_some, Option.some.injEq] at e
        subst e
        refine .inr ⟨_, v, rfl, e2 ▸ DGet.t hd eb, h v H2 g s12 e3 (o1'.sub (fun b hb => List.mem_cons_of_mem _ (e4 b hb)) fun n => e5 (List.nodup_cons.mp n).2)⟩
  | _ => cases d2 <;> simp [idxB] at e
theorem slB_ok {k : Kd} {d1 : D} {v1 : V} {f1 : List Addr} {lo hi : Option Int} {kd : KD} (sr : SR K A H0 F G ρ σ H) (s1 : Same H H1) (s2 : Same H1 H2) (r1 : Rep K H1 d1 v1 f1) (o1 : KOk A H0 F H H1 k f1)
    (e : slB (k, d1) lo hi = some kd) (h : Cont K A H0 F H kd Q) : rSlx K v1 lo hi H2 Q := by
  have r1' := r1.same s2
  have s12 := s1.trans s2
  have o1' := o1.wide (Same.refl H) s2
  cases d1 with
  | lst ds =>
    simp only [slB, Option.some.injEq] at e
    subst e
    obtain ⟨a, vs, g, rfl, t, q, i1, n1⟩ := r1'.lstI
    obtain ⟨g', h1, h2, h3⟩ := cut_rep lo hi q
    exact .inl ⟨a, vs, rfl, t, fun p np => h.newL sr s12 h1 (((o1'.sub i1 n1).sub h2 h3).lk h1) np⟩
  | scr ds =>
    simp only [slB, Option.some.injEq] at e
    subst e
    obtain ⟨a, vs, g, rfl, t, q, i1, n1⟩ := r1'.scrI
    obtain ⟨g', h1, h2, h3⟩ := cut_rep lo hi q
    exact .inl ⟨a, vs, rfl, t, fun p np => h.newL sr s12 h1 (((o1'.sub i1 n1).sub h2 h3).lk h1) np⟩
  | tup ds =>
    simp only [slB, Option.some.injEq] at e
    subst e
    obtain ⟨a, vs, rfl, t, q⟩ := r1'.tupI
    obtain ⟨g', h1, h2, h3⟩ := cut_rep lo hi q
    refine .inr (.inl ⟨a, vs, rfl, .of t, fun hw => ?_, fun hw p np => h.newT s12 h1 (o1'.sub h2 h3) np⟩)
    have e : cutV vs lo hi = vs := by
      unfold cutV
      rw [hw.1, hw.2]
      simp
    rw [e] at h1
    exact h _ _ g' s12 (.tup t h1) (o1'.sub h2 h3)
  | str z =>
    simp only [slB] at e
    split at e
    · rename_i hz
      cases e
      cases r1'
      exact .inr (.inr ⟨z, rfl, by rw [← lim_eq]; exact hz, h.atom s12 (.str _)⟩)
    · cases e
  | _ => simp [slB] at e
end
section
variable {X : Cx} {CA : String → Addr} {W : WX} {pos p2 : Pos} {a b e : Expr} {es : List Expr} {sa sb : SE} {s : SA} {lo hi : Option Expr} {sl sh : SO}
theorem a_nil : PA X [] (tA X.K CA W nilA) := by
  refine ⟨fun pos pins s σ H Q I ⟨A, H0, F, G, ρ, sr, h⟩ => pa_nil.run pos pins s σ H Q I ?_⟩
  exact h [] H [] (Same.refl H) .nil (KOk.nil _)
theorem a_cons (ha : PE X e (tE X.K CA W sa)) (hr : PA X es (tA X.K CA W s)) (hs : starEach (e :: es) X.env = (false, eval e X.env) :: starEach es X.env := by rfl) : PA X (e :: es) (tA X.K CA W (consA sa s)) := by
  refine ⟨fun pos pins s' σ H Q I ⟨A, H0, F, G, ρ, sr, h⟩ => (pa_cons ha hr hs).run pos pins s' σ H Q I ?_⟩
  refine ⟨A, H0, F, G, ρ, sr, h.bind fun ⟨k1, d1⟩ h1 => ?_⟩
  intro v1 H1 f1 s1 r1 o1
  refine ⟨A, H0, F, G, ρ, sr.same s1, (h1.later s1).bind fun xs h2 => ?_⟩
  intro vs H2 f2 s2 r2 o2
  exact h2 (v1 :: vs) H2 (f1 ++ f2) (s1.trans s2) (.cons (r1.same s2) r2) (KOk.join sr s1 s2 r1.trk (KOk.nk r1 o1) o2)
theorem Post.ite {α : Type} {K : PySem.W.Frag} {CA : String → Addr} {W : WX} {σ : L2.St} {H : Hp} {c : Prop} [Decidable c] {r : R α} {ok : α → Prop} (h : Post K CA W σ H (if c then r else .st) ok) : c ∧ Post K CA W σ H r ok := by
  split at h
  · exact ⟨by assumption, h⟩
  · exact h.elim
theorem e_tup {x1} (h : PA X es (tA X.K CA W s)) : PE X (.Tuple es x1 pos) (tE X.K CA W (tupE s)) := by
  refine peI (pe_tup h) fun σ H Q ⟨A, H0, F, G, ρ, sr, h⟩ => ?_
  refine ⟨A, H0, F, G, ρ, sr, h.bind fun xs h1 => ?_⟩
  intro vs H1 f s1 r o
  obtain ⟨hz, h2⟩ := h1.ite
  exact ⟨by rw [← r.length, List.length_map, ← lim_eq]; exact hz, fun p np => Cont.newT h2 s1 r o np⟩
theorem e_lst (h : PA X es (tA X.K CA W s)) : PE X (.List es pos) (tE X.K CA W (lstE s)) := by
  refine peI (pe_lst h) fun σ H Q ⟨A, H0, F, G, ρ, sr, h⟩ => ?_
  refine ⟨A, H0, F, G, ρ, sr, h.bind fun xs h1 => ?_⟩
  intro vs H1 f s1 r o
  obtain ⟨hz, h2⟩ := h1.ite
  exact ⟨by rw [← r.length, List.length_map, ← lim_eq]; exact hz, fun p np => Cont.newL h2 sr s1 r (o.lk r) np⟩
theorem e_idx (hu : X.A.units + 65 < cLine) (ha : PE X a (tE X.K CA W sa)) (hb : PE X b (tE X.K CA W sb)) (hs : PlainIx b := by exact fun _ _ => rfl) : PE X (.Subscript a b pos) (tE X.K CA W (idxE sa sb)) := by
  refine peI (pe_ix (ix_any (by omega)) ha hb hs) fun σ H Q ⟨A, H0, F, G, ρ, sr, h⟩ => ?_
  refine ⟨A, H0, F, G, ρ, sr, h.bind fun ⟨k1, d1⟩ h1 => ?_⟩
  intro v1 H1 f1 s1 r1 o1
  refine ⟨A, H0, F, G, ρ, sr.same s1, (h1.later s1).bind fun ⟨k2, d2⟩ h2 => ?_⟩
  intro v2 H2 f2 s2 r2 o2
  obtain ⟨kd, e, h3⟩ := h2.of
  exact idxB_ok s1 s2 r1 r2 o1 e h3
theorem o_none : PO X none (tO X.K CA W noO) := by
  refine ⟨fun pins s σ H Q I ⟨A, H0, F, G, ρ, sr, h⟩ => po_none.run pins s σ H Q I ?_⟩
  exact h H (Same.refl H)
theorem o_some (ha : PE X a (tE X.K CA W sa)) : PO X (some a) (tO X.K CA W (someO sa)) := by
  refine ⟨fun pins s σ H Q I ⟨A, H0, F, G, ρ, sr, h⟩ => (po_some ha).run pins s σ H Q I ?_⟩
  refine ⟨A, H0, F, G, ρ, sr, h.bind fun ⟨k1, d1⟩ h1 => ?_⟩
  intro v1 H1 f1 s1 r1 o1
  cases d1 with
  | int i => cases r1; exact ⟨i, rfl, h1 H1 s1⟩
  | _ => exact h1.elim
theorem e_sl (ha : PE X a (tE X.K CA W sa)) (hl : PO X lo (tO X.K CA W sl)) (hh : PO X hi (tO X.K CA W sh)) : PE X (.Subscript a (.Slice lo hi none p2) pos) (tE X.K CA W (slE sa sl sh)) := by
  refine peI (pe_slice sl_any ha hl hh) fun σ H Q ⟨A, H0, F, G, ρ, sr, h⟩ => ?_
  refine ⟨A, H0, F, G, ρ, sr, h.bind fun ⟨k1, d1⟩ h1 => ?_⟩
  intro v1 H1 f1 s1 r1 o1
  refine ⟨A, H0, F, G, ρ, sr.same s1, (h1.later s1).bind fun l h2 => ?_⟩
  intro H2 s2
  refine ⟨A, H0, F, G, ρ, (sr.same s1).same s2, (h2.later s2).bind fun u h3 => ?_⟩
  intro H3 s3
  obtain ⟨kd, e, h4⟩ := h3.of
  exact slB_ok sr s1 (s2.trans s3) r1 o1 e h4
theorem e_dnw : PE X (.Dict [] [] pos) (tE X.K CA W dnwE) := by
  refine peI pe_dnewK fun σ H Q ⟨A, H0, F, G, ρ, sr, h⟩ => ?_
  intro d hd
  refine h _ _ [d] (same_upd hd) (.dic upd_same List.nodup_nil .nil) ⟨List.nodup_cons.mpr ⟨by simp, List.nodup_nil⟩, fun a ha => ?_⟩
  rw [List.mem_singleton.mp ha]
  exact ⟨hd, ⟨by rw [upd_same]; trivial⟩⟩
end
abbrev Fn := List D → R KD
def spF (K : PySem.W.Frag) (CA : String → Addr) (fn : Fn) (n : Nat) : Sp := fun vs H Q E => ∃ A ds f, ds.length = n ∧ Reps K H ds vs f ∧ (∀ a ∈ f, A a) ∧
  match fn ds with
  | .ok (k, d) => ∀ v H' g, Same H H' → Rep K H' d v g → RetK A H H' k g → Q v H'
  | .ex c => ∀ H', Same H H' → WxOk K CA c E H'
  | .st => False
def retK : Kd → Kd → Kd
  | .own, _ => .own
  | .bor _, k => .bor k.is
def callE (fn : Fn) (s : SA) (dd : List D) : SE := fun ρ => (s ρ).bind fun xs => (fn (xs.map (·.2) ++ dd)).bind fun kd => .ok (retK kd.1 (jn xs), kd.2)
structure FnG (P : Program) (w : World) (K : PySem.W.Frag) (mg : Str → Option Value) (base : Heap) (CA : String → Addr) (fn : Fn) (k : Nat) (x : String) (dd : List D) : Prop where
  is : ∃ (f : Addr) (fd : FuncData) (ps : List Str) (dvs : List V) (ds : List Value), mg (Str.ofString x) = some (.ref f) ∧ FnOk P w K mg base (L2.CX P w) k f fd ps (spF K CA fn ps.length) ∧
    PySem.W.keepIn K (.ref f) = true ∧ Binds K fd ps ds ∧ Vals dvs ds ∧ (∀ H, Reps K H dd dvs []) ∧ ∀ as, fn as ≠ .st → as.length = ps.length
abbrev FnIs (X : Cx) (CA : String → Addr) (fn : Fn) (k : Nat) (x : String) (dd : List D) : Prop := FnG X.prog X.w X.K X.mg X.base CA fn k x dd
section
variable {X : Cx} {CXx : CXT} {k : Nat} {f : Addr} {fd : FuncData} {ps : List Str} {sp : Sp} {E : L2.St → XK} {x : Str} {p pos : Pos} {e : Expr} {es : List Expr} {t : TA} {dvs : List V} {ds : List Value}
theorem run_fnSD {pins : List (Addr × Obj)} {σ : L2.St} {H : Hp} {s : Shared} {Q : VK} {us : List Value} {vs : List V} (Fn : FnOk X.prog X.w X.K X.mg X.base CXx k f fd ps sp) (hr : Room k X.A) (hb : Binds X.K fd ps ds) (hd : Vals dvs ds) (hx : PassesAt CXx X σ (E σ))
    (I : Inv X pins σ H s) (r : Vals vs us) (h : sp (vs ++ dvs) H Q (E σ)) : wpAny (model X.prog X.w) X.A (call (.ref f) us) (EP X pins σ Q) X.xe s := by
  have r2 : Vals (vs ++ dvs) (us ++ ds) := r.append hd
  have hl : (us ++ ds).length = ps.length := by rw [← r2.length]; exact Fn.len _ _ _ _ h
  refine wpAny_call (codeAny_mono (Fn.run X.A X.stack s H ⟨us, []⟩ (us ++ ds) (vs ++ dvs) Q (E σ) hr I.env0 (hb s us I.kIn hl) r2 h) fun r s' hq => ?_)
  cases r with
  | error e => exact hx pins H s e s' I hq
  | ok fl =>
    cases fl with
    | ret u => exact I.after hq
    | next => exact False.elim hq
    | brk => exact False.elim hq
    | cont => exact False.elim hq
def tCallSD (sp : Sp) (dvs : List V) (E : L2.St → XK) (t : TA) : TE := fun σ H Q => t σ H fun vs H1 => sp (vs ++ dvs) H1 Q (E σ)
theorem pe_callSD (Fn : FnOk X.prog X.w X.K X.mg X.base CXx k f fd ps sp) (hr : Room k X.A) (hg : Gl X x) (hm : X.mg x = some (.ref f)) (hk : PySem.W.keepIn X.K (.ref f) = true) (hb : Binds X.K fd ps ds) (hd : Vals dvs ds) (hx : ∀ σ, PassesAt CXx X σ (E σ))
    (ha : PA X (e :: es) t) (hdb : (x == ("__debug__" : Str)) = false) (he : starEach (e :: es) X.env = (false, eval e X.env) :: starEach es X.env) (hpl : (backTo pos (starEach es X.env)).any (·.1) = false) :
    PE X (.Call (.Name x p) (e :: es) [] pos) (tCallSD sp dvs E t) := by
  refine ⟨fun pins s σ H Q I h => ?_⟩
  refine wpAny_Call_Name_kw (ld_glob I hg hm ?_ hdb)
  refine PySem.W.callWith_K (h₀ := X.base) I.ok.mod.kin hk (thn (ha.run pos pins s σ H _ I h) fun us s1 ⟨vs, H1, I1, r, q⟩ => ⟨I1.kIn, ?_⟩) he hpl
  exact run_fnSD Fn hr hb hd (hx σ) I1 r q
end
section
variable {X : Cx} {CA : String → Addr} {W : WX} {fn : Fn} {k : Nat} {x : String} {p pos : Pos} {e : Expr} {es : List Expr} {s : SA} {dd : List D}
theorem call_ok {K : PySem.W.Frag} {A : Addr → Prop} {H0 H H1 : Hp} {F : Nat → List Addr} {G : List (D × V)} {ρ : Env} {σ : L2.St} {Q : VK} {xs : List KD} {vs dvs : List V} {f : List Addr} {n : Nat} (sr : SR K A H0 F G ρ σ H) (s1 : Same H H1)
    (r : Reps K H1 (xs.map (·.2)) vs f) (o : KOk A H0 F H H1 (jn xs) f) (hd : Reps K H1 dd dvs []) (hn : (vs ++ dvs).length = n)
    (h : Post K CA W σ H1 ((fn (xs.map (·.2) ++ dd)).bind fun kd => .ok (retK kd.1 (jn xs), kd.2)) fun kd => Cont K A H0 F H kd Q) : spF K CA fn n (vs ++ dvs) H1 Q (WE W σ) := by
  have r2 := r.app hd
  rw [List.append_nil] at r2
  refine ⟨fun a => (∃ j ∈ (jn xs).is, a ∈ F j) ∨ Sh A H0 F a, _, f, by rw [r2.length]; exact hn, r2, o.bok sr, ?_⟩
  cases hc : fn (xs.map (·.2) ++ dd) with
  | st => rw [hc] at h; exact h.elim
  | ex c => rw [hc] at h; exact h
  | ok kd =>
    rw [hc] at h
    obtain ⟨k, d⟩ := kd
    intro v H' g s2 r3 o3
    refine h v H' g (s1.trans s2) r3 ?_
    have s12 := s1.trans s2
    cases k with
    | own => exact ⟨o3.1, fun a ha => ⟨s1.free (o3.2 a ha).1, (o3.2 a ha).2⟩⟩
    | bor is =>
      intro a ha
      rcases o3 a ha with q | q
      · exact q
      · exact .inr ⟨.inr ((sr.fr.trans s1).free q), fun j hj => ((sr.same s1).own j).2 a hj |>.2.ne q⟩
theorem e_call (tk : Takes X W) (hr : Room k X.A) (hf : FnIs X CA fn k x dd) (ha : PA X (e :: es) (tA X.K CA W s)) (hg : Gl X (Str.ofString x) := by rfl) (hdb : (Str.ofString x == ("__debug__" : Str)) = false := by decide)
    (he : starEach (e :: es) X.env = (false, eval e X.env) :: starEach es X.env := by rfl) (hpl : (backTo pos (starEach es X.env)).any (·.1) = false := by rfl) : PE X (.Call (.Name (Str.ofString x) p) (e :: es) [] pos) (tE X.K CA W (callE fn s dd)) := by
  obtain ⟨f, fd, ps, dvs, ds, hm, Fn, hk, hb, hd, hdd, hz⟩ := hf.is
  refine peI (pe_callSD Fn hr hg hm hk hb hd (fun σ => passAt tk σ) ha hdb he hpl) fun σ H Q ⟨A, H0, F, G, ρ, sr, h⟩ => ?_
  refine ⟨A, H0, F, G, ρ, sr, h.bind fun xs h1 => ?_⟩
  intro vs H1 f1 s1 r o
  refine call_ok sr s1 r o (hdd H1) ?_ (h1.later s1)
  have r2 := r.app (hdd H1)
  rw [← r2.length]
  refine hz _ fun z => ?_
  rw [z] at h1
  exact h1
end
def BltOk (K : PySem.W.Frag) (f : List KD → Option KD) (r : List V → Hp → VK → Prop) : Prop :=
  ∀ {A : Addr → Prop} {H0 H H1 : Hp} {F : Nat → List Addr} {G : List (D × V)} {ρ : Env} {σ : L2.St} {Q : VK} {xs : List KD} {vs : List V} {g : List Addr} {kd : KD}, SR K A H0 F G ρ σ H → Same H H1 → Reps K H1 (xs.map (·.2)) vs g → KOk A H0 F H H1 (jn xs) g →
    f xs = some kd → Cont K A H0 F H kd Q → r vs H1 Q
def bltE (f : List KD → Option KD) (s : SA) : SE := fun ρ => (s ρ).bind fun xs => R.of (f xs)
section
variable {X : Cx} {CA : String → Addr} {W : WX} {x : Str} {p pos : Pos} {e : Expr} {es : List Expr} {s : SA} {id T : String} {f : List KD → Option KD} {r : List V → Hp → VK → Prop}
theorem blt_ok {K : PySem.W.Frag} {t : TA} (hok : BltOk K f r) (σ : L2.St) (H : Hp) (Q : VK) (h : tE K CA W (bltE f s) σ H Q) : tA K CA W s σ H fun vs H1 => r vs H1 Q := by
  obtain ⟨A, H0, F, G, ρ, sr, h⟩ := h
  refine ⟨A, H0, F, G, ρ, sr, h.bind fun xs h1 => ?_⟩
  intro vs H1 g s1 rr o
  obtain ⟨kd, e, h2⟩ := h1.of
  exact hok sr s1 rr o e h2
theorem e_blt (hc : CallR X (.builtin id) r) (hok : BltOk X.K f r) (hm : X.mg x = none) (hv : bootBuiltins x = some (.builtin id)) (ha : PA X (e :: es) (tA X.K CA W s)) (hg : Gl X x := by rfl) (hn : x ≠ "__name__" := by decide) (hdb : (x == ("__debug__" : Str)) = false := by decide)
    (he : starEach (e :: es) X.env = (false, eval e X.env) :: starEach es X.env := by rfl) (hpl : (backTo pos (starEach es X.env)).any (·.1) = false := by rfl) : PE X (.Call (.Name x p) (e :: es) [] pos) (tE X.K CA W (bltE f s)) :=
  peI (pe_callB hc hg hm hv ha hn hdb he hpl) fun σ H Q h => blt_ok (t := tNil) hok σ H Q h
theorem e_bty (hc : CallR X (.type T) r) (hok : BltOk X.K f r) (hm : X.mg x = none) (hv : bootBuiltins x = some (.type T)) (ha : PA X (e :: es) (tA X.K CA W s)) (hg : Gl X x := by rfl) (hn : x ≠ "__name__" := by decide) (hdb : (x == ("__debug__" : Str)) = false := by decide)
    (he : starEach (e :: es) X.env = (false, eval e X.env) :: starEach es X.env := by rfl) (hpl : (backTo pos (starEach es X.env)).any (·.1) = false := by rfl) : PE X (.Call (.Name x p) (e :: es) [] pos) (tE X.K CA W (bltE f s)) :=
  peI (pe_callTy hc hg hm hv ha hn hdb he hpl) fun σ H Q h => blt_ok (t := tNil) hok σ H Q h
end
def blsD : List D → Option (List Bool)
  | [] => some []
  | .bl i :: r => (blsD r).map (i :: ·)
  | _ :: _ => none
@[simp] theorem blsD_map : ∀ ns : List Bool, blsD (ns.map D.bl) = some ns
  | [] => rfl
  | n :: ns => by simp [blsD, blsD_map ns]
theorem blsD_eq : ∀ {ds : List D} {ns : List Bool}, blsD ds = some ns → ds = ns.map D.bl
  | [], ns, e => by simp only [blsD, Option.some.injEq] at e; subst e; rfl
  | d :: ds, ns, e => by
    cases d with
    | bl i =>
      cases h : blsD ds with
      | none => simp [blsD, h] at e
      | some ms => simp only [blsD, h, Option.map_some, Option.some.injEq] at e; subst e; rw [blsD_eq h]; rfl
    | _ => simp [blsD] at e
theorem Reps.bls_inv {K : PySem.W.Frag} {H : Hp} : ∀ {ns : List Bool} {vs : List V} {f : List Addr}, Reps K H (ns.map D.bl) vs f → vs = ns.map V.bl ∧ f = []
  | [], _, _, h => by cases h; exact ⟨rfl, rfl⟩
  | n :: ns, _, _, h => by
    cases h with
    | cons r t =>
      cases r
      obtain ⟨e1, e2⟩ := Reps.bls_inv t
      subst e1; subst e2
      exact ⟨rfl, rfl⟩
def lenD : D → Option Nat
  | .lst ds => some ds.length
  | .scr ds => some ds.length
  | .tup ds => some ds.length
  | .str z => if z.length ≤ LIM then some z.length else none
  | .dic kvs => some kvs.length
  | _ => none
def bLen : List KD → Option KD
  | [x] => (lenD x.2).map fun (n : Nat) => (Kd.own, D.int (n : Int))
  | _ => none
def maxL : List Int → Option Int
  | [] => none
  | n :: ns => some (ns.foldl max n)
def minL : List Int → Option Int
  | [] => none
  | n :: ns => some (ns.foldl min n)
def bMax : List KD → Option KD
  | [(_, .int i), (_, .int j)] => some (.own, .int (max i j))
  | [(_, .lst ds)] => ((intsD ds).bind maxL).map fun n => (.own, .int n)
  | [(_, .tup ds)] => ((intsD ds).bind maxL).map fun n => (.own, .int n)
  | _ => none
def bMin : List KD → Option KD
  | [(_, .int i), (_, .int j)] => some (.own, .int (min i j))
  | [(_, .lst ds)] => ((intsD ds).bind minL).map fun n => (.own, .int n)
  | [(_, .tup ds)] => ((intsD ds).bind minL).map fun n => (.own, .int n)
  | _ => none
def bSum : List KD → Option KD
  | [(_, .lst ds)] => (intsD ds).map fun ns => (.own, .int ns.sum)
  | [(_, .scr ds)] => (intsD ds).map fun ns => (.own, .int ns.sum)
  | _ => none
def bAll : List KD → Option KD
  | [(_, .lst ds)] => (blsD ds).map fun ns => (.own, .bl (ns.all id))
  | _ => none
def bLst : List KD → Option KD
  | [(k, .lst ds)] => some (lk k ds, .lst ds)
  | [(k, .scr ds)] => some (lk k ds, .lst ds)
  | [(k, .tup ds)] => some (lk k ds, .lst ds)
  | _ => none
end Cz
set_option maxHeartbeats 4000000
namespace Cz
open PySem PySem.Spec PyProof.Rows L2
section
variable {K : PySem.W.Frag} {H : Hp}
theorem Reps.one {ds : List D} {d : D} {vs : List V} {g : List Addr} (e : ds = [d]) (r : Reps K H ds vs g) : ∃ v, vs = [v] ∧ Rep K H d v g := by
  subst e
  cases r with
  | cons r t => cases t; rw [List.append_nil]; exact ⟨_, rfl, r⟩
theorem Reps.two {d d' : D} {vs : List V} {g : List Addr} (r : Reps K H [d, d'] vs g) : ∃ v v' f f', vs = [v, v'] ∧ g = f ++ f' ∧ Rep K H d v f ∧ Rep K H d' v' f' := by
  cases r with
  | cons r t => cases t with
    | cons r' t' => cases t'; exact ⟨_, _, _, _, rfl, by rw [List.append_nil], r, r'⟩
theorem foldl_max : ∀ (ns : List Int) (n : Int), ns.foldl max n ∈ n :: ns ∧ ∀ y ∈ n :: ns, y ≤ ns.foldl max n
  | [], n => ⟨by simp, fun y hy => by simp at hy; subst hy; exact Int.le_refl _⟩
  | m :: ns, n => by
    obtain ⟨h1, h2⟩ := foldl_max ns (max n m)
    refine ⟨?_, fun y hy => ?_⟩
    · show ns.foldl max (max n m) ∈ _
      rcases List.mem_cons.mp h1 with e | h1
      · rw [e]
        by_cases h : n ≤ m
        · rw [Int.max_eq_right h]; simp
        · rw [Int.max_eq_left (by omega)]; simp
      · exact List.mem_cons_of_mem _ (List.mem_cons_of_mem _ h1)
    · show y ≤ ns.foldl max (max n m)
      have h3 := h2 (max n m) List.mem_cons_self
      rcases List.mem_cons.mp hy with e | hy
      · subst e; omega
      · rcases List.mem_cons.mp hy with e | hy
        · subst e; omega
        · exact h2 y (List.mem_cons_of_mem _ hy)
theorem foldl_min : ∀ (ns : List Int) (n : Int), ns.foldl min n ∈ n :: ns ∧ ∀ y ∈ n :: ns, ns.foldl min n ≤ y
  | [], n => ⟨by simp, fun y hy => by simp at hy; subst hy; exact Int.le_refl _⟩
  | m :: ns, n => by
    obtain ⟨h1, h2⟩ := foldl_min ns (min n m)
    refine ⟨?_, fun y hy => ?_⟩
    · show ns.foldl min (min n m) ∈ _
      rcases List.mem_cons.mp h1 with e | h1
      · rw [e]
        by_cases h : n ≤ m
        · rw [Int.min_eq_left h]; simp
        · rw [Int.min_eq_right (by omega)]; simp
      · exact List.mem_cons_of_mem _ (List.mem_cons_of_mem _ h1)
    · show ns.foldl min (min n m) ≤ y
      have h3 := h2 (min n m) List.mem_cons_self
      rcases List.mem_cons.mp hy with e | hy
      · subst e; omega
      · rcases List.mem_cons.mp hy with e | hy
        · subst e; omega
        · exact h2 y (List.mem_cons_of_mem _ hy)
theorem maxL_eq {ns : List Int} {M m : Int} (e : maxL ns = some M) (h1 : m ∈ ns) (h2 : ∀ y, y ∈ ns → y ≤ m) : m = M := by
  cases ns with
  | nil => cases e
  | cons n ns =>
    simp only [maxL, Option.some.injEq] at e
    subst e
    obtain ⟨h3, h4⟩ := foldl_max ns n
    have := h2 _ h3
    have := h4 _ h1
    omega
theorem minL_eq {ns : List Int} {M m : Int} (e : minL ns = some M) (h1 : m ∈ ns) (h2 : ∀ y, y ∈ ns → m ≤ y) : m = M := by
  cases ns with
  | nil => cases e
  | cons n ns =>
    simp only [minL, Option.some.injEq] at e
    subst e
    obtain ⟨h3, h4⟩ := foldl_min ns n
    have := h2 _ h3
    have := h4 _ h1
    omega
end
def rLenA (K : PySem.W.Frag) : List V → Hp → VK → Prop := fun xs H Q => (∃ p ys, xs = [.ref p] ∧ (SqL K H p ys ∨ SqT K H p ys) ∧ Q (.int ys.length) H) ∨ (∃ z, xs = [.str z] ∧ z.length ≤ sizeLine ∧ Q (.int z.length) H) ∨ ∃ a kvs, xs = [.ref a] ∧ H a = some (.dK kvs) ∧ Q (.int kvs.length) H
theorem cLen {X : Cx} : CallR X (.builtin "len") (rLenA X.K) := call_len_seq.or (call_len_str.or call_lenD)
theorem RepK.length {K : PySem.W.Frag} {H : Hp} {κ : Type} : ∀ {d : List (κ × D)} {v : List (κ × V)} {f : List Addr}, RepK K H d v f → d.length = v.length
  | _, _, _, .nil => rfl
  | _, _, _, .cons _ t => by simp [RepK.length t]
theorem oLen {K : PySem.W.Frag} : BltOk K bLen (rLenA K) := by
  intro A H0 H H1 F G ρ σ Q xs vs g kd sr s1 r o e h
  match xs, e with
  | [(k, d)], e =>
    obtain ⟨v, rfl, r0⟩ := r.one (d := d) rfl
    have e : (lenD d).map (fun n : Nat => ((Kd.own, D.int (n : Int)) : KD)) = some kd := e
    cases r0 with
    | tup t q => simp only [lenD, Option.map_some, Option.some.injEq] at e; subst e; exact .inl ⟨_, _, rfl, .inr (.of t), by rw [← q.length]; exact h.atom s1 (.int _)⟩
    | lst t q => simp only [lenD, Option.map_some, Option.some.injEq] at e; subst e; exact .inl ⟨_, _, rfl, .inl (.of t), by rw [← q.length]; exact h.atom s1 (.int _)⟩
    | scr t q =>
      simp only [lenD, Option.map_some, Option.some.injEq] at e; subst e
      rcases t with t | ⟨o, t⟩
      · exact .inl ⟨_, _, rfl, .inl (t _), by rw [← q.length]; exact h.atom s1 (.int _)⟩
      · exact .inl ⟨_, _, rfl, .inl (.inl (.inr ⟨o, t⟩)), by rw [← q.length]; exact h.atom s1 (.int _)⟩
    | dic t _ q => simp only [lenD, Option.map_some, Option.some.injEq] at e; subst e; exact .inr (.inr ⟨_, _, rfl, t, by rw [← q.length]; exact h.atom s1 (.int _)⟩)
    | str x =>
      simp only [lenD] at e
      split at e
      · rename_i hz; simp only [Option.map_some, Option.some.injEq] at e; subst e; exact .inr (.inl ⟨x, rfl, by rw [← lim_eq]; exact hz, h.atom s1 (.int _)⟩)
      · cases e
    | _ => simp [lenD] at e
  | [], e => cases e
  | _ :: _ :: _, e => cases e
def rMaxA (K : PySem.W.Frag) : List V → Hp → VK → Prop := fun xs H Q => (∃ i j, xs = [.int i, .int j] ∧ Q (.int (if j > i then j else i)) H) ∨ rMax K xs H Q ∨ rMaxT K xs H Q
def rMinA (K : PySem.W.Frag) : List V → Hp → VK → Prop := fun xs H Q => (∃ i j, xs = [.int i, .int j] ∧ Q (.int (if j < i then j else i)) H) ∨ rMin K xs H Q ∨ rMinT K xs H Q
theorem cMax {X : Cx} (hc : X.calm = true) : CallR X (.builtin "max") (rMaxA X.K) := (call_max2 hc).or ((cr_max hc).or (cr_maxT hc))
theorem cMin {X : Cx} (hc : X.calm = true) : CallR X (.builtin "min") (rMinA X.K) := (call_min2 hc).or ((cr_min hc).or (cr_minT hc))
theorem max2_eq (i j : Int) : (if j > i then j else i) = max i j := by
  by_cases h : j > i
  · rw [if_pos h, Int.max_eq_right (by omega)]
  · rw [if_neg h, Int.max_eq_left (by omega)]
theorem min2_eq (i j : Int) : (if j < i then j else i) = min i j := by
  by_cases h : j < i
  · rw [if_pos h, Int.min_eq_right (by omega)]
  · rw [if_neg h, Int.min_eq_left (by omega)]
theorem oMax {K : PySem.W.Frag} : BltOk K bMax (rMaxA K) := by
  intro A H0 H H1 F G ρ σ Q xs vs g kd sr s1 r o e h
  unfold bMax at e
  split at e
  · cases e
    obtain ⟨v, v', f, f', rfl, _, r1, r2⟩ := r.two
    cases r1; cases r2
    exact .inl ⟨_, _, rfl, by rw [max2_eq]; exact h.atom s1 (.int _)⟩
  · rename_i k ds
    obtain ⟨v, rfl, r0⟩ := r.one (d := .lst ds) rfl
    obtain ⟨a, ws, g', rfl, t, q, _, _⟩ := r0.lstI
    cases h1 : intsD ds with
    | none => rw [h1] at e; cases e
    | some ns =>
      rw [h1] at e
      cases h2 : maxL ns with
      | none => simp [h2] at e
      | some M =>
        simp only [Option.bind_some, h2, Option.map_some, Option.some.injEq] at e
        subst e
        have ed := intsD_eq h1
        subst ed
        obtain ⟨e1, _⟩ := q.ints_inv
        subst e1
        exact .inr (.inl ⟨a, ns, rfl, t, by cases ns with | nil => cases h2 | cons _ _ => simp, fun m m1 m2 => by rw [maxL_eq h2 m1 m2]; exact h.atom s1 (.int _)⟩)
  · rename_i k ds
    obtain ⟨v, rfl, r0⟩ := r.one (d := .tup ds) rfl
    obtain ⟨a, ws, rfl, t, q⟩ := r0.tupI
    cases h1 : intsD ds with
    | none => rw [h1] at e; cases e
    | some ns =>
      rw [h1] at e
      cases h2 : maxL ns with
      | none => simp [h2] at e
      | some M =>
        simp only [Option.bind_some, h2, Option.map_some, Option.some.injEq] at e
        subst e
        have ed := intsD_eq h1
        subst ed
        obtain ⟨e1, _⟩ := q.ints_inv
        subst e1
        exact .inr (.inr ⟨a, ns, rfl, .of t, by cases ns with | nil => cases h2 | cons _ _ => simp, fun m m1 m2 => by rw [maxL_eq h2 m1 m2]; exact h.atom s1 (.int _)⟩)
  · cases e
theorem oMin {K : PySem.W.Frag} : BltOk K bMin (rMinA K) := by
  intro A H0 H H1 F G ρ σ Q xs vs g kd sr s1 r o e h
  unfold bMin at e
  split at e
  · cases e
    obtain ⟨v, v', f, f', rfl, _, r1, r2⟩ := r.two
    cases r1; cases r2
    exact .inl ⟨_, _, rfl, by rw [min2_eq]; exact h.atom s1 (.int _)⟩
  · rename_i k ds
    obtain ⟨v, rfl, r0⟩ := r.one (d := .lst ds) rfl
    obtain ⟨a, ws, g', rfl, t, q, _, _⟩ := r0.lstI
    cases h1 : intsD ds with
    | none => rw [h1] at e; cases e
    | some ns =>
      rw [h1] at e
      cases h2 : minL ns with
      | none => simp [h2] at e
      | some M =>
        simp only [Option.bind_some, h2, Option.map_some, Option.some.injEq] at e
        subst e
        have ed := intsD_eq h1
        subst ed
        obtain ⟨e1, _⟩ := q.ints_inv
        subst e1
        exact .inr (.inl ⟨a, ns, rfl, t, by cases ns with | nil => cases h2 | cons _ _ => simp, fun m m1 m2 => by rw [minL_eq h2 m1 m2]; exact h.atom s1 (.int _)⟩)
  · rename_i k ds
    obtain ⟨v, rfl, r0⟩ := r.one (d := .tup ds) rfl
    obtain ⟨a, ws, rfl, t, q⟩ := r0.tupI
    cases h1 : intsD ds with
    | none => rw [h1] at e; cases e
    | some ns =>
      rw [h1] at e
      cases h2 : minL ns with
      | none => simp [h2] at e
      | some M =>
        simp only [Option.bind_some, h2, Option.map_some, Option.some.injEq] at e
        subst e
        have ed := intsD_eq h1
        subst ed
        obtain ⟨e1, _⟩ := q.ints_inv
        subst e1
        exact .inr (.inr ⟨a, ns, rfl, .of t, by cases ns with | nil => cases h2 | cons _ _ => simp, fun m m1 m2 => by rw [minL_eq h2 m1 m2]; exact h.atom s1 (.int _)⟩)
  · cases e
theorem oSum {K : PySem.W.Frag} : BltOk K bSum (rSum K) := by
  intro A H0 H H1 F G ρ σ Q xs vs g kd sr s1 r o e h
  unfold bSum at e
  split at e
  · rename_i k ds
    obtain ⟨v, rfl, r0⟩ := r.one (d := .lst ds) rfl
    obtain ⟨a, ws, g', rfl, t, q, _, _⟩ := r0.lstI
    cases h1 : intsD ds with
    | none => rw [h1] at e; cases e
    | some ns =>
      rw [h1] at e
      simp only [Option.map_some, Option.some.injEq] at e
      subst e
      have ed := intsD_eq h1
      subst ed
      obtain ⟨e1, _⟩ := q.ints_inv
      subst e1
      exact ⟨a, ns, rfl, t, h.atom s1 (.int _)⟩
  · rename_i k ds
    obtain ⟨v, rfl, r0⟩ := r.one (d := .scr ds) rfl
    obtain ⟨a, ws, g', rfl, t, q, _, _⟩ := r0.scrI
    cases h1 : intsD ds with
    | none => rw [h1] at e; cases e
    | some ns =>
      rw [h1] at e
      simp only [Option.map_some, Option.some.injEq] at e
      subst e
      have ed := intsD_eq h1
      subst ed
      obtain ⟨e1, _⟩ := q.ints_inv
      subst e1
      exact ⟨a, ns, rfl, t, h.atom s1 (.int _)⟩
  · cases e
theorem oAll {K : PySem.W.Frag} : BltOk K bAll (rAll K) := by
  intro A H0 H H1 F G ρ σ Q xs vs g kd sr s1 r o e h
  unfold bAll at e
  split at e
  · rename_i k ds
    obtain ⟨v, rfl, r0⟩ := r.one (d := .lst ds) rfl
    obtain ⟨a, ws, g', rfl, t, q, _, _⟩ := r0.lstI
    cases h1 : blsD ds with
    | none => rw [h1] at e; cases e
    | some ns =>
      rw [h1] at e
      simp only [Option.map_some, Option.some.injEq] at e
      subst e
      have ed := blsD_eq h1
      subst ed
      obtain ⟨e1, _⟩ := q.bls_inv
      subst e1
      exact ⟨a, ns, rfl, t, h.atom s1 (.bl _)⟩
  · cases e
def rLstA (K : PySem.W.Frag) : List V → Hp → VK → Prop := fun xs H Q => ∃ p ys, xs = [.ref p] ∧ (SqL K H p ys ∨ SqT K H p ys) ∧ ∀ l, H l = none → Q (.ref l) (upd H l (.lst ys))
theorem oLst {K : PySem.W.Frag} : BltOk K bLst (rLstA K) := by
  intro A H0 H H1 F G ρ σ Q xs vs g kd sr s1 r o e h
  unfold bLst at e
  have jk : ∀ {k : Kd} {d : D} {v : V}, Rep K H1 d v g → KOk A H0 F H H1 (jn [(k, d)]) g → KOk A H0 F H H1 k g := fun {k d v} r o => by
    have o : KOk A H0 F H H1 ((nk k d).join .own) g := o
    rw [Kd.join_own] at o
    exact KOk.nk' r o
  split at e
  · rename_i k ds
    cases e
    obtain ⟨v, rfl, r0⟩ := r.one (d := .lst ds) rfl
    obtain ⟨a, ws, g', rfl, t, q, i1, n1⟩ := r0.lstI
    exact ⟨a, ws, rfl, .inl t, fun l hl => h.newL sr s1 q (((jk r0 o).sub i1 n1).lk q) hl⟩
  · rename_i k ds
    cases e
    obtain ⟨v, rfl, r0⟩ := r.one (d := .scr ds) rfl
    obtain ⟨a, ws, g', rfl, t, q, i1, n1⟩ := r0.scrI
    exact ⟨a, ws, rfl, .inl t, fun l hl => h.newL sr s1 q (((jk r0 o).sub i1 n1).lk q) hl⟩
  · rename_i k ds
    cases e
    obtain ⟨v, rfl, r0⟩ := r.one (d := .tup ds) rfl
    obtain ⟨a, ws, rfl, t, q⟩ := r0.tupI
    exact ⟨a, ws, rfl, .inr (.of t), fun l hl => h.newL sr s1 q ((jk r0 o).lk q) hl⟩
  · cases e
def tyD : D → String
  | .non => "NoneType" | .bl _ => "bool" | .int _ => "int" | .str _ => "str" | .tup _ => "tuple" | .lst _ => "list" | .scr _ => "list" | .dic _ => "dict" | _ => ""
def tyK : D → Bool
  | .fn _ => false | .obj _ _ _ => false | .dtk _ => false
  | .sob _ _ => false | .fdc _ => false | .exv _ _ _ _ => false | .nod _ _ => false | .tg _ _ => false | .hol _ => false
  | _ => true
def isiE (a : SE) (T : String) : SE := fun ρ => (a ρ).bind fun x => if tyK x.2 = true then (match kitB (tyD x.2) T with
  | some b => .ok (.own, .bl b)
  | none => .st) else .st
theorem tyD_ok {K : PySem.W.Frag} {H : Hp} {d : D} {v : V} {f : List Addr} (r : Rep K H d v f) (hk : tyK d = true) : TyX K H v (.type (tyD d)) := by
  cases r with
  | fn q => cases hk
  | obj q c n r _ => cases hk
  | dtk q n r => cases hk
  | non => exact .base .non
  | bl b => exact .base (.bl b)
  | int i => exact .base (.int i)
  | str x => exact .base (.str x)
  | tup t q => exact .base (.tup t)
  | sob q c n r => cases hk
  | fdc q n r => cases hk
  | exv q r => cases hk
  | nod q => cases hk
  | tg r z => cases hk
  | hol z => cases hk
  | lst t q => exact .base (.lst t)
  | scr t q =>
    rcases t with t | ⟨o, t⟩
    · rcases t (fun _ => none) with (t | ⟨o, t⟩) | ⟨o, its, n, h1, h2, _⟩
      · cases t
      · cases t
      · exact .kList h1 h2
    · exact .base (.frz t)
  | dic t _ q => exact .base (.dK t)
section
variable {X : Cx} {CA : String → Addr} {W : WX} {p p2 pos : Pos} {e : Expr} {sa : SE} {T : String}
theorem e_isi (hm : X.mg "isinstance" = none) (ht : X.mg (Str.ofString T) = none) (hv : bootBuiltins (Str.ofString T) = some (.type T)) (ha : PE X e (tE X.K CA W sa)) (hg : Gl X "isinstance" := by rfl) (hgt : Gl X (Str.ofString T) := by rfl)
    (hn : Str.ofString T ≠ "__name__" := by decide) (hd : (Str.ofString T == ("__debug__" : Str)) = false := by decide)
    (he : starEach (e :: [.Name (Str.ofString T) p2]) X.env = (false, eval e X.env) :: starEach [.Name (Str.ofString T) p2] X.env := by rfl) (hpl : (backTo pos (starEach [.Name (Str.ofString T) p2] X.env)).any (·.1) = false := by rfl) :
    PE X (.Call (.Name "isinstance" p) [e, .Name (Str.ofString T) p2] [] pos) (tE X.K CA W (isiE sa T)) := by
  refine peI (pe_callB call_isi hg hm (by decide +kernel) (pa_cons ha (pa_cons (pe_bltn (v := .ty T) hgt ht hv rfl hn hd) pa_nil (by rfl)) he) (by decide) (by decide) he hpl) fun σ H Q ⟨A, H0, F, G, ρ, sr, h⟩ => ?_
  refine ⟨A, H0, F, G, ρ, sr, h.bind fun ⟨k, d⟩ h1 => ?_⟩
  intro v H1 f s1 r o
  by_cases hy : tyK d = true
  · simp only [hy, if_true] at h1
    cases hk : kitB (tyD d) T with
    | none => simp only [hk] at h1; exact h1.elim
    | some b =>
      simp only [hk] at h1
      exact ⟨v, .ty T, _, _, b, rfl, .ty T, tyD_ok r hy, kit_ty hk, Cont.atom h1 s1 (.bl b)⟩
  · simp only [hy, if_false, Bool.false_eq_true] at h1
    exact h1.elim
end
end Cz
set_option maxHeartbeats 1000000
namespace Cz
open PySem PySem.Spec PyProof.Rows L2
section
variable {prog : Program} {w : World} {A : Around} {E : Value → Shared → Prop} {s : Shared}
theorem draw_list {it t : Addr} {items : Array Value} (hne : t ≠ it) : ∀ (n i : Nat) (s : Shared) (Q : List Value → Shared → Prop), s.heap.IsListIter it t i → s.heap.IsList t items → i + n ≤ items.size →
    (∀ h', h'.IsListIter it t (i + n) → Heap.SameBut it s.heap h' → Q ((items.toList.drop i).take n) { s with heap := h' }) → wpAny (model prog w) A (draw (.ref it) n) Q E s
  | 0, i, s, Q, hit, _, _, hQ => by
    show wpAny _ _ (pure []) Q E s
    exact wpAny_pure (by simpa using hQ s.heap hit (Heap.SameBut.refl ..))
  | n + 1, i, s, Q, hit, ht, hle, hQ => by
    have hlt : i < items.size := by omega
    show wpAny _ _ (pyNext (.ref it) >>= _) Q E s
    refine wpAny_bind (wpAny_pyNext_list_item hit ht (x := items[i]) (by simp [hlt]) fun h₁ hit₁ hs₁ => ?_)
    have ht₁ : h₁.IsList t items := let ⟨o, e, r⟩ := ht; ⟨o, (hs₁.2 t hne).trans e, r⟩
    refine wpAny_bind (wpAny_holding (draw_list hne n (i + 1) _ _ hit₁ ht₁ (by omega) fun h₂ hit₂ hs₂ => wpAny_pure ?_))
    have hd : items.toList.drop i = items[i] :: items.toList.drop (i + 1) := by simp [List.drop_eq_getElem_cons, hlt]
    have := hQ h₂ (by rw [show i + (n + 1) = i + 1 + n by omega]; exact hit₂) (hs₁.trans hs₂)
    rw [hd, List.take_succ_cons] at this
    exact this
theorem unpackItems_list {t : Addr} {items : Array Value} {Q : List Value → Shared → Prop} (hh : A.handled = none) (ht : s.heap.IsList t items)
    (hQ : ∀ h', Heap.ExtBut s.heap.objs.size s.heap h' → Q items.toList { s with heap := h' }) : wpAny (model prog w) A (unpackItems (.ref t) items.size none) Q E s := by
  have hlt : t ≠ s.heap.objs.size := by obtain ⟨o, ho, _⟩ := ht; exact Nat.ne_of_lt (Heap.lt_size ho)
  unfold unpackItems
  refine wpAny_bind ?_
  · unfold notIterableAtAll
    refine wpAny_bind (wpAny_specialOf ht.typeIs F.slot_list_iter.lookup ?_)
    refine wpAny_pure ?_
    simp only [Bool.false_eq_true, if_false]
    refine wpAny_bind (wpAny_holding (wpAny_pyIter_list ht ?_))
    refine wpAny_bind (wpAny_holding (draw_list hlt items.size 0 _ _ ⟨_, Heap.get?_push_size _ rfl, rfl, rfl⟩ (ht.push _) (by omega) fun h₁ hit₁ hs₁ => ?_))
    have hall : List.take items.size (List.drop 0 items.toList) = items.toList := by
      rw [List.drop_zero]; exact List.take_of_length_le (by simp)
    rw [hall]
    rw [if_neg (by simp)]
    have ht₁ : h₁.IsList t items := let ⟨o, e, r⟩ := ht.push _; ⟨o, (hs₁.2 t hlt).trans e, r⟩
    refine wpAny_bind (wpAny_holding (wpAny_pyNext_list_end hh hit₁ ht₁ (by simp) fun h₂ he₂ => ?_))
    simp only [Option.isSome_none, Bool.false_eq_true, if_false]
    refine wpAny_pure (hQ h₂ fun b o hb e => he₂ b o hb (hs₁.extBut b o hb (Heap.get?_push_of_some _ e)))
theorem assign_Tuple_list {env : PySem.Env} {elts : List Expr} {x1} {pos : Pos} {t : Addr} {items : Array Value} {Q : Unit → Shared → Prop} (hh : A.handled = none) (ht : s.heap.IsList t items)
    (hn : (assignEach elts env).length = items.size) (hstar : (assignEach elts env).findIdx? (·.1) = none)
    (h : ∀ h', Heap.ExtBut s.heap.objs.size s.heap h' → wpAny (model prog w) A (assignInOrder ((assignEach elts env).map (·.2)) items.toList) Q E { s with heap := h' }) :
    wpAny (model prog w) A (assign (.Tuple elts x1 pos) env (.ref t)) Q E s := by
  rw [assign_Tuple]
  refine wpAny_bind (wpAny_standAt ?_)
  unfold unpack
  rw [hn, hstar]
  exact wpAny_bind (wpAny_holding (unpackItems_list hh ht h))
end
def gTupL (K : PySem.W.Frag) (n : Nat) (t : TGs) : TG := fun v σ H Q => ∃ a xs, v = .ref a ∧ (SqT K H a xs ∨ SqL K H a xs) ∧ xs.length = n ∧ t xs σ H Q
theorem pg_tupL {X : Cx} {pos : Pos} {es : List Expr} {k : Nat} {t : TGs} {n : Nat} (hc : X.calm = true) (h : PGs X es t)
    (hn : (assignEach es X.env).length = n) (hst : (assignEach es X.env).findIdx? (·.1) = none) : PG X (.Tuple es k pos) (gTupL X.K n t) := by
  refine ⟨fun pins s σ H v u Q I r hw => ?_⟩
  obtain ⟨a, xs, e1, hq, hl, hw⟩ := hw
  subst e1
  cases r
  rcases hq with hq | hq
  · obtain ⟨its, rv, ht, hz⟩ := I.tuple hq
    refine assign_Tuple_tuple (I.ok.hd hc) ht (by simp [hn, ← hl, rv.length]) hst fun h' hx => ?_
    have I1 : Inv X pins σ H { s with heap := h' } := I.kept (t' := s.toks) fun b o e => hx b o (Nat.ne_of_lt (Heap.lt_size e)) e
    exact h.run pins _ σ H xs _ Q I1 (by simpa using rv) hw
  · obtain ⟨its, rv, ht, hz⟩ := I.list hq
    refine assign_Tuple_list (I.ok.hd hc) ht.isList (by simp [hn, ← hl, rv.length]) hst fun h' hx => ?_
    have I1 : Inv X pins σ H { s with heap := h' } := I.kept (t' := s.toks) fun b o e => hx b o (Nat.ne_of_lt (Heap.lt_size e)) e
    exact h.run pins _ σ H xs _ Q I1 (by simpa using rv) hw
def mkS : Kd → D → Sl
  | _, .int i => .bo [] (.int i)
  | _, .bl i => .bo [] (.bl i)
  | _, .str i => .bo [] (.str i)
  | _, .non => .bo [] .non
  | .own, d => .ow d
  | .bor is, d => .bo is d
theorem mkS_isT (k : Kd) (d : D) : (mkS k d).isT = false := by
  cases k <;> cases d <;> rfl
def updF (F : Nat → List Addr) (i : Nat) (f : List Addr) : Nat → List Addr := fun j => if j = i then f else F j
@[simp] theorem updF_same {F : Nat → List Addr} {i : Nat} {f : List Addr} : updF F i f i = f := if_pos rfl
theorem updF_ne {F : Nat → List Addr} {i j : Nat} {f : List Addr} (h : j ≠ i) : updF F i f j = F j := if_neg h
section
variable {K : PySem.W.Frag} {A : Addr → Prop} {H0 H H1 H2 : Hp} {F : Nat → List Addr} {G : List (D × V)} {ρ : Env} {σ : L2.St}
theorem Sh.upd {i : Nat} {f : List Addr} {a : Addr} (sr : SR K A H0 F G ρ σ H) (hf : ∀ b ∈ f, H b = none) (ha : H a ≠ none) (h : Sh A H0 F a) : Sh A H0 (updF F i f) a :=
  ⟨h.1, fun j hj => by
    by_cases e : j = i
    · subst e; rw [updF_same] at hj; exact ha (hf a hj)
    · rw [updF_ne e] at hj; exact h.2 j hj⟩
theorem BOk.upd {i : Nat} {f g : List Addr} {is : List Nat} (sr : SR K A H0 F G ρ σ H) (hf : ∀ b ∈ f, H b = none) (hg : ∀ a ∈ g, H a ≠ none) (h : BOk A H0 F is g) : BOk A H0 (updF F i f) is g := fun a ha => by
  rcases h a ha with ⟨j, hj, q⟩ | q
  · by_cases e : j = i
    · subst e
      refine .inr ⟨.inr ((sr.own j).2 a q).1, fun m hm => ?_⟩
      by_cases e : m = j
      · subst e; rw [updF_same] at hm; exact hg a ha (hf a hm)
      · rw [updF_ne e] at hm; exact e (sr.dis _ _ a hm q)
    · exact .inl ⟨j, hj, by rw [updF_ne e]; exact q⟩
  · exact .inr (q.upd sr hf (hg a ha))
theorem fin_upd {i : Nat} {f : List Addr} (h : ∃ L, ∀ j, L ≤ j → F j = []) : ∃ L, ∀ j, L ≤ j → updF F i f j = [] := by
  obtain ⟨L, h⟩ := h
  refine ⟨max L (i + 1), fun j hj => ?_⟩
  rw [updF_ne (by omega)]
  exact h j (by omega)
theorem SR.set {k : Kd} {d : D} {v : V} {f : List Addr} (sr : SR K A H0 F G ρ σ H) (s : Same H H1) (r : Rep K H1 d v f) (o : KOk A H0 F H H1 k f) (i : Nat) :
    ∃ f', SR K A H0 (updF F i f') G (ρ.set i (mkS k d)) (σ.set i (some v)) H1 ∧ (∀ b ∈ f', H b = none) ∧ (k ≠ .own → f' = []) := by
  have sr1 := sr.same s
  -- the new nodes
  have main : ∀ f', (∀ b ∈ f', H b = none) → (f'.Nodup ∧ ∀ a ∈ f', Mu (H1 a)) → (∀ d', mkS k d = .ow d' → d' = d ∧ f' = f) → (∀ is d', mkS k d = .bo is d' → d' = d ∧ ∀ a ∈ f, (∃ j ∈ is, a ∈ updF F i f' j) ∨ Sh A H0 (updF F i f') a) → (f' ≠ [] → ∃ d', mkS k d = .ow d') →
      SR K A H0 (updF F i f') G (ρ.set i (mkS k d)) (σ.set i (some v)) H1 := fun f' hf hm ho hb he => by
    refine ⟨by rw [List.length_set, List.length_set]; exact sr.len, sr1.fr, fun j => ?_, fun j m a hj hm' => ?_, fun j d' e => ?_, fun j is d' e => ?_, fun p hp => ?_, fun j hj hn => ?_, fin_upd sr.fin, sr1.tbS (hasT_set (mkS_isT k d)) fun a o e _ => e⟩
    · by_cases e : j = i
      · subst e; rw [updF_same]; exact ⟨hm.1, fun a ha => ⟨sr.fr.free (hf a ha), hm.2 a ha⟩⟩
      · rw [updF_ne e]; exact sr1.own j
    · by_cases e : j = i
      · by_cases e' : m = i
        · rw [e, e']
        · rw [e, updF_same] at hj; rw [updF_ne e'] at hm'
          exact absurd (hf a hj) (((sr.own m).2 a hm').2.ne)
      · by_cases e' : m = i
        · rw [e', updF_same] at hm'; rw [updF_ne e] at hj
          exact absurd (hf a hm') (((sr.own j).2 a hj).2.ne)
        · rw [updF_ne e] at hj; rw [updF_ne e'] at hm'; exact sr.dis j m a hj hm'
    · by_cases h : i = j
      · subst h
        by_cases hl : i < ρ.length
        · rw [List.getElem?_set_self hl] at e
          obtain ⟨e1, e2⟩ := ho d' (Option.some.inj e)
          subst e1; subst e2
          refine ⟨v, by rw [List.getElem?_set_self (by rw [← sr.len]; exact hl)], by rw [updF_same]; exact r⟩
        · rw [List.getElem?_eq_none (by simpa using hl)] at e; cases e
      · rw [List.getElem?_set_ne h] at e; rw [List.getElem?_set_ne h, updF_ne (Ne.symm h)]; exact sr1.slo j d' e
    · by_cases h : i = j
      · subst h
        by_cases hl : i < ρ.length
        · rw [List.getElem?_set_self hl] at e
          obtain ⟨e1, e2⟩ := hb is d' (Option.some.inj e)
          subst e1
          refine ⟨v, f, by rw [List.getElem?_set_self (by rw [← sr.len]; exact hl)], r, e2⟩
        · rw [List.getElem?_eq_none (by simpa using hl)] at e; cases e
      · rw [List.getElem?_set_ne h] at e; rw [List.getElem?_set_ne h]
        obtain ⟨v', g, h1, h2, h3⟩ := sr.slb j is d' e
        exact ⟨v', g, h1, h2.same s, h3.upd sr hf h2.trk⟩
    · obtain ⟨g, h1, h2⟩ := sr.gho p hp
      exact ⟨g, h1.same s, fun a ha => (h2 a ha).upd sr hf (h1.trk a ha)⟩
    · rw [List.length_set] at hj
      by_cases h : i = j
      · subst h
        rw [updF_same] at hn
        obtain ⟨d', e'⟩ := he hn
        exact ⟨d', by rw [List.getElem?_set_self hj, e']⟩
      · rw [updF_ne (Ne.symm h)] at hn
        obtain ⟨d', e'⟩ := sr.emp j hj hn
        exact ⟨d', by rw [List.getElem?_set_ne h]; exact e'⟩
  have atom : f = [] → mkS k d = .bo [] d → ∃ f', SR K A H0 (updF F i f') G (ρ.set i (mkS k d)) (σ.set i (some v)) H1 ∧ (∀ b ∈ f', H b = none) ∧ (k ≠ .own → f' = []) := fun e1 e2 =>
    ⟨[], main [] (fun b hb => nomatch hb) ⟨List.nodup_nil, fun a ha => nomatch ha⟩ (fun d' e => by rw [e2] at e; cases e) (fun is d' e => by rw [e2] at e; cases e; exact ⟨rfl, fun a ha => by rw [e1] at ha; cases ha⟩) (fun z => absurd rfl z), (fun b hb => nomatch hb), fun _ => rfl⟩
  have big : mkS k d = (match k with | .own => .ow d | .bor is => .bo is d) → ∃ f', SR K A H0 (updF F i f') G (ρ.set i (mkS k d)) (σ.set i (some v)) H1 ∧ (∀ b ∈ f', H b = none) ∧ (k ≠ .own → f' = []) := fun e => by
    cases k with
    | own => exact ⟨f, main f (fun b hb => (o.2 b hb).1) ⟨o.1, fun a ha => (o.2 a ha).2⟩ (fun d' e' => by rw [e] at e'; cases e'; exact ⟨rfl, rfl⟩) (fun is d' e' => by rw [e] at e'; cases e') (fun _ => ⟨d, e⟩), fun b hb => (o.2 b hb).1, fun z => absurd rfl z⟩
    | bor js =>
      refine ⟨[], main [] (fun b hb => nomatch hb) ⟨List.nodup_nil, fun a ha => nomatch ha⟩ (fun d' e' => by rw [e] at e'; cases e') (fun is d' e' => ?_) (fun z => absurd rfl z), (fun b hb => nomatch hb), fun _ => rfl⟩
      rw [e] at e'; cases e'
      exact ⟨rfl, BOk.upd sr1 (f := []) (fun b hb => nomatch hb) r.trk o⟩
  cases d with
  | int n => cases r; exact atom rfl (by cases k <;> rfl)
  | bl n => cases r; exact atom rfl (by cases k <;> rfl)
  | str n => cases r; exact atom rfl (by cases k <;> rfl)
  | non => cases r; exact atom rfl (by cases k <;> rfl)
  | _ => exact big (by cases k <;> rfl)
end
abbrev Tgt := Kd → D → Env → Option Env
abbrev Tgts := List Nat → List D → Env → Option Env
def tgN (i : Nat) : Tgt := fun k d ρ => some (ρ.set i (mkS k d))
def tgT (t : Tgts) : Tgt := fun k d ρ => match d with
  | .tup ds => t k.is ds ρ
  | .lst ds => t k.is ds ρ
  | _ => none
def tgNil : Tgts := fun _ ds ρ => match ds with
  | [] => some ρ
  | _ :: _ => none
def tgCons (t : Tgt) (r : Tgts) : Tgts := fun is ds ρ => match ds with
  | [] => none
  | d :: ds => (t (.bor is) d ρ).bind fun ρ' => r is ds ρ'
def Trn (A : Addr → Prop) (H0 H : Hp) (F F' : Nat → List Addr) : Prop := ∀ js g, (∀ a ∈ g, H a ≠ none) → BOk A H0 F js g → BOk A H0 F' js g
structure TP (K : PySem.W.Frag) (A : Addr → Prop) (H0 Hb H : Hp) (F F' : Nat → List Addr) (G : List (D × V)) (ρ' : Env) (σ σ' : L2.St) (sl : List Nat) (b : Bool) : Prop where
  sr : SR K A H0 F' G ρ' σ' H
  tr : Trn A H0 Hb F F'
  len : σ'.length = σ.length
  out : ∀ j, j ∉ sl → σ'[j]? = σ[j]? ∧ F' j = F j
  bor : b = true → ∀ j ∈ sl, F' j = []
def Kd.isB : Kd → Bool
  | .own => false
  | .bor _ => true
def tG (K : PySem.W.Frag) (sl : List Nat) (t : Tgt) : TG := fun v σ H Q => ∃ A H0 Hb F G ρ k d f, SR K A H0 F G ρ σ Hb ∧ Same Hb H ∧ Rep K H d v f ∧ KOk A H0 F Hb H k f ∧
  match t k d ρ with
  | some ρ' => ∀ σ' F', TP K A H0 Hb H F F' G ρ' σ σ' sl k.isB → Q σ' H
  | none => False
def tGs (K : PySem.W.Frag) (sl : List Nat) (t : Tgts) : TGs := fun vs σ H Q => ∃ A H0 F G ρ is ds f, SR K A H0 F G ρ σ H ∧ Reps K H ds vs f ∧ BOk A H0 F is f ∧
  match t is ds ρ with
  | some ρ' => ∀ σ' F', TP K A H0 H H F F' G ρ' σ σ' sl true → Q σ' H
  | none => False
section
variable {X : Cx} {pos : Pos}
theorem pgI {e : Expr} {t t' : TG} (h : PG X e t) (k : ∀ v σ H Q, t' v σ H Q → t v σ H Q) : PG X e t' := ⟨fun pins s σ H v u Q I r q => h.run pins s σ H v u Q I r (k v σ H Q q)⟩
theorem pgsI {e : List Expr} {t t' : TGs} (h : PGs X e t) (k : ∀ v σ H Q, t' v σ H Q → t v σ H Q) : PGs X e t' := ⟨fun pins s σ H v u Q I r q => h.run pins s σ H v u Q I r (k v σ H Q q)⟩
theorem g_nm (i : Nat) {x : Str} (hN : X.N.Nodup) (hi : X.N[i]? = some x := by rfl) (hx : Loc X.env.scope x := by first | exact Or.inl rfl | exact Or.inr rfl) (hf : X.fn x = true ∨ X.env.scope.names.lookup x = some .local := by first | exact .inl rfl | exact .inr rfl | assumption) :
    PG X (.Name x pos) (tG X.K [i] (tgN i)) := by
  refine pgI (pg_name hN hi hx hf) fun v σ H Q ⟨A, H0, Hb, F, G, ρ, k, d, f, sr, s, r, o, h⟩ => ?_
  obtain ⟨f', sr', hf', hb⟩ := sr.set s r o i
  refine h _ _ ⟨sr', fun js g hg hb => hb.upd sr hf' hg, by rw [List.length_set], fun j hj => ?_, fun hk j hj => ?_⟩
  · have hj : j ≠ i := by simpa using hj
    exact ⟨by rw [List.getElem?_set_ne (Ne.symm hj)], updF_ne hj⟩
  · have hj : j = i := by simpa using hj
    subst hj
    rw [updF_same]
    exact hb (fun z => by rw [z] at hk; cases hk)
theorem gs_nil : PGs X [] (tGs X.K [] tgNil) := by
  refine pgsI pgs_nil fun vs σ H Q ⟨A, H0, F, G, ρ, is, ds, f, sr, r, o, h⟩ => ?_
  cases r with
  | nil => exact ⟨rfl, h _ _ ⟨sr, fun _ _ _ q => q, rfl, fun _ _ => ⟨rfl, rfl⟩, fun _ j hj => nomatch hj⟩⟩
  | cons _ _ => exact h.elim
theorem gs_cons {e : Expr} {es : List Expr} {t : Tgt} {u : Tgts} {sl sl' : List Nat} (h1 : PG X e (tG X.K sl t)) (h2 : PGs X es (tGs X.K sl' u))
    (hs : (assignEach (e :: es) X.env).map (·.2) = assign e X.env :: (assignEach es X.env).map (·.2) := by rfl) : PGs X (e :: es) (tGs X.K (sl ++ sl') (tgCons t u)) := by
  refine pgsI (pgs_cons h1 h2 hs) fun vs σ H Q ⟨A, H0, F, G, ρ, is, ds, f, sr, r, o, h⟩ => ?_
  cases r with
  | nil => exact h.elim
  | @cons d v f1 ds vs f2 r rr =>
    refine ⟨_, _, rfl, A, H0, H, F, G, ρ, .bor is, _, f1, sr, Same.refl _, r, fun a ha => o a (List.mem_append_left _ ha), ?_⟩
    have h : match (t (.bor is) d ρ).bind fun ρ' => u is ds ρ' with
      | some ρ' => ∀ σ' F', TP X.K A H0 H H F F' G ρ' σ σ' (sl ++ sl') true → Q σ' H
      | none => False := h
    cases ht : t (.bor is) d ρ with
    | none => rw [ht] at h; exact h.elim
    | some ρ1 =>
      rw [ht] at h
      intro σ1 F1 p1
      refine ⟨A, H0, F1, G, ρ1, is, ds, f2, p1.sr, rr, p1.tr _ _ rr.trk fun a ha => o a (List.mem_append_right _ ha), ?_⟩
      have h : match u is ds ρ1 with
        | some ρ' => ∀ σ' F', TP X.K A H0 H H F F' G ρ' σ σ' (sl ++ sl') true → Q σ' H
        | none => False := h
      cases hu : u is ds ρ1 with
      | none => rw [hu] at h; exact h.elim
      | some ρ2 =>
        rw [hu] at h
        intro σ2 F2 p2
        refine h σ2 F2 ⟨p2.sr, fun js g hg hb => p2.tr js g hg (p1.tr js g hg hb), p2.len.trans p1.len, fun j hj => ?_, fun _ j hj => ?_⟩
        · have hj1 : j ∉ sl := fun z => hj (List.mem_append_left _ z)
          have hj2 : j ∉ sl' := fun z => hj (List.mem_append_right _ z)
          exact ⟨(p2.out j hj2).1.trans (p1.out j hj1).1, (p2.out j hj2).2.trans (p1.out j hj1).2⟩
        · by_cases hj2 : j ∈ sl'
          · exact p2.bor rfl j hj2
          · rw [(p2.out j hj2).2]
            exact p1.bor rfl j ((List.mem_append.mp hj).resolve_right hj2)
def TgLen (t : Tgts) (n : Nat) : Prop := ∀ is ds ρ, t is ds ρ ≠ none → ds.length = n
theorem tgLen_nil : TgLen tgNil 0 := fun is ds ρ h => by
  cases ds with
  | nil => rfl
  | cons _ _ => exact absurd rfl h
theorem tgLen_cons {t : Tgt} {u : Tgts} {n : Nat} (h : TgLen u n) : TgLen (tgCons t u) (n + 1) := fun is ds ρ q => by
  cases ds with
  | nil => exact absurd rfl q
  | cons d ds =>
    have q : (t (.bor is) d ρ).bind (fun ρ' => u is ds ρ') ≠ none := q
    cases ht : t (.bor is) d ρ with
    | none => rw [ht] at q; exact absurd rfl q
    | some ρ1 => rw [ht] at q; rw [List.length_cons, h is ds ρ1 q]
theorem g_tup {es : List Expr} {k : Nat} {t : Tgts} {n : Nat} {sl : List Nat} (hc : X.calm = true) (hl : TgLen t n) (h : PGs X es (tGs X.K sl t))
    (hn : (assignEach es X.env).length = n := by rfl) (hst : (assignEach es X.env).findIdx? (·.1) = none := by rfl) : PG X (.Tuple es k pos) (tG X.K sl (tgT t)) := by
  refine pgI (pg_tupL hc h hn hst) fun v σ H Q ⟨A, H0, Hb, F, G, ρ, kk, d, f, sr, s, r, o, q⟩ => ?_
  have bk := o.bok sr
  have fin : ∀ ds vs g, Reps X.K H ds vs g → (∀ b ∈ g, b ∈ f) → (match t kk.is ds ρ with
      | some ρ' => ∀ σ' F', TP X.K A H0 Hb H F F' G ρ' σ σ' sl kk.isB → Q σ' H
      | none => False) → vs.length = n ∧ tGs X.K sl t vs σ H Q := fun ds vs g q1 i1 q2 => by
    cases ht : t kk.is ds ρ with
    | none => rw [ht] at q2; exact q2.elim
    | some ρ1 =>
      rw [ht] at q2
      refine ⟨by rw [← q1.length]; exact hl _ _ _ (by rw [ht]; exact fun z => nomatch z), A, H0, F, G, ρ, kk.is, ds, g, sr.same s, q1, fun a ha => bk a (i1 a ha), ?_⟩
      rw [ht]
      intro σ' F' p
      exact q2 σ' F' ⟨p.sr, fun js g hg hb => p.tr js g (fun a ha z => hg a ha (s.free z)) hb, p.len, p.out, fun _ => p.bor rfl⟩
  cases d with
  | tup ds =>
    obtain ⟨a, vs, rfl, t1, q1⟩ := r.tupI
    obtain ⟨e1, e2⟩ := fin ds vs f q1 (fun _ h => h) q
    exact ⟨a, vs, rfl, .inl (.of t1), e1, e2⟩
  | lst ds =>
    obtain ⟨a, vs, g, rfl, t1, q1, i1, n1⟩ := r.lstI
    obtain ⟨e1, e2⟩ := fin ds vs g q1 i1 q
    exact ⟨a, vs, rfl, .inr t1, e1, e2⟩
  | _ => exact q.elim
end
end Cz
set_option maxHeartbeats 1000000
namespace Cz
open PySem PySem.Spec PyProof.Rows L2
abbrev SI := Env → R (Kd × List D)
def Gh (K : PySem.W.Frag) (H : Hp) (P : Addr → Prop) (gh : List (D × V)) : Prop := ∀ p ∈ gh, ∃ f, Rep K H p.1 p.2 f ∧ ∀ a ∈ f, P a
structure IterOk (K : PySem.W.Frag) (J : It) (ds : List D) (gh : List (D × V)) : Prop where
  go : ∀ H P i, i < ds.length → Gh K H P gh → J.go i H
  stop : ∀ H P, Gh K H P gh → J.stop ds.length H
  yld : ∀ H P i x H', i < ds.length → Gh K H P gh → J.yld i H x H' → Same H H' ∧ ∃ d f, ds[i]? = some d ∧ Rep K H' d x f ∧ ∀ a ∈ f, P a
def tI (K : PySem.W.Frag) (CA : String → Addr) (W : WX) (s : SI) : TI := fun σ H R =>
  ∃ A H0 F G ρ, SR K A H0 F G ρ σ H ∧ Post K CA W σ H (s ρ) fun kds => ∀ J H1 gh, Same H H1 → IterOk K J kds.2 gh → Gh K H1 (fun a => (∃ j ∈ kds.1.is, a ∈ F j) ∨ Sh A H0 F a) gh → R J H1
theorem Gh.same {K : PySem.W.Frag} {H H' : Hp} {P : Addr → Prop} {gh : List (D × V)} (h : Gh K H P gh) (s : Same H H') : Gh K H' P gh := fun p hp => let ⟨f, h1, h2⟩ := h p hp; ⟨f, h1.same s, h2⟩
def iSeq (K : PySem.W.Frag) (tl : TE) : TI := fun σ H R => tl σ H fun x H1 => (∃ a, x = .ref a ∧ (∃ xs, SqL K H1 a xs) ∧ R (Itl K a) H1) ∨ (∃ a, x = .ref a ∧ (∃ xs, SqT K H1 a xs) ∧ R (Itt K a) H1) ∨ (∃ z, x = .str z ∧ R (Its z) H1)
theorem pi_seq {X : Cx} {tg l : Expr} {tl : TE} (hl : PE X l tl) : PI X tg l (iSeq X.K tl) := by
  refine ⟨fun pins s σ H R I h => ?_⟩
  refine thn (hl.run pins s σ H _ I h) fun v s1 ⟨x, H1, I1, r1, q1⟩ => ?_
  rcases q1 with ⟨a, e, ⟨xs, hq⟩, q⟩ | ⟨a, e, ⟨xs, hq⟩, q⟩ | ⟨z, e, q⟩
  · subst e
    cases r1
    obtain ⟨its, rv, p, hz⟩ := I1.list hq
    refine wpAny_pyIter_list p.isList ?_
    refine ⟨s1.heap.objs.size, [s1.heap.objs.size], _, _, H1, rfl, I1.kept (t' := s1.toks) fun b o e => Heap.get?_push_of_some _ e, turn_list a _, ⟨_, Heap.get?_push_size _ rfl, rfl, rfl⟩, fun b hb => ?_, q⟩
    have e : b = s1.heap.objs.size := by simpa using hb
    subst e
    exact I1.fpOk (Nat.le_refl _) (I1.hok.fresh (Nat.le_refl _))
  · subst e
    cases r1
    obtain ⟨its, rv, p, hz⟩ := I1.tuple hq
    refine wpAny_pyIter_tuple (show s1.heap.IsTuple a its.toArray from p) ?_
    refine ⟨s1.heap.objs.size, [s1.heap.objs.size], _, _, H1, rfl, I1.kept (t' := s1.toks) fun b o e => Heap.get?_push_of_some _ e, turn_tuple a _, ⟨_, Heap.get?_push_size _ rfl, rfl, rfl⟩, fun b hb => ?_, q⟩
    have e : b = s1.heap.objs.size := by simpa using hb
    subst e
    exact I1.fpOk (Nat.le_refl _) (I1.hok.fresh (Nat.le_refl _))
  · subst e
    obtain ⟨t, rfl⟩ := r1
    cases ha : z.cps.all (· < 128)
    · exact wpAny_pyIter_wide ha (pi_one (tk := s1.toks) I1 _ (turn_str _ z t "str_iterator" (.inr rfl)) ⟨_, Heap.get?_push_size _ rfl, rfl, rfl⟩ q)
    · exact wpAny_pyIter_ascii ha (pi_one (tk := s1.toks) I1 _ (turn_str _ z t "str_ascii_iterator" (.inl rfl)) ⟨_, Heap.get?_push_size _ rfl, rfl, rfl⟩ q)
def seqI (s : SE) : SI := fun ρ => (s ρ).bind fun x => match x.2 with
  | .lst ds => .ok (x.1, ds)
  | .scr ds => .ok (x.1, ds)
  | .tup ds => .ok (x.1, ds)
  | .str z => .ok (.own, z.cps.toList.map fun c => .str ⟨#[c]⟩)
  | _ => .st
section
variable {K : PySem.W.Frag}
theorem iter_lst {ds : List D} {a : Addr} : IterOk K (Itl K a) ds [(.lst ds, .ref a)] := by
  have get : ∀ {H P}, Gh K H P [(.lst ds, .ref a)] → ∃ vs g, SqL K H a vs ∧ Reps K H ds vs g ∧ ∀ b ∈ g, P b := fun {H P} h => by
    obtain ⟨f, r, hp⟩ := h _ List.mem_cons_self
    obtain ⟨a', vs, g, e, t, q, i, n⟩ := r.lstI
    cases e
    exact ⟨vs, g, t, q, fun b hb => hp b (i b hb)⟩
  refine ⟨fun H P i hi h => ?_, fun H P h => ?_, fun H P i x H' hi h y => ?_⟩
  · obtain ⟨vs, g, t, q, _⟩ := get h
    have hv : i < vs.length := by rw [← q.length]; exact hi
    exact ⟨vs, vs[i], t, by simp [hv]⟩
  · obtain ⟨vs, g, t, q, _⟩ := get h
    exact ⟨vs, t, by rw [q.length]; exact Nat.le_refl _⟩
  · obtain ⟨vs, g, t, q, hp⟩ := get h
    obtain ⟨e, y⟩ := y
    subst e
    obtain ⟨v, g', h1, h2, h3, _⟩ := q.get (i := i) (d := ds[i]) (by simp [hi])
    rw [y vs t] at h1
    cases h1
    exact ⟨Same.refl _, ds[i], g', by simp [hi], h2, fun b hb => hp b (h3 b hb)⟩
theorem iter_scr {ds : List D} {a : Addr} : IterOk K (Itl K a) ds [(.scr ds, .ref a)] := by
  have get : ∀ {H P}, Gh K H P [(.scr ds, .ref a)] → ∃ vs g, SqL K H a vs ∧ Reps K H ds vs g ∧ ∀ b ∈ g, P b := fun {H P} h => by
    obtain ⟨f, r, hp⟩ := h _ List.mem_cons_self
    obtain ⟨a', vs, g, e, t, q, i, n⟩ := r.scrI
    cases e
    exact ⟨vs, g, t, q, fun b hb => hp b (i b hb)⟩
  refine ⟨fun H P i hi h => ?_, fun H P h => ?_, fun H P i x H' hi h y => ?_⟩
  · obtain ⟨vs, g, t, q, _⟩ := get h
    have hv : i < vs.length := by rw [← q.length]; exact hi
    exact ⟨vs, vs[i], t, by simp [hv]⟩
  · obtain ⟨vs, g, t, q, _⟩ := get h
    exact ⟨vs, t, by rw [q.length]; exact Nat.le_refl _⟩
  · obtain ⟨vs, g, t, q, hp⟩ := get h
    obtain ⟨e, y⟩ := y
    subst e
    obtain ⟨v, g', h1, h2, h3, _⟩ := q.get (i := i) (d := ds[i]) (by simp [hi])
    rw [y vs t] at h1
    cases h1
    exact ⟨Same.refl _, ds[i], g', by simp [hi], h2, fun b hb => hp b (h3 b hb)⟩
theorem iter_tup {ds : List D} {a : Addr} : IterOk K (Itt K a) ds [(.tup ds, .ref a)] := by
  have get : ∀ {H P}, Gh K H P [(.tup ds, .ref a)] → ∃ vs g, SqT K H a vs ∧ Reps K H ds vs g ∧ ∀ b ∈ g, P b := fun {H P} h => by
    obtain ⟨f, r, hp⟩ := h _ List.mem_cons_self
    obtain ⟨a', vs, e, t, q⟩ := r.tupI
    cases e
    exact ⟨vs, f, .of t, q, hp⟩
  refine ⟨fun H P i hi h => ?_, fun H P h => ?_, fun H P i x H' hi h y => ?_⟩
  · obtain ⟨vs, g, t, q, _⟩ := get h
    have hv : i < vs.length := by rw [← q.length]; exact hi
    exact ⟨vs, vs[i], t, by simp [hv]⟩
  · obtain ⟨vs, g, t, q, _⟩ := get h
    exact ⟨vs, t, by rw [q.length]; exact Nat.le_refl _⟩
  · obtain ⟨vs, g, t, q, hp⟩ := get h
    obtain ⟨e, y⟩ := y
    subst e
    obtain ⟨v, g', h1, h2, h3, _⟩ := q.get (i := i) (d := ds[i]) (by simp [hi])
    rw [y vs t] at h1
    cases h1
    exact ⟨Same.refl _, ds[i], g', by simp [hi], h2, fun b hb => hp b (h3 b hb)⟩
theorem iter_str {z : Str} : IterOk K (Its z) (z.cps.toList.map fun c => .str ⟨#[c]⟩) [] := by
  refine ⟨fun H P i hi h => ?_, fun H P h => ?_, fun H P i x H' hi h y => ?_⟩
  · have hi : i < z.cps.size := by simpa using hi
    exact hi
  · show z.cps.size ≤ _
    simp
  · obtain ⟨e, c, hc, ex⟩ := y
    subst e; subst ex
    exact ⟨Same.refl _, _, [], by simp [hc], .str _, fun _ q => nomatch q⟩
theorem Gh.one {H : Hp} {P : Addr → Prop} {d : D} {v : V} {f : List Addr} (r : Rep K H d v f) (h : ∀ a ∈ f, P a) : Gh K H P [(d, v)] := fun p hp => by
  rw [List.mem_singleton.mp hp]; exact ⟨f, r, h⟩
end
section
variable {X : Cx} {CA : String → Addr} {W : WX} {pos p : Pos} {tg e a b : Expr} {sa sb : SE}
theorem piI {iter : Expr} {t t' : TI} (h : PI X tg iter t) (k : ∀ σ H R, t' σ H R → t σ H R) : PI X tg iter t' := ⟨fun pins s σ H R I q => h.run pins s σ H R I (k σ H R q)⟩
theorem i_seq (ha : PE X e (tE X.K CA W sa)) : PI X tg e (tI X.K CA W (seqI sa)) := by
  refine piI (pi_seq ha) fun σ H R ⟨A, H0, F, G, ρ, sr, h⟩ => ?_
  refine ⟨A, H0, F, G, ρ, sr, h.bind fun ⟨k, d⟩ h1 => ?_⟩
  intro v H1 f s1 r o
  cases d with
  | lst ds =>
    obtain ⟨a, vs, g, rfl, t, q, i1, n1⟩ := id r.lstI
    exact .inl ⟨a, rfl, ⟨vs, t⟩, h1 _ _ _ s1 iter_lst (Gh.one r (o.bok sr))⟩
  | scr ds =>
    obtain ⟨a, vs, g, rfl, t, q, i1, n1⟩ := id r.scrI
    exact .inl ⟨a, rfl, ⟨vs, t⟩, h1 _ _ _ s1 iter_scr (Gh.one r (o.bok sr))⟩
  | tup ds =>
    obtain ⟨a, vs, rfl, t, q⟩ := id r.tupI
    exact .inr (.inl ⟨a, rfl, ⟨vs, .of t⟩, h1 _ _ _ s1 iter_tup (Gh.one r (o.bok sr))⟩)
  | str z =>
    cases r
    exact .inr (.inr ⟨z, rfl, h1 _ _ _ s1 iter_str (fun p hp => nomatch hp)⟩)
  | _ => exact h1.elim
noncomputable def rgOk (i : Int) : Bool := @decide (-(2 ^ 62) ≤ i) (Classical.propDecidable _) && @decide (i < 2 ^ 62) (Classical.propDecidable _)
def rng (lo : Int) (n : Nat) : List D := (List.range n).map fun (i : Nat) => .int (lo + (i : Int))
theorem rgOk_lo {i : Int} (h : rgOk i = true) : -(2 ^ 62) ≤ i := @of_decide_eq_true _ (Classical.propDecidable _) (Bool.and_eq_true_iff.mp h).1
theorem rgOk_hi {i : Int} (h : rgOk i = true) : i < 2 ^ 62 := @of_decide_eq_true _ (Classical.propDecidable _) (Bool.and_eq_true_iff.mp h).2
noncomputable def rng1I (a : SE) : SI := fun ρ => (a ρ).bind fun x => match x.2 with
  | .int j => if rgOk j = true then .ok (.own, rng 0 j.toNat) else .st
  | _ => .st
noncomputable def rng2I (a b : SE) : SI := fun ρ => (a ρ).bind fun x => (b ρ).bind fun y => match x.2, y.2 with
  | .int i, .int j => if (rgOk i && rgOk j) = true then .ok (.own, rng i (j - i).toNat) else .st
  | _, _ => .st
theorem iter_rng {K : PySem.W.Frag} {lo : Int} {n : Nat} : IterOk K (Itr lo n) (rng lo n) [] := by
  refine ⟨fun H P i hi h => ?_, fun H P h => ?_, fun H P i x H' hi h y => ?_⟩
  · show i < n
    simpa [rng] using hi
  · show n ≤ _
    simp [rng]
  · obtain ⟨e, ex⟩ := y
    subst e; subst ex
    have hi : i < n := by simpa [rng] using hi
    exact ⟨Same.refl _, .int (lo + i), [], by simp [rng, hi], .int _, fun _ q => nomatch q⟩
theorem i_rng1 (hm : X.mg "range" = none) (ha : PE X a (tE X.K CA W sa)) (hg : Gl X "range" := by rfl) (hs : starEach [a] X.env = [(false, eval a X.env)] := by rfl) : PI X tg (.Call (.Name "range" p) [a] [] pos) (tI X.K CA W (rng1I sa)) := by
  refine piI (pi_range1 hg hm (pa_cons ha pa_nil hs) hs) fun σ H R ⟨A, H0, F, G, ρ, sr, h⟩ => ?_
  refine ⟨A, H0, F, G, ρ, sr, h.bind fun ⟨k, d⟩ h1 => ?_⟩
  intro v H1 f s1 r o
  cases d with
  | int j =>
    cases r
    obtain ⟨hz, h2⟩ := h1.ite
    exact ⟨j, rfl, rgOk_lo hz, rgOk_hi hz, h2 _ _ _ s1 iter_rng (fun p hp => nomatch hp)⟩
  | _ => exact h1.elim
theorem i_rng2 (hm : X.mg "range" = none) (ha : PE X a (tE X.K CA W sa)) (hb : PE X b (tE X.K CA W sb)) (hg : Gl X "range" := by rfl) (hs : starEach [a, b] X.env = [(false, eval a X.env), (false, eval b X.env)] := by rfl) (hs2 : starEach [b] X.env = [(false, eval b X.env)] := by rfl) :
    PI X tg (.Call (.Name "range" p) [a, b] [] pos) (tI X.K CA W (rng2I sa sb)) := by
  refine piI (pi_range2 hg hm (pa_cons ha (pa_cons hb pa_nil hs2) (by rw [hs, hs2])) hs hs2) fun σ H R ⟨A, H0, F, G, ρ, sr, h⟩ => ?_
  refine ⟨A, H0, F, G, ρ, sr, h.bind fun ⟨k, d⟩ h1 => ?_⟩
  intro v H1 f s1 r o
  refine ⟨A, H0, F, G, ρ, sr.same s1, (h1.later s1).bind fun ⟨k2, d2⟩ h2 => ?_⟩
  intro v2 H2 f2 s2 r2 o2
  cases d with
  | int i =>
    cases d2 with
    | int j =>
      cases r; cases r2
      obtain ⟨hz, h3⟩ := h2.ite
      have hz' := Bool.and_eq_true_iff.mp hz
      exact ⟨i, j, rfl, ⟨rgOk_lo hz'.1, rgOk_hi hz'.1, rgOk_lo hz'.2, rgOk_hi hz'.2⟩, h3 _ _ _ (s1.trans s2) iter_rng (fun p hp => nomatch hp)⟩
    | _ => exact h2.elim
  | _ => cases d2 <;> exact h2.elim
end
def notOw (ρ : Env) (i : Nat) : Bool := decide (i < ρ.length) && match ρ[i]? with
  | some (.ow _) => false
  | _ => true
def wipE (ρ : Env) : List Nat → Env
  | [] => ρ
  | v :: vs => (wipE ρ vs).set v .no
def yesT : STs := fun _ => .ok true
def lcL (tg : Tgt) (ifs : STs) (elt : SE) (k : Kd) (ρ : Env) : List D → R (List KD)
  | [] => .ok []
  | d :: ds => match tg (.bor k.is) d ρ with
    | none => .st
    | some ρ1 => (ifs ρ1).bind fun b => if b = true then (elt ρ1).bind fun x => (lcL tg ifs elt k ρ ds).bind fun xs => .ok (x :: xs) else lcL tg ifs elt k ρ ds
def noex {α : Type} : R α → R α
  | .ok a => .ok a
  | _ => .st
def lcE (it : SI) (own : List Nat) (tg : Tgt) (ifs : STs) (elt : SE) : SE := fun ρ => (it ρ).bind fun kds =>
  if own.all (notOw ρ) = true ∧ kds.2.length ≤ LIM then (noex (lcL tg ifs elt kds.1 (wipE ρ own) kds.2)).bind fun xs => .ok (lk (jn xs) (xs.map (·.2)), .lst (xs.map (·.2))) else .st
section
variable {K : PySem.W.Frag} {A : Addr → Prop} {H0 H H1 : Hp} {F : Nat → List Addr} {G : List (D × V)} {ρ : Env} {σ : L2.St}
theorem Kd.join_assoc (a b c : Kd) : (a.join b).join c = a.join (b.join c) := by
  cases a <;> cases b <;> cases c <;> simp [Kd.join, Kd.is]
theorem jn_app : ∀ xs ys : List KD, jn (xs ++ ys) = (jn xs).join (jn ys)
  | [], ys => by
    show jn ys = Kd.join .own (jn ys)
    cases jn ys with
    | own => rfl
    | bor is => rfl
  | x :: xs, ys => by
    show (nk x.1 x.2).join (jn (xs ++ ys)) = ((nk x.1 x.2).join (jn xs)).join (jn ys)
    rw [jn_app xs ys, Kd.join_assoc]
theorem jn_one' (x : KD) : jn [x] = nk x.1 x.2 := Kd.join_own _
theorem Kd.join_is (a b : Kd) : (a.join b).is = a.is ++ b.is := by cases a <;> cases b <;> simp [Kd.join, Kd.is]
theorem jn_is : ∀ {xs : List KD} {x : KD}, x ∈ xs → ∀ j ∈ (nk x.1 x.2).is, j ∈ (jn xs).is
  | y :: xs, x, h, j, hj => by
    show j ∈ ((nk y.1 y.2).join (jn xs)).is
    rw [Kd.join_is]
    rcases List.mem_cons.mp h with e | h
    · subst e; exact List.mem_append_left _ hj
    · exact List.mem_append_right _ (jn_is h j hj)
theorem SR.setNo (sr : SR K A H0 F G ρ σ H) (i : Nat) (h : notOw ρ i = true) : SR K A H0 F G (ρ.set i .no) (σ.set i none) H := by
  have hl : i < ρ.length := of_decide_eq_true (Bool.and_eq_true_iff.mp h).1
  refine ⟨by rw [List.length_set, List.length_set]; exact sr.len, sr.fr, sr.own, sr.dis, fun j d e => ?_, fun j is d e => ?_, sr.gho, fun j hj hn => ?_, sr.fin, sr.tbS (hasT_set rfl) fun _ _ e _ => e⟩
  · by_cases h : i = j
    · subst h; rw [List.getElem?_set_self hl] at e; cases e
    · rw [List.getElem?_set_ne h] at e; rw [List.getElem?_set_ne h]; exact sr.slo j d e
  · by_cases h : i = j
    · subst h; rw [List.getElem?_set_self hl] at e; cases e
    · rw [List.getElem?_set_ne h] at e; rw [List.getElem?_set_ne h]; exact sr.slb j is d e
  · rw [List.length_set] at hj
    obtain ⟨d, e⟩ := sr.emp j hj hn
    by_cases h' : i = j
    · subst h'
      have := (Bool.and_eq_true_iff.mp h).2
      rw [e] at this
      cases this
    · exact ⟨d, by rw [List.getElem?_set_ne h']; exact e⟩
theorem notOw_set {ρ : Env} {i j : Nat} (h : notOw ρ i = true) : notOw (ρ.set j .no) i = true := by
  obtain ⟨h1, h2⟩ := Bool.and_eq_true_iff.mp h
  refine Bool.and_eq_true_iff.mpr ⟨by rw [List.length_set]; exact h1, ?_⟩
  by_cases e : j = i
  · subst e; rw [List.getElem?_set_self (of_decide_eq_true h1)]
  · rw [List.getElem?_set_ne e]; exact h2
theorem notOw_wip {ρ : Env} {i : Nat} (h : notOw ρ i = true) : ∀ vs : List Nat, notOw (wipE ρ vs) i = true
  | [] => h
  | v :: vs => notOw_set (notOw_wip h vs)
theorem SR.wip (sr : SR K A H0 F G ρ σ H) : ∀ own : List Nat, own.all (notOw ρ) = true → SR K A H0 F G (wipE ρ own) (wipe σ own) H
  | [], _ => sr
  | v :: vs, h => by
    rw [List.all_cons, Bool.and_eq_true] at h
    exact (sr.wip vs h.2).setNo v (notOw_wip h.1 vs)
theorem wipE_len (ρ : Env) : ∀ vs : List Nat, (wipE ρ vs).length = ρ.length
  | [] => rfl
  | v :: vs => by unfold wipE; rw [List.length_set, wipE_len ρ vs]
theorem wipe_in {σ : L2.St} {i : Nat} : ∀ {vs : List Nat}, i ∈ vs → i < σ.length → (wipe σ vs)[i]? = some none
  | v :: vs, h, hl => by
    unfold wipe
    by_cases e : v = i
    · subst e; rw [List.getElem?_set_self (by rw [wipe_length]; exact hl)]
    · rw [List.getElem?_set_ne e]
      rcases List.mem_cons.mp h with q | q
      · exact absurd q.symm e
      · exact wipe_in q hl
theorem wipe_eq {σ σ' : L2.St} {vs : List Nat} (hl : σ'.length = σ.length) (h : ∀ j, j ∉ vs → σ'[j]? = (wipe σ vs)[j]?) : wipe σ' vs = wipe σ vs := by
  refine List.ext_getElem? fun j => ?_
  by_cases hj : j ∈ vs
  · by_cases hjl : j < σ.length
    · rw [wipe_in hj hjl, wipe_in hj (by rw [hl]; exact hjl)]
    · rw [List.getElem?_eq_none (by rw [wipe_length]; omega), List.getElem?_eq_none (by rw [wipe_length]; omega)]
  · rw [wipe_out hj, h j hj]
theorem SR.hid {L : Nat} {Dn : Addr} {xs : List V} (sr : SR K A H0 F G ρ σ H) (hD : H Dn = none) (hL : ρ.length ≤ L) (hF : F L = []) : SR K A H0 (updF F L [Dn]) G ρ σ (upd H Dn (.lst xs)) := by
  have s := same_upd (o := .lst xs) hD
  have sr1 := sr.same s
  have hn : ∀ b ∈ [Dn], H b = none := fun b hb => by rw [List.mem_singleton.mp hb]; exact hD
  have ne : ∀ {i : Nat} {x : Sl}, ρ[i]? = some x → i ≠ L := fun {i x} e => by
    have := (List.getElem?_eq_some_iff.mp e).1
    omega
  refine ⟨sr.len, sr1.fr, fun j => ?_, fun j m a hj hm => ?_, fun i d e => ?_, fun i is d e => ?_, fun p hp => ?_, fun i hi hn' => ?_, fin_upd sr.fin, sr1.tb⟩
  · by_cases e : j = L
    · subst e; rw [updF_same]
      refine ⟨List.nodup_cons.mpr ⟨by simp, List.nodup_nil⟩, fun a ha => ?_⟩
      rw [List.mem_singleton.mp ha]
      exact ⟨sr.fr.free hD, ⟨by rw [upd_same]; trivial⟩⟩
    · rw [updF_ne e]; exact sr1.own j
  · by_cases e : j = L
    · by_cases e' : m = L
      · rw [e, e']
      · rw [e, updF_same] at hj; rw [updF_ne e'] at hm
        exact absurd (hn a hj) ((sr.own m).2 a hm).2.ne
    · by_cases e' : m = L
      · rw [e', updF_same] at hm; rw [updF_ne e] at hj
        exact absurd (hn a hm) ((sr.own j).2 a hj).2.ne
      · rw [updF_ne e] at hj; rw [updF_ne e'] at hm; exact sr.dis j m a hj hm
  · rw [updF_ne (ne e)]; exact sr1.slo i d e
  · obtain ⟨v, f, h1, h2, h3⟩ := sr.slb i is d e
    exact ⟨v, f, h1, h2.same s, h3.upd sr hn h2.trk⟩
  · obtain ⟨f, h1, h2⟩ := sr.gho p hp
    exact ⟨f, h1.same s, fun a ha => (h2 a ha).upd sr hn (h1.trk a ha)⟩
  · rw [updF_ne (by omega)] at hn'; exact sr.emp i hi hn'
theorem SR.mutH {L : Nat} {Dn : Addr} {xs ys : List V} (sr : SR K A H0 F G ρ σ H) (hD : H Dn = some (.lst xs)) (hF : Dn ∈ F L) (hL : ρ.length ≤ L) (hi : ∀ (i : Nat) is d, ρ[i]? = some (.bo is d) → L ∉ is) : SR K A H0 F G ρ σ (upd H Dn (.lst ys)) := by
  have nt : ∀ b o, H b = some o → IsT o → (upd H Dn (.lst ys)) b = some o := fun b o e t => by
    by_cases h : b = Dn
    · subst h; rw [hD] at e; cases e; exact t.elim
    · rw [upd_ne h]; exact e
  have kp : ∀ {f : List Addr}, Dn ∉ f → ∀ a ∈ f, ∀ o, H a = some o → (upd H Dn (.lst ys)) a = some o := fun {f} hf a ha o e => by
    have hne : a ≠ Dn := fun z => hf (by rw [← z]; exact ha)
    rw [upd_ne hne]; exact e
  have shn : ∀ {a : Addr}, Sh A H0 F a → a ≠ Dn := fun {a} h z => h.2 L (z ▸ hF)
  refine ⟨sr.len, fun b o e => ?_, fun j => ⟨(sr.own j).1, fun a ha => ⟨((sr.own j).2 a ha).1, ?_⟩⟩, sr.dis, fun i d e => ?_, fun i is d e => ?_, fun p hp => ?_, sr.emp, sr.fin, sr.tbS id fun b o e t => by
    have hb : b ≠ Dn := fun z => by subst z; exact sr.teF hF e t
    rw [upd_ne hb]; exact e⟩
  · have hb : b ≠ Dn := fun z => by subst z; rw [((sr.own L).2 b hF).1] at e; cases e
    rw [upd_ne hb]; exact sr.fr b o e
  · by_cases h : a = Dn
    · subst h; exact ⟨by rw [upd_same]; trivial⟩
    · rw [upd_ne h]; exact ((sr.own j).2 a ha).2
  · obtain ⟨v, h1, h2⟩ := sr.slo i d e
    have hil := (List.getElem?_eq_some_iff.mp e).1
    exact ⟨v, h1, h2.frame nt (kp fun z => absurd (sr.dis i L Dn z hF) (by omega))⟩
  · obtain ⟨v, f, h1, h2, h3⟩ := sr.slb i is d e
    refine ⟨v, f, h1, h2.frame nt (kp fun z => ?_), h3⟩
    rcases h3 Dn z with ⟨j, hj, q⟩ | q
    · exact hi i is d e ((sr.dis j L Dn q hF) ▸ hj)
    · exact shn q rfl
  · obtain ⟨f, h1, h2⟩ := sr.gho p hp
    exact ⟨f, h1.frame nt (kp fun z => shn (h2 Dn z) rfl), h2⟩
end
theorem slotsMax (ρ : Env) : ∃ L, ∀ (i : Nat) is d, ρ[i]? = some (.bo is d) → ∀ j ∈ is, j < L := by
  induction ρ with
  | nil => exact ⟨0, fun i is d e => by simp at e⟩
  | cons s ρ ih =>
    obtain ⟨L, h⟩ := ih
    have m : ∀ is : List Nat, ∃ M, ∀ j ∈ is, j < M := fun is => by
      induction is with
      | nil => exact ⟨0, fun j hj => nomatch hj⟩
      | cons a is ih =>
        obtain ⟨M, h⟩ := ih
        refine ⟨max M (a + 1), fun j hj => ?_⟩
        rcases List.mem_cons.mp hj with e | hj
        · subst e; omega
        · have := h j hj; omega
    cases s with
    | bo is d =>
      obtain ⟨M, hM⟩ := m is
      refine ⟨max L M, fun i is' d' e j hj => ?_⟩
      cases i with
      | zero => simp at e; obtain ⟨e1, _⟩ := e; subst e1; have := hM j hj; omega
      | succ i => have := h i is' d' (by simpa using e) j hj; omega
    | no => exact ⟨L, fun i is d e => by cases i with | zero => simp at e | succ i => exact h i is d (by simpa using e)⟩
    | tb => exact ⟨L, fun i is d e => by cases i with | zero => simp at e | succ i => exact h i is d (by simpa using e)⟩
    | ow d0 => exact ⟨L, fun i is d e => by cases i with | zero => simp at e | succ i => exact h i is d (by simpa using e)⟩
theorem natsMax (is : List Nat) : ∃ M, ∀ j ∈ is, j < M := by
  induction is with
  | nil => exact ⟨0, fun j hj => nomatch hj⟩
  | cons a is ih =>
    obtain ⟨M, h⟩ := ih
    refine ⟨max M (a + 1), fun j hj => ?_⟩
    rcases List.mem_cons.mp hj with e | hj
    · subst e; omega
    · have := h j hj; omega
end Cz
set_option maxHeartbeats 1000000
namespace Cz
open PySem PySem.Spec PyProof.Rows L2
abbrev W0 : WX := fun _ _ _ _ => False
theorem ptsI {X : Cx} {ifs : List Expr} {t t' : TT} (h : PTs X ifs t) (k : ∀ σ H Q, t' σ H Q → t σ H Q) : PTs X ifs t' := ⟨fun pins s σ H Q I q => h.run pins s σ H Q I (k σ H Q q)⟩
theorem ts_nil {X : Cx} {CA : String → Addr} {W : WX} : PTs X [] (tT X.K CA W yesT) := ptsI pts_nil fun σ H Q ⟨A, H0, F, G, ρ, sr, h⟩ => h H (Same.refl H)
theorem ts_one {X : Cx} {CA : String → Addr} {W : WX} {c : Expr} {t : STs} (h : PT X c (tT X.K CA W t)) : PTs X [c] (tT X.K CA W t) := pts_one h
section
variable {K : PySem.W.Frag} {A : Addr → Prop} {H0 H : Hp} {F : Nat → List Addr} {G : List (D × V)} {ρ : Env} {σ : L2.St} {CA : String → Addr} {Q : VK}
theorem lc_loop {J : It} {H1 : Hp} {gh : List (D × V)} {k : Kd} {ds : List D} {own sl : List Nat} {tg : Tgt} {ifs : STs} {elt : SE} {total : List KD} {Dn : Addr} (sr : SR K A H0 F G ρ σ H) (s1 : Same H H1) (it : IterOk K J ds gh)
    (gk : Gh K H1 (fun a => (∃ j ∈ k.is, a ∈ F j) ∨ Sh A H0 F a) gh) (hown : own.all (notOw ρ) = true) (hlen : ds.length ≤ LIM) (hsl : ∀ j ∈ sl, j ∈ own) (ht : lcL tg ifs elt k (wipE ρ own) ds = .ok total)
    (hq : Cont K A H0 F H (lk (jn total) (total.map (·.2)), .lst (total.map (·.2))) Q) (nD : H1 Dn = none) :
    ∃ W : Nat → Nat → Hp → Prop, (∃ m, W 0 m (upd H1 Dn (.lst []))) ∧ ∀ i m H, W i m H →
      (J.stop i H ∧ Q (.ref Dn) H) ∨ (J.go i H ∧ ∃ Nx : Hp → Prop, (∀ H', Nx H' → ∃ m', m' < m ∧ W (i + 1) m' H') ∧ ∀ x H', J.yld i H x H' → tG K sl tg x (wipe σ own) H' fun σ2 H2 => wipe σ2 own = wipe σ own ∧ tT K CA W0 ifs σ2 H2 fun b H3 =>
        if b = true then tE K CA W0 elt σ2 H3 fun y H4 => ∃ acc, H4 Dn = some (.lst acc) ∧ acc.length < sizeLine ∧ Nx (upd H4 Dn (.lst (acc ++ [y]))) else Nx H3) := by
  -- a hidden owner
  obtain ⟨L0, hL0⟩ := sr.fin
  obtain ⟨L1, hL1⟩ := slotsMax (wipE ρ own)
  obtain ⟨L2, hL2⟩ := natsMax (jn total).is
  obtain ⟨L3, hL3⟩ := natsMax k.is
  obtain ⟨L, hLe⟩ : ∃ L, L = max (max L0 L1) (max L2 (max L3 ρ.length)) := ⟨_, rfl⟩
  have hFL : F L = [] := hL0 L (by omega)
  have hLr : ρ.length ≤ L := by omega
  have hLt : L ∉ (jn total).is := fun z => by have := hL2 L z; omega
  have hLk : L ∉ k.is := fun z => by have := hL3 L z; omega
  have hLs : ∀ (i : Nat) is d, (wipE ρ own)[i]? = some (.bo is d) → L ∉ is := fun i is d e z => by have := hL1 i is d e L z; omega
  have srw := (sr.same s1).wip own hown
  have hLw : (wipE ρ own).length ≤ L := by rw [wipE_len]; exact hLr
  have sD := same_upd (o := .lst []) nD
  have srD : SR K A H0 (updF F L [Dn]) G (wipE ρ own) (wipe σ own) (upd H1 Dn (.lst [])) := srw.hid nD hLw hFL
  have hDn : ∀ b ∈ [Dn], H1 b = none := fun b hb => by rw [List.mem_singleton.mp hb]; exact nD
  have inD : Dn ∈ updF F L [Dn] L := by rw [updF_same]; simp
  -- nodes that are known in F and in the widened F
  have up : ∀ {is : List Nat} {g : List Addr}, (∀ a ∈ g, H1 a ≠ none) → BOk A H0 F is g → BOk A H0 (updF F L [Dn]) is g := fun {is g} h b => b.upd srw hDn h
  have down : ∀ {is : List Nat} {g : List Addr}, L ∉ is → BOk A H0 (updF F L [Dn]) is g → BOk A H0 F is g := fun {is g} h b a ha => by
    rcases b a ha with ⟨j, hj, q⟩ | q
    · have hjL : j ≠ L := fun z => h (z ▸ hj)
      rw [updF_ne hjL] at q
      exact .inl ⟨j, hj, q⟩
    · refine .inr ⟨q.1, fun j hj => q.2 j ?_⟩
      by_cases e : j = L
      · subst e; rw [hFL] at hj; cases hj
      · rw [updF_ne e]; exact hj
  have notD : ∀ {kk : Kd} {g : List Addr} {Ha Hb : Hp}, (∀ j ∈ kk.is, j ∈ (jn total).is) → Ha Dn ≠ none → KOk A H0 (updF F L [Dn]) Ha Hb kk g → Dn ∉ g := fun {kk g Ha Hb} hk hD o z => by
    cases kk with
    | own => exact hD (o.2 Dn z).1
    | bor is =>
      rcases o Dn z with ⟨j, hj, q⟩ | q
      · have : j = L := srD.dis j L Dn q inD
        subst this
        exact hLt (hk j hj)
      · exact q.2 L inD
  have ownF : ∀ j ∈ own, F j = [] := fun j hj => by
    have h1 := List.all_eq_true.mp hown j hj
    have hl : j < ρ.length := of_decide_eq_true (Bool.and_eq_true_iff.mp h1).1
    cases hF : F j with
    | nil => rfl
    | cons a as =>
      obtain ⟨d, e⟩ := sr.emp j hl (by rw [hF]; exact fun z => nomatch z)
      have h2 := (Bool.and_eq_true_iff.mp h1).2
      rw [e] at h2
      cases h2
  have ownL : ∀ j ∈ own, j ≠ L := fun j hj z => by
    have h1 := List.all_eq_true.mp hown j hj
    have hl : j < ρ.length := of_decide_eq_true (Bool.and_eq_true_iff.mp h1).1
    omega
  have w : Walk J ds.length (fun H2 => Gh K H2 (fun a => ((∃ j ∈ k.is, a ∈ F j) ∨ Sh A H0 F a) ∧ H1 a ≠ none) gh) (fun i H2 x H' => Same H2 H' ∧ ∃ d f, ds[i]? = some d ∧ Rep K H' d x f ∧ ∀ a ∈ f, ((∃ j ∈ k.is, a ∈ F j) ∨ Sh A H0 F a) ∧ H1 a ≠ none) :=
    ⟨fun i H2 hi g => it.go H2 _ i hi g, fun H2 g => it.stop H2 _ g, fun i H2 x H' hi g y => it.yld H2 _ i x H' hi g y⟩
  have gk' : Gh K H1 (fun a => ((∃ j ∈ k.is, a ∈ F j) ∨ Sh A H0 F a) ∧ H1 a ≠ none) gh := fun p hp => let ⟨f, h1, h2⟩ := gk p hp; ⟨f, h1, fun a ha => ⟨h2 a ha, h1.trk a ha⟩⟩
  refine lc_it w (fun i H2 => ∃ xs rest vs f, lcL tg ifs elt k (wipE ρ own) (ds.drop i) = .ok rest ∧ xs ++ rest = total ∧ H2 Dn = some (.lst vs) ∧ Reps K H2 (xs.map (·.2)) vs f ∧ Dn ∉ f ∧ KOk A H0 (updF F L [Dn]) (upd H1 Dn (.lst [])) H2 (jn xs) f ∧ Same H1 H2 ∧
      SR K A H0 (updF F L [Dn]) G (wipE ρ own) (wipe σ own) H2 ∧ vs.length ≤ i)
    ⟨[], total, [], [], ht, rfl, upd_same, .nil, by simp, KOk.nil _, sD, srD, Nat.le_refl _⟩ (fun i H2 _ ⟨xs, rest, vs, f, _, _, _, _, _, _, sm, _, _⟩ => gk'.same sm) ?_ ?_
  · rintro i x H2 H' hi ⟨xs, rest, vs, f, hl, hx, hD, hr, hDf, hk, sm, srI, hv⟩ ⟨sy, d, f0, hd, r0, b0⟩
    have hdrop : ds.drop i = d :: ds.drop (i + 1) := by
      rw [List.drop_eq_getElem_cons hi]
      congr 1
      rw [List.getElem?_eq_getElem hi] at hd
      exact Option.some.inj hd
    rw [hdrop] at hl
    have hl : (match tg (.bor k.is) d (wipE ρ own) with
      | none => .st
      | some ρ1 => (ifs ρ1).bind fun b => if b = true then (elt ρ1).bind fun x => (lcL tg ifs elt k (wipE ρ own) (ds.drop (i + 1))).bind fun xs => .ok (x :: xs) else lcL tg ifs elt k (wipE ρ own) (ds.drop (i + 1))) = R.ok rest := hl
    have b0' : BOk A H0 (updF F L [Dn]) k.is f0 := up (fun a ha => (b0 a ha).2) fun a ha => (b0 a ha).1
    refine ⟨A, H0, H', updF F L [Dn], G, wipE ρ own, .bor k.is, d, f0, srI.same sy, Same.refl _, r0, b0', ?_⟩
    cases h1 : tg (.bor k.is) d (wipE ρ own) with
    | none => rw [h1] at hl; cases hl
    | some ρ1 =>
      rw [h1] at hl
      intro σ' F' p
      have hF' : F' = updF F L [Dn] := by
        funext j
        by_cases hj : j ∈ sl
        · rw [p.bor rfl j hj, updF_ne (ownL j (hsl j hj)), ownF j (hsl j hj)]
        · exact (p.out j hj).2
      subst hF'
      refine ⟨wipe_eq (by rw [p.len, wipe_length]) (fun j hj => (p.out j fun z => hj (hsl j z)).1), A, H0, _, G, ρ1, p.sr, ?_⟩
      cases h2 : ifs ρ1 with
      | ex c => simp only [h2, R.bind] at hl; cases hl
      | st => simp only [h2, R.bind] at hl; cases hl
      | ok b =>
        simp only [h2, R.bind] at hl
        intro H3 s3
        have sm3 := (sm.trans sy).trans s3
        cases b with
        | false =>
          simp only [Bool.false_eq_true, if_false] at hl ⊢
          exact ⟨xs, rest, vs, f, hl, hx, s3 _ _ (sy _ _ hD), (hr.same sy).same s3, hDf, hk.wide (Same.refl _) (sy.trans s3), sm3, (srI.same sy).same s3, by omega⟩
        | true =>
          simp only [if_true] at hl ⊢
          refine ⟨A, H0, _, G, ρ1, p.sr.same s3, ?_⟩
          cases h3 : elt ρ1 with
          | ex c => simp only [h3] at hl; cases hl
          | st => simp only [h3] at hl; cases hl
          | ok y =>
            simp only [h3] at hl
            cases h4 : lcL tg ifs elt k (wipE ρ own) (ds.drop (i + 1)) with
            | ex c => simp only [h4] at hl; cases hl
            | st => simp only [h4] at hl; cases hl
            | ok rest' =>
              simp only [h4] at hl
              cases hl
              intro yv H4 f4 s4 r4 o4
              have o4 := KOk.nk r4 o4
              have hD3 : H3 Dn = some (.lst vs) := s3 _ _ (sy _ _ hD)
              have hD4 : H4 Dn = some (.lst vs) := s4 _ _ hD3
              have hyt : y ∈ total := by rw [← hx]; simp
              have n4 : Dn ∉ f4 := notD (fun j hj => jn_is hyt j hj) (by rw [hD3]; simp) o4
              have nt : ∀ b o, H4 b = some o → IsT o → (upd H4 Dn (.lst (vs ++ [yv]))) b = some o := fun b o e t => by
                by_cases h : b = Dn
                · subst h; rw [hD4] at e; cases e; exact t.elim
                · rw [upd_ne h]; exact e
              have kp : ∀ {f : List Addr}, Dn ∉ f → ∀ a ∈ f, ∀ o, H4 a = some o → (upd H4 Dn (.lst (vs ++ [yv]))) a = some o := fun {f} hf a ha o e => by
                have hne : a ≠ Dn := fun z => hf (by rw [← z]; exact ha)
                rw [upd_ne hne]; exact e
              have mu : ∀ {a : Addr}, Mu (H4 a) → Mu ((upd H4 Dn (.lst (vs ++ [yv]))) a) := fun {a} h => by
                by_cases e : a = Dn
                · subst e; exact ⟨by rw [upd_same]; trivial⟩
                · rw [upd_ne e]; exact h
              have hr4 := ((hr.same sy).same s3).same s4
              have sr4 := (((srI.same sy).same s3).same s4)
              have hk4 := hk.wide (Same.refl _) ((sy.trans s3).trans s4)
              have trD : ∀ {a : Addr}, H3 a = none → (upd H1 Dn (.lst [])) a = none := fun {a} h => by
                have hne : a ≠ Dn := fun z => by rw [z, hD3] at h; cases h
                rw [upd_ne hne]
                exact sm3.free h
              refine ⟨vs, hD4, by rw [← lim_eq]; omega, xs ++ [y], rest', vs ++ [yv], f ++ f4, rfl, by rw [List.append_assoc]; exact hx, upd_same, ?_, ?_, ?_, ?_, ?_, ?_⟩
              · rw [List.map_append]
                have one : Reps K (upd H4 Dn (.lst (vs ++ [yv]))) [y.2] [yv] f4 := by
                  have := Reps.cons (r4.frame nt (kp n4)) (Reps.nil (K := K) (H := upd H4 Dn (.lst (vs ++ [yv]))))
                  rw [List.append_nil] at this
                  exact this
                exact (hr4.frame nt (kp hDf)).app one
              · intro z
                rcases List.mem_append.mp z with z | z
                · exact hDf z
                · exact n4 z
              · rw [jn_app, jn_one']
                have bb : BOk A H0 (updF F L [Dn]) ((jn xs).is ++ (nk y.1 y.2).is) (f ++ f4) := fun a ha => by
                  rcases List.mem_append.mp ha with ha | ha
                  · exact (hk.bok srD).mono (fun j hj => List.mem_append_left _ hj) (fun _ q => q) a ha
                  · exact (o4.bok ((srI.same sy).same s3)).mono (fun j hj => List.mem_append_right _ hj) (fun _ q => q) a ha
                cases hj : jn xs with
                | own =>
                  rw [hj] at hk4
                  cases hy : nk y.1 y.2 with
                  | own =>
                    rw [hy] at o4
                    refine ⟨List.nodup_append.mpr ⟨hk4.1, o4.1, fun a ha b hb e => ?_⟩, fun a ha => ?_⟩
                    · subst e
                      exact ((hr.same sy).same s3).trk a ha (o4.2 a hb).1
                    · rcases List.mem_append.mp ha with ha | ha
                      · exact ⟨(hk4.2 a ha).1, mu (hk4.2 a ha).2⟩
                      · exact ⟨trD (o4.2 a ha).1, mu (o4.2 a ha).2⟩
                  | bor js => rw [hj, hy] at bb; exact bb
                | bor js => rw [hj] at bb; exact bb
              · intro b o e
                have hb : b ≠ Dn := fun z => by subst z; rw [nD] at e; cases e
                rw [upd_ne hb]
                exact s4 _ _ (sm3 b o e)
              · exact sr4.mutH hD4 inD hLw hLs
              · rw [List.length_append]; simp; omega
  · rintro H2 ⟨xs, rest, vs, f, hl, hx, hD, hr, hDf, hk, sm, srI, hv⟩
    rw [List.drop_length] at hl
    cases hl
    rw [List.append_nil] at hx
    subst hx
    refine hq _ H2 (Dn :: f) (s1.trans sm) (.lst hD hr) ?_
    have nH : H Dn = none := s1.free nD
    unfold lk
    split
    · rename_i hz
      rw [Reps.noL hr hz]
      refine ⟨List.nodup_cons.mpr ⟨by simp, List.nodup_nil⟩, fun a ha => ?_⟩
      rw [List.mem_singleton.mp ha]
      exact ⟨nH, ⟨by rw [hD]; trivial⟩⟩
    · cases hj : jn xs with
      | own =>
        rw [hj] at hk
        refine ⟨List.nodup_cons.mpr ⟨hDf, hk.1⟩, fun a ha => ?_⟩
        rcases List.mem_cons.mp ha with e | ha
        · subst e; exact ⟨nH, ⟨by rw [hD]; trivial⟩⟩
        · refine ⟨s1.free (sD.free (hk.2 a ha).1), (hk.2 a ha).2⟩
      | bor js =>
        rw [hj] at hk
        have hLj : L ∉ js := by have := hLt; rw [hj] at this; exact this
        intro a ha
        rcases List.mem_cons.mp ha with e | ha
        · subst e
          exact .inr ⟨.inr (sr.fr.free nH), fun j hj' => ((sr.own j).2 a hj').2.ne nH⟩
        · exact down hLj hk a ha
end
section
variable {X : Cx} {CA : String → Addr} {W : WX}
theorem e_lc {elt tg iter : Expr} {ifs : List Expr} {scope : Scope} {pos : Pos} {si : SI} {t : Tgt} {st : STs} {se : SE} {sl : List Nat} (own : List (Str × Nat)) (hc : X.calm = true) (hN : X.N.Nodup) (hi : PI X tg iter (tI X.K CA W si)) (ok : BlkOk X.N X.env.scope scope own)
    (hg : ∀ (s : Shared) (H : Hp) (C : Addr) (cl : List (Str × Addr)) (fp : List Addr), PG (X.blk s H scope (compEnvC scope cl C X.env) fp) tg (tG X.K sl t)) (hsl : ∀ j ∈ sl, j ∈ own.map (·.2))
    (ht : ∀ (s : Shared) (H : Hp) (C : Addr) (cl : List (Str × Addr)) (fp : List Addr), PTs (X.blk s H scope (compEnvC scope cl C X.env) fp) ifs (tT X.K CA W0 st))
    (he : ∀ (s : Shared) (H : Hp) (C : Addr) (cl : List (Str × Addr)) (fp : List Addr), PE (X.blk s H scope (compEnvC scope cl C X.env) fp) elt (tE X.K CA W0 se)) (hs : ∀ x, foldedSetIterable iter X.env x = pure x := by intro _; rfl) :
    PE X (.ListComp elt [⟨tg, iter, ifs, 0⟩] scope pos) (tE X.K CA W (lcE si (own.map (·.2)) t st se)) := by
  refine peI (pe_lc hc hN hi ok hg ht he hs) fun σ H Q ⟨A, H0, F, G, ρ, sr, h⟩ => ?_
  refine ⟨A, H0, F, G, ρ, sr, h.bind fun ⟨k, ds⟩ h1 => ?_⟩
  intro J H1 gh s1 it gk Dn nD
  obtain ⟨⟨hown, hlen⟩, h2⟩ := h1.ite
  cases hl : lcL t st se k (wipE ρ (own.map (·.2))) ds with
  | st => simp only [hl, noex, R.bind] at h2; exact h2.elim
  | ex c => simp only [hl, noex, R.bind] at h2; exact h2.elim
  | ok total =>
    simp only [hl, noex, R.bind] at h2
    exact lc_loop sr s1 it gk hown hlen hsl hl h2 nD
theorem e_setlc_raw {i : Nat} {y : Str} {py : Pos} {elt tg iter : Expr} {ifs : List Expr} {scope : Scope} {pos spos : Pos} {si : SI} {t : Tgt} {st : STs} {se : SE} {sl : List Nat} (own : List (Str × Nat)) (hc : X.calm = true) (hN : X.N.Nodup) (hy : X.N[i]? = some y) (hyl : X.env.scope.names.lookup y = some .local)
    (hsw : swapsWith (.ListComp elt [⟨tg, iter, ifs, 0⟩] scope pos) (some (.Name y py)) spos.line X.env = pure true) (hi : PI X tg iter (tI X.K CA W si)) (ok : BlkOk X.N X.env.scope scope own)
    (hg : ∀ (s : Shared) (H : Hp) (C : Addr) (cl : List (Str × Addr)) (fp : List Addr), PG (X.blk s H scope (compEnvC scope cl C X.env) fp) tg (tG X.K sl t)) (hsl : ∀ j ∈ sl, j ∈ own.map (·.2))
    (ht : ∀ (s : Shared) (H : Hp) (C : Addr) (cl : List (Str × Addr)) (fp : List Addr), PTs (X.blk s H scope (compEnvC scope cl C X.env) fp) ifs (tT X.K CA W0 st))
    (he : ∀ (s : Shared) (H : Hp) (C : Addr) (cl : List (Str × Addr)) (fp : List Addr), PE (X.blk s H scope (compEnvC scope cl C X.env) fp) elt (tE X.K CA W0 se)) (hs : ∀ x, foldedSetIterable iter X.env x = pure x := by intro _; rfl) :
    PS X (.Assign [.Name y py] (.ListComp elt [⟨tg, iter, ifs, 0⟩] scope pos) spos) (tAsg (tE X.K CA W (lcE si (own.map (·.2)) t st se)) (gName i)) := by
  refine ⟨fun pins s σ H D I h => (ps_setLc hc hN hy hyl hsw hi ok hg ht he hs).run pins s σ H D I ?_⟩
  obtain ⟨A, H0, F, G, ρ, sr, h⟩ := h
  refine ⟨A, H0, F, G, ρ, sr, h.bind fun ⟨k, ds⟩ h1 => ?_⟩
  intro J H1 gh s1 it gk Dn nD
  obtain ⟨⟨hown, hlen⟩, h2⟩ := h1.ite
  cases hl : lcL t st se k (wipE ρ (own.map (·.2))) ds with
  | st => simp only [hl, noex, R.bind] at h2; exact h2.elim
  | ex c => simp only [hl, noex, R.bind] at h2; exact h2.elim
  | ok total =>
    simp only [hl, noex, R.bind] at h2
    exact lc_loop (Q := fun x H1 => gName i x σ H1 D.nx) sr s1 it gk hown hlen hsl hl h2 nD
end
end Cz
set_option maxHeartbeats 1000000
namespace Cz
open PySem PySem.Spec PyProof.Rows L2
def OutOk (K : PySem.W.Frag) (CA : String → Addr) (W : WX) (A : Addr → Prop) (H0 : Hp) (G : List (D × V)) (De : Ends) (o : Out) : Prop := match o with
  | .nx ρ => ∀ σ H F, SR K A H0 F G ρ σ H → De.nx σ H
  | .rt k d => ∀ v H f, Same H0 H → Rep K H d v f → RetK A H0 H k f → De.rt v H
  | .bk ρ => ∀ σ H F, SR K A H0 F G ρ σ H → De.bk σ H
  | .ct ρ => ∀ σ H F, SR K A H0 F G ρ σ H → De.ct σ H
  | .ex c ρ => ∀ σ H F, SR K A H0 F G ρ σ H → WxOk K CA c (fun cls od => W cls od σ) H
  | .st => False
  | .ri ρ k d => ∀ v σ Hx H F f, SR K A H0 F G ρ σ Hx → Same Hx H → Rep K H d v f → KOk A H0 F Hx H k f → De.rt v H
def tS (K : PySem.W.Frag) (CA : String → Addr) (W : WX) (s : SS) : TS := fun De σ H => ∃ A H0 F G ρ, SR K A H0 F G ρ σ H ∧ OutOk K CA W A H0 G De (s ρ)
def R.out {α : Type} (r : R α) (ρ : Env) (f : α → Out) : Out := match r with
  | .ok a => f a
  | .ex c => .ex c ρ
  | .st => .st
@[simp] theorem R.out_ok {α : Type} (a : α) (ρ : Env) (f : α → Out) : (R.ok a).out ρ f = f a := rfl
@[simp] theorem R.out_ex {α : Type} (c : Ec) (ρ : Env) (f : α → Out) : (R.ex c : R α).out ρ f = .ex c ρ := rfl
@[simp] theorem R.out_st {α : Type} (ρ : Env) (f : α → Out) : (R.st : R α).out ρ f = .st := rfl
def nilS : SS := fun ρ => .nx ρ
def seqS (a b : SS) : SS := fun ρ => match a ρ with
  | .nx ρ' => b ρ'
  | o => o
def asgS (t : Tgt) (s : SE) : SS := fun ρ => (s ρ).out ρ fun x => match t x.1 x.2 ρ with
  | some ρ' => .nx ρ'
  | none => .st
def ifS (t : STs) (a b : SS) : SS := fun ρ => (t ρ).out ρ fun c => if c = true then a ρ else b ρ
def retS (s : SE) : SS := fun ρ => (s ρ).out ρ fun x => .rt x.1 x.2
def retV (i : Nat) : SS := fun ρ => match ρ[i]? with
  | some (.ow d) => .rt .own d
  | some (.bo is d) => .rt (.bor is) d
  | _ => .st
def raiS (c : String) : SS := fun ρ => .ex c ρ
def dropS (s : SE) : SS := fun ρ => (s ρ).out ρ fun _ => .nx ρ
def inv (i : Nat) (ρ : Env) : Env := ρ.map fun s => match s with
  | .bo is d => if i ∈ is then .no else .bo is d
  | s => s
theorem hasT_inv {j : Nat} {ρ : Env} (h : hasT (inv j ρ) = true) : hasT ρ = true := by
  unfold inv at h
  refine hasT_map (fun x hx => ?_) h
  cases x with
  | bo is d =>
    simp only at hx
    split at hx <;> cases hx
  | _ => exact hx
def frz1 (j : Nat) (ρ : Env) : Env := match ρ[j]? with
  | some (.ow d) => ρ.set j (.bo [] d)
  | _ => ρ
def frz : List Nat → Env → Env
  | [], ρ => ρ
  | j :: is, ρ => frz is (frz1 j ρ)
def loopS (tg : Tgt) (body : SS) : List D → Env → Out
  | [], ρ => .nx ρ
  | d :: ds, ρ => match tg (.bor []) d ρ with
    | none => .st
    | some ρ1 => match body ρ1 with
      | .nx ρ2 => loopS tg body ds ρ2
      | .ct ρ2 => loopS tg body ds ρ2
      | .bk ρ2 => .nx ρ2
      | o => o
def forS (it : SI) (tg : Tgt) (body : SS) : SS := fun ρ => (it ρ).out ρ fun kds => loopS tg body kds.2 (frz kds.1.is ρ)
section
variable {K : PySem.W.Frag} {A : Addr → Prop} {H0 H H1 : Hp} {F : Nat → List Addr} {G G' : List (D × V)} {ρ : Env} {σ : L2.St} {CA : String → Addr} {W : WX} {De : Ends}
theorem lift {α : Type} {r : R α} {f : α → Out} (h : OutOk K CA W A H0 G De (r.out ρ f)) (sr : SR K A H0 F G ρ σ H) : Post K CA W σ H r fun a => OutOk K CA W A H0 G De (f a) := by
  cases r with
  | ok a => exact h
  | ex c => exact fun H' s => h σ H' F (sr.same s)
  | st => exact h.elim
theorem KOk.ret {k : Kd} {f : List Addr} (sr : SR K A H0 F G ρ σ H) (o : KOk A H0 F H H1 k f) : RetK A H0 H1 k f := by
  cases k with
  | own => exact ⟨o.1, fun a ha => ⟨sr.fr.free (o.2 a ha).1, (o.2 a ha).2⟩⟩
  | bor is =>
    intro a ha
    rcases o a ha with ⟨j, _, q⟩ | q
    · exact .inr ((sr.own j).2 a q).1
    · exact q.1
theorem SR.drop {j : Nat} {ρ' : Env} (sr : SR K A H0 F G ρ σ H) (hl : ρ'.length = ρ.length) (ho : ∀ i, i ≠ j → ρ'[i]? = ρ[i]?) (hj : (ρ'[j]? = ρ[j]? ∧ ∀ d, ρ[j]? ≠ some (.ow d)) ∨ ∃ d, ρ[j]? = some (.ow d) ∧ ρ'[j]? = some (.bo [] d)) :
    SR K A H0 (updF F j []) G ρ' σ H := by
  have hn : ∀ b ∈ ([] : List Addr), H b = none := fun b hb => nomatch hb
  have ne : ∀ {i : Nat} {d}, ρ'[i]? = some (.ow d) → i ≠ j := fun {i d} e z => by
    subst z
    rcases hj with ⟨h1, h2⟩ | ⟨d', h1, h2⟩
    · exact h2 d (h1 ▸ e)
    · rw [h2] at e; cases e
  refine ⟨hl.trans sr.len, sr.fr, fun i => ?_, fun i m a hi hm => ?_, fun i d e => ?_, fun i is d e => ?_, fun p hp => ?_, fun i hi hn' => ?_, fin_upd sr.fin, sr.tbS (fun z => by
    obtain ⟨i, e⟩ := hasT_iff.mp z
    by_cases h : i = j
    · subst h
      rcases hj with ⟨h1, _⟩ | ⟨_, _, h2⟩
      · exact hasT_iff.mpr ⟨i, h1 ▸ e⟩
      · rw [h2] at e; cases e
    · exact hasT_iff.mpr ⟨i, (ho i h) ▸ e⟩) fun _ _ e _ => e⟩
  · by_cases e : i = j
    · subst e; rw [updF_same]; exact ⟨List.nodup_nil, fun a ha => nomatch ha⟩
    · rw [updF_ne e]; exact sr.own i
  · by_cases e : i = j
    · rw [e, updF_same] at hi; cases hi
    · by_cases e' : m = j
      · rw [e', updF_same] at hm; cases hm
      · rw [updF_ne e] at hi; rw [updF_ne e'] at hm; exact sr.dis i m a hi hm
  · have hi := ne e
    rw [updF_ne hi]
    exact sr.slo i d (by rw [← ho i hi]; exact e)
  · by_cases hi : i = j
    · subst hi
      rcases hj with ⟨h1, h2⟩ | ⟨d', h1, h2⟩
      · obtain ⟨v, f, h3, h4, h5⟩ := sr.slb i is d (h1 ▸ e)
        exact ⟨v, f, h3, h4, h5.upd sr hn h4.trk⟩
      · rw [h2] at e
        cases e
        obtain ⟨v, h3, h4⟩ := sr.slo i d h1
        refine ⟨v, F i, h3, h4, fun a ha => .inr ⟨.inr ((sr.own i).2 a ha).1, fun m hm => ?_⟩⟩
        by_cases e : m = i
        · rw [e, updF_same] at hm; cases hm
        · rw [updF_ne e] at hm; exact e (sr.dis m i a hm ha)
    · obtain ⟨v, f, h3, h4, h5⟩ := sr.slb i is d (by rw [← ho i hi]; exact e)
      exact ⟨v, f, h3, h4, h5.upd sr hn h4.trk⟩
  · obtain ⟨f, h1, h2⟩ := sr.gho p hp
    exact ⟨f, h1, fun a ha => (h2 a ha).upd sr hn (h1.trk a ha)⟩
  · by_cases e : i = j
    · subst e; rw [updF_same] at hn'; exact absurd rfl hn'
    · rw [updF_ne e] at hn'
      obtain ⟨d, q⟩ := sr.emp i (by rw [← hl]; exact hi) hn'
      exact ⟨d, by rw [ho i e]; exact q⟩
theorem frz1_len (j : Nat) (ρ : Env) : (frz1 j ρ).length = ρ.length := by
  unfold frz1
  split
  · rw [List.length_set]
  · rfl
theorem SR.frz1 (sr : SR K A H0 F G ρ σ H) (j : Nat) : SR K A H0 (updF F j []) G (Cz.frz1 j ρ) σ H := by
  refine sr.drop (frz1_len j ρ) (fun i hi => ?_) ?_
  · unfold Cz.frz1
    split
    · rw [List.getElem?_set_ne (Ne.symm hi)]
    · rfl
  · unfold Cz.frz1
    split
    · rename_i d h
      refine .inr ⟨d, h, ?_⟩
      rw [List.getElem?_set_self (List.getElem?_eq_some_iff.mp h).1]
    · rename_i h
      exact .inl ⟨rfl, fun d e => h d e⟩
theorem SR.frz : ∀ (is : List Nat) {F : Nat → List Addr} {ρ : Env}, SR K A H0 F G ρ σ H → ∃ F', SR K A H0 F' G (Cz.frz is ρ) σ H ∧ (∀ a, H a ≠ none → Sh A H0 F a → Sh A H0 F' a) ∧ ∀ a, (∃ j ∈ is, a ∈ F j) → Sh A H0 F' a
  | [], F, ρ, sr => ⟨F, sr, fun _ _ h => h, fun a ⟨j, hj, _⟩ => nomatch hj⟩
  | j :: is, F, ρ, sr => by
    have hn : ∀ b ∈ ([] : List Addr), H b = none := fun b hb => nomatch hb
    obtain ⟨F', sr', h1, h2⟩ := SR.frz is (sr.frz1 j)
    refine ⟨F', sr', fun a ha h => h1 a ha (h.upd sr hn ha), fun a ⟨m, hm, q⟩ => ?_⟩
    have ha : H a ≠ none := ((sr.own m).2 a q).2.ne
    by_cases e : m = j
    · subst e
      refine h1 a ha ⟨.inr ((sr.own m).2 a q).1, fun n hn' => ?_⟩
      by_cases e : n = m
      · rw [e, updF_same] at hn'; cases hn'
      · rw [updF_ne e] at hn'; exact e (sr.dis n m a hn' q)
    · rcases List.mem_cons.mp hm with z | hm
      · exact absurd z e
      · exact h2 a ⟨m, hm, by rw [updF_ne e]; exact q⟩
theorem SR.gsub (sr : SR K A H0 F G ρ σ H) (h : ∀ p ∈ G', p ∈ G) : SR K A H0 F G' ρ σ H := { sr with gho := fun p hp => sr.gho p (h p hp) }
theorem SR.gadd (sr : SR K A H0 F G ρ σ H) (h : Gh K H (Sh A H0 F) G') : SR K A H0 F (G' ++ G) ρ σ H :=
  { sr with gho := fun p hp => (List.mem_append.mp hp).elim (fun q => h p q) fun q => sr.gho p q }
theorem OutOk.gsub {o : Out} (h : OutOk K CA W A H0 G De o) (hs : ∀ p ∈ G, p ∈ G') : OutOk K CA W A H0 G' De o := by
  cases o with
  | nx ρ => exact fun σ H F sr => h σ H F (sr.gsub hs)
  | rt k d => exact h
  | bk ρ => exact fun σ H F sr => h σ H F (sr.gsub hs)
  | ct ρ => exact fun σ H F sr => h σ H F (sr.gsub hs)
  | ex c ρ => exact fun σ H F sr => h σ H F (sr.gsub hs)
  | st => exact h
  | ri ρ k d => exact fun v σ Hx H F f sr s r o => h v σ Hx H F f (sr.gsub hs) s r o
end
section
variable {X : Cx} {st : Stmt} {sts : List Stmt} {t t' : TS}
theorem psI (h : PS X st t) (k : ∀ D σ H, t' D σ H → t D σ H) : PS X st t' := ⟨fun pins s σ H D I q => h.run pins s σ H D I (k D σ H q)⟩
theorem pssI (h : PSs X sts t) (k : ∀ D σ H, t' D σ H → t D σ H) : PSs X sts t' := ⟨fun pins s σ H D I q => h.run pins s σ H D I (k D σ H q)⟩
end
section
variable {X : Cx} {CA : String → Addr} {W : WX} {pos pos' : Pos} {st : Stmt} {rest a b : List Stmt} {e c tg iter : Expr} {s u : SS} {se : SE} {t : STs} {tt : Tgt} {sl : List Nat} {si : SI}
theorem ss_nil : PSs X [] (tS X.K CA W nilS) := pssI pss_nil fun D σ H ⟨A, H0, F, G, ρ, sr, h⟩ => h σ H F sr
theorem ss_cons (h1 : PS X st (tS X.K CA W s)) (h2 : PSs X rest (tS X.K CA W u)) : PSs X (st :: rest) (tS X.K CA W (seqS s u)) := by
  refine pssI (pss_cons h1 h2) fun D σ H ⟨A, H0, F, G, ρ, sr, h⟩ => ?_
  refine ⟨A, H0, F, G, ρ, sr, ?_⟩
  have h : OutOk X.K CA W A H0 G D (match s ρ with | .nx ρ' => u ρ' | o => o) := h
  cases hs : s ρ with
  | nx ρ' => rw [hs] at h; exact fun σ' H' F' sr' => ⟨A, H0, F', G, ρ', sr', h⟩
  | rt k d => rw [hs] at h; exact h
  | bk ρ' => rw [hs] at h; exact h
  | ct ρ' => rw [hs] at h; exact h
  | ex c ρ' => rw [hs] at h; exact h
  | st => rw [hs] at h; exact h
  | ri ρ' k d => rw [hs] at h; exact h
theorem ss_one (h1 : PS X st (tS X.K CA W s)) : PSs X [st] (tS X.K CA W s) := pss_one h1
theorem s_ret (he : PE X e (tE X.K CA W se)) : PS X (.Return (some e) pos) (tS X.K CA W (retS se)) := by
  refine psI (ps_ret he) fun D σ H ⟨A, H0, F, G, ρ, sr, h⟩ => ?_
  refine ⟨A, H0, F, G, ρ, sr, (lift h sr).imp fun ⟨k, d⟩ _ q v H' f s r o => q v H' f (sr.fr.trans s) r (o.ret sr)⟩
theorem s_retV (i : Nat) {x : Str} (hN : X.N[i]? = some x := by rfl) (hv : Vis X.env.scope x := by first | exact Or.inl rfl | exact Or.inr (Or.inl rfl) | exact Or.inr (Or.inr rfl)) (hd : (x == ("__debug__" : Str)) = false := by decide)
    (hcd : (x == ("__classdict__" : Str)) = false := by decide) : PS X (.Return (some (.Name x pos')) pos) (tS X.K CA W (retV i)) := by
  refine psI (ps_ret (pe_var hN hv hd hcd)) fun D σ H ⟨A, H0, F, G, ρ, sr, h⟩ => ?_
  unfold retV at h
  cases e : ρ[i]? with
  | none => rw [e] at h; exact h.elim
  | some sl =>
    rw [e] at h
    cases sl with
    | no => exact h.elim
    | tb => exact h.elim
    | ow d =>
      obtain ⟨v, hv, r⟩ := sr.slo i d e
      exact ⟨v, hv, h v H (F i) sr.fr r ⟨(sr.own i).1, (sr.own i).2⟩⟩
    | bo is d =>
      obtain ⟨v, f, hv, r, b⟩ := sr.slb i is d e
      exact ⟨v, hv, h v H f sr.fr r fun a ha => by
        rcases b a ha with ⟨j, _, q⟩ | q
        · exact .inr ((sr.own j).2 a q).1
        · exact q.1⟩
theorem s_if (hc : PT X c (tT X.K CA W t)) (ha : PSs X a (tS X.K CA W s)) (hb : PSs X b (tS X.K CA W u)) : PS X (.If c a b pos) (tS X.K CA W (ifS t s u)) := by
  refine psI (ps_if hc ha hb) fun D σ H ⟨A, H0, F, G, ρ, sr, h⟩ => ?_
  refine ⟨A, H0, F, G, ρ, sr, (lift h sr).imp fun b _ q H' s' => ?_⟩
  cases b with
  | true => exact ⟨A, H0, F, G, ρ, sr.same s', q⟩
  | false => exact ⟨A, H0, F, G, ρ, sr.same s', q⟩
theorem s_drop (he : PE X e (tE X.K CA W se)) (hs : swapsWith e none pos.line X.env = pure false := by rfl) : PS X (.Expr e pos) (tS X.K CA W (dropS se)) := by
  refine psI (ps_expr he hs) fun D σ H ⟨A, H0, F, G, ρ, sr, h⟩ => ?_
  exact ⟨A, H0, F, G, ρ, sr, (lift h sr).imp fun ⟨k, d⟩ _ q v H' f s r o => q σ H' F (sr.same s)⟩
theorem asg_ok {D : Ends} {σ : L2.St} {H : Hp} (h : tS X.K CA W (asgS tt se) D σ H) : tE X.K CA W se σ H fun x H1 => tG X.K sl tt x σ H1 D.nx := by
  obtain ⟨A, H0, F, G, ρ, sr, h⟩ := h
  refine ⟨A, H0, F, G, ρ, sr, (lift h sr).imp fun ⟨k, d⟩ _ q v H' f s r o => ⟨A, H0, H, F, G, ρ, k, d, f, sr, s, r, o, ?_⟩⟩
  cases ht : tt k d ρ with
  | none => simp only [ht] at q; exact q.elim
  | some ρ' => simp only [ht] at q; exact fun σ' F' p => q σ' H' F' p.sr
theorem s_asg (he : PE X e (tE X.K CA W se)) (hg : PG X tg (tG X.K sl tt)) (hs : swapsWithSole [tg] e pos.line X.env = pure false := by rfl) (hw : swappedStores [tg] e X.env = pure none := by rfl)
    (h1 : (assignEach [tg] X.env).map (·.2) = [assign tg X.env] := by rfl) : PS X (.Assign [tg] e pos) (tS X.K CA W (asgS tt se)) :=
  psI (ps_asg he hg hs hw h1) fun D σ H h => asg_ok h
theorem s_set (i : Nat) {x : Str} (hN : X.N.Nodup) (he : PE X e (tE X.K CA W se)) (hi : X.N[i]? = some x := by rfl) (hx : Loc X.env.scope x := by first | exact Or.inl rfl | exact Or.inr rfl) (hs : swapsWith e (some (.Name x pos')) pos.line X.env = pure false := by rfl)
    (hf : X.fn x = true ∨ X.env.scope.names.lookup x = some .local := by first | exact .inl rfl | exact .inr rfl | assumption) : PS X (.Assign [.Name x pos'] e pos) (tS X.K CA W (asgS (tgN i) se)) := by
  refine psI (ps_set hN hi hx he hs hf) fun D σ H h => ?_
  obtain ⟨A, H0, F, G, ρ, sr, h⟩ := h
  refine ⟨A, H0, F, G, ρ, sr, (lift h sr).imp fun ⟨k, d⟩ _ q v H' f s r o => ?_⟩
  obtain ⟨f', sr', _⟩ := sr.set s r o i
  exact q _ _ _ sr'
theorem s_setlc {i : Nat} {y : Str} {py : Pos} {elt tg iter : Expr} {ifs : List Expr} {scope : Scope} {pos spos : Pos} {si : SI} {t : Tgt} {st : STs} {se : SE} {sl : List Nat} (own : List (Str × Nat)) (hc : X.calm = true) (hN : X.N.Nodup) (hi : PI X tg iter (tI X.K CA W si)) (ok : BlkOk X.N X.env.scope scope own)
    (hg : ∀ (s : Shared) (H : Hp) (C : Addr) (cl : List (Str × Addr)) (fp : List Addr), PG (X.blk s H scope (compEnvC scope cl C X.env) fp) tg (tG X.K sl t)) (hsl : ∀ j ∈ sl, j ∈ own.map (·.2))
    (ht : ∀ (s : Shared) (H : Hp) (C : Addr) (cl : List (Str × Addr)) (fp : List Addr), PTs (X.blk s H scope (compEnvC scope cl C X.env) fp) ifs (tT X.K CA W0 st))
    (he : ∀ (s : Shared) (H : Hp) (C : Addr) (cl : List (Str × Addr)) (fp : List Addr), PE (X.blk s H scope (compEnvC scope cl C X.env) fp) elt (tE X.K CA W0 se))
    (hsw : swapsWith (.ListComp elt [⟨tg, iter, ifs, 0⟩] scope pos) (some (.Name y py)) spos.line X.env = pure true) (hy : X.N[i]? = some y := by rfl) (hyl : X.env.scope.names.lookup y = some .local := by rfl) (hs : ∀ x, foldedSetIterable iter X.env x = pure x := by intro _; rfl) :
    PS X (.Assign [.Name y py] (.ListComp elt [⟨tg, iter, ifs, 0⟩] scope pos) spos) (tS X.K CA W (asgS (tgN i) (lcE si (own.map (·.2)) t st se))) := by
  refine psI (e_setlc_raw (W := W) own hc hN hy hyl hsw hi ok hg hsl ht he hs) fun D σ H h => ?_
  obtain ⟨A, H0, F, G, ρ, sr, h⟩ := h
  refine ⟨A, H0, F, G, ρ, sr, (lift h sr).imp fun ⟨k, d⟩ _ q v H' f s r o => ?_⟩
  obtain ⟨f', sr', _⟩ := sr.set s r o i
  exact q _ _ _ sr'
theorem s_raise {x m : String} {j : Nat} {p p2 : Pos} {C : Addr} {bmB : List Value} {B newId initId : String} (hc : X.calm = true) (tk : Takes X W) (Fb : ExcBaseFacts B newId initId bmB) (q : PySem.W.excIn X.K (CA x) bmB newId = true) (gC : X.mg (Str.ofString x) = some (.ref (CA x))) (kC : PySem.W.keepIn X.K (.ref (CA x)) = true)
    (r : Raises X (.ref (CA x))) {ms : Str} (hg : Gl X (Str.ofString x) := by rfl) (hdb : (Str.ofString x == ("__debug__" : Str)) = false := by decide) : PS X (.Raise (some (.Call (.Name (Str.ofString x) p) [.Constant (.str ms) j p2] [] pos')) none pos) (tS X.K CA W (raiS x)) :=
  psI (ps_raise hc tk (pmk_own Fb q gC kC r hg hdb)) fun D σ H ⟨A, H0, F, G, ρ, sr, h⟩ => h σ H F sr
theorem for_itC {J : It} {ds : List D} {gh : List (D × V)} {K : PySem.W.Frag} (it : IterOk K J ds gh) {g : TG} {tb : TS} {D : Ends} {σ : L2.St} {H : Hp} (Pv : Nat → L2.St → Hp → Prop) (h0 : Pv 0 σ H) (hG : ∀ i σ H, i ≤ ds.length → Pv i σ H → Gh K H (fun _ => True) gh)
    (hs : ∀ i x σ H H', i < ds.length → Pv i σ H → (∀ P, Gh K H P gh → Same H H' ∧ ∃ d f, ds[i]? = some d ∧ Rep K H' d x f ∧ ∀ a ∈ f, P a) → g x σ H' fun σ2 H2 => tb { D with nx := Pv (i + 1), ct := Pv (i + 1), bk := D.nx } σ2 H2) (hd : ∀ σ H, Pv ds.length σ H → D.nx σ H) :
    ∃ W : Nat → Nat → L2.St → Hp → Prop, (∃ m, W 0 m σ H) ∧ ∀ i m σ H, W i m σ H →
      (J.stop i H ∧ D.nx σ H) ∨ (J.go i H ∧ ∃ N : L2.St → Hp → Prop, (∀ σ' H', N σ' H' → ∃ m', m' < m ∧ W (i + 1) m' σ' H') ∧ ∀ x H', J.yld i H x H' → g x σ H' fun σ2 H2 => tb { D with nx := N, ct := N, bk := D.nx } σ2 H2) := by
  refine ⟨fun i m σ H => m = ds.length - i ∧ i ≤ ds.length ∧ Pv i σ H, ⟨ds.length, by simp, Nat.zero_le _, h0⟩, ?_⟩
  rintro i m σ H ⟨rfl, hi, p⟩
  have q := hG i σ H hi p
  by_cases hlt : i < ds.length
  · exact .inr ⟨it.go H _ i hlt q, Pv (i + 1), fun σ' H' p' => ⟨ds.length - (i + 1), by omega, rfl, hlt, p'⟩, fun x H' y => hs i x σ H H' hlt p fun P hP => it.yld H P i x H' hlt hP y⟩
  · have e : i = ds.length := by omega
    subst e
    exact .inl ⟨it.stop H _ q, hd σ H p⟩
theorem s_for {body : List Stmt} {sb : SS} (hp : PassesOwn (model X.prog X.w) X.A X.env X.xe) (hc : X.calm = true) (hi : PI X tg iter (tI X.K CA W si)) (hg : PG X tg (tG X.K sl tt)) (hb : PSs X body (tS X.K CA W sb))
    (hs : ∀ x, foldedSetIterable iter X.env x = pure x := by intro _; rfl) : PS X (.For tg iter body [] pos) (tS X.K CA W (forS si tt sb)) := by
  refine psI (ps_for hp hc hi hg hb hs) fun D σ H ⟨A, H0, F, G, ρ, sr, h⟩ => ?_
  refine ⟨A, H0, F, G, ρ, sr, (lift h sr).imp fun ⟨k, ds⟩ _ q J H1 gh s1 it gk => ?_⟩
  have sr1 := sr.same s1
  obtain ⟨F1, srf, t1, t2⟩ := SR.frz k.is sr1
  have gk1 : Gh X.K H1 (Sh A H0 F1) gh := fun p hp => let ⟨f, h1, h2⟩ := gk p hp; ⟨f, h1, fun a ha => (h2 a ha).elim (t2 a) (t1 a (h1.trk a ha))⟩
  refine for_itC it (fun i σ H => ∃ F ρ, SR X.K A H0 F (gh ++ G) ρ σ H ∧ OutOk X.K CA W A H0 G D (loopS tt sb (ds.drop i) ρ)) ⟨F1, _, srf.gadd gk1, q⟩ (fun i σ H _ ⟨F, ρ, sr, _⟩ p hp => let ⟨f, h1, h2⟩ := sr.gho p (List.mem_append_left _ hp); ⟨f, h1, fun _ _ => trivial⟩) ?_ ?_
  · rintro i x σ2 H2 H3 hi ⟨F2, ρ2, sr2, o2⟩ yl
    obtain ⟨sy, d, f, hd, r, hf⟩ := yl (Sh A H0 F2) fun p hp => sr2.gho p (List.mem_append_left _ hp)
    have hdrop : ds.drop i = d :: ds.drop (i + 1) := by
      rw [List.drop_eq_getElem_cons hi]
      congr 1
      rw [List.getElem?_eq_getElem hi] at hd
      exact Option.some.inj hd
    rw [hdrop] at o2
    refine ⟨A, H0, H3, F2, gh ++ G, ρ2, .bor [], d, f, sr2.same sy, Same.refl _, r, fun a ha => .inr (hf a ha), ?_⟩
    have o2 : OutOk X.K CA W A H0 G D (match tt (.bor []) d ρ2 with
      | none => .st
      | some ρ1 => match sb ρ1 with
        | .nx ρ2 => loopS tt sb (ds.drop (i + 1)) ρ2
        | .ct ρ2 => loopS tt sb (ds.drop (i + 1)) ρ2
        | .bk ρ2 => .nx ρ2
        | o => o) := o2
    cases h1 : tt (.bor []) d ρ2 with
    | none => rw [h1] at o2; exact o2.elim
    | some ρ3 =>
      rw [h1] at o2
      intro σ' F' p
      refine ⟨A, H0, F', gh ++ G, ρ3, p.sr, ?_⟩
      have sub : ∀ p ∈ G, p ∈ gh ++ G := fun p hp => List.mem_append_right _ hp
      cases h2 : sb ρ3 with
      | nx ρ4 => simp only [h2] at o2; exact fun σ4 H4 F4 sr4 => ⟨F4, ρ4, sr4, o2⟩
      | ct ρ4 => simp only [h2] at o2; exact fun σ4 H4 F4 sr4 => ⟨F4, ρ4, sr4, o2⟩
      | bk ρ4 => simp only [h2] at o2; exact fun σ4 H4 F4 sr4 => o2 σ4 H4 F4 (sr4.gsub sub)
      | rt k' d' => simp only [h2] at o2; exact o2
      | ex c ρ4 => simp only [h2] at o2; exact fun σ4 H4 F4 sr4 => o2 σ4 H4 F4 (sr4.gsub sub)
      | st => simp only [h2] at o2; exact o2.elim
      | ri ρ4 k' d' => simp only [h2] at o2; exact fun v4 σ4 Hx4 H4 F4 f4 sr4 s4 r4 o4 => o2 v4 σ4 Hx4 H4 F4 f4 (sr4.gsub sub) s4 r4 o4
  · rintro σ2 H2 ⟨F2, ρ2, sr2, o2⟩
    rw [List.drop_length] at o2
    exact o2 σ2 H2 F2 (sr2.gsub fun p hp => List.mem_append_right _ hp)
end
end Cz
set_option maxHeartbeats 1000000
namespace Cz
open PySem PySem.Spec PyProof.Rows L2
theorem inv_len (j : Nat) (ρ : Env) : (inv j ρ).length = ρ.length := by unfold inv; rw [List.length_map]
theorem inv_ow {j i : Nat} {ρ : Env} {d : D} : (inv j ρ)[i]? = some (.ow d) ↔ ρ[i]? = some (.ow d) := by
  unfold inv
  rw [List.getElem?_map]
  cases h : ρ[i]? with
  | none => simp
  | some s =>
    cases s with
    | no => simp
    | tb => simp
    | ow d' => simp
    | bo is d' =>
      by_cases hj : j ∈ is
      · simp [hj]
      · simp [hj]
theorem inv_bo {j i : Nat} {ρ : Env} {d : D} {is : List Nat} (h : (inv j ρ)[i]? = some (.bo is d)) : ρ[i]? = some (.bo is d) ∧ j ∉ is := by
  unfold inv at h
  rw [List.getElem?_map] at h
  cases e : ρ[i]? with
  | none => rw [e] at h; cases h
  | some s =>
    rw [e] at h
    cases s with
    | no => simp at h
    | tb => simp at h
    | ow d' => simp at h
    | bo is' d' =>
      by_cases hj : j ∈ is'
      · simp [hj] at h
      · simp [hj] at h
        obtain ⟨e1, e2⟩ := h
        subst e1; subst e2
        exact ⟨rfl, hj⟩
section
variable {K : PySem.W.Frag} {A : Addr → Prop} {H0 Hb H : Hp} {F : Nat → List Addr} {G : List (D × V)} {ρ : Env} {σ : L2.St}
theorem SR.mutS {j : Nat} {a : Addr} {o : HO} {d d' : D} {v : V} {f' : List Addr} (sr : SR K A H0 F G ρ σ Hb) (s : Same Hb H) (ha : a ∈ F j) (hm : MutX (some o)) (hs : ρ[j]? = some (.ow d)) (hv : σ[j]? = some (some v))
    (r : Rep K (upd H a o) d' v f') (nf : f'.Nodup) (hf : ∀ b ∈ f', b ∈ F j ∨ Hb b = none) (hmu : ∀ b ∈ f', Mu ((upd H a o) b)) : SR K A H0 (updF F j f') G ((inv j ρ).set j (.ow d')) σ (upd H a o) := by
  have sr1 := sr.same s
  have mua := ((sr1.own j).2 a ha).2
  have hj : j < ρ.length := (List.getElem?_eq_some_iff.mp hs).1
  have nt : ∀ b ob, H b = some ob → IsT ob → (upd H a o) b = some ob := fun b ob e t => by
    by_cases h : b = a
    · subst h
      rw [e] at mua
      have := mua.m
      cases ob <;> first | exact t.elim | exact this.elim
    · rw [upd_ne h]; exact e
  have kp : ∀ {f : List Addr}, a ∉ f → ∀ b ∈ f, ∀ ob, H b = some ob → (upd H a o) b = some ob := fun {f} hf b hb ob e => by
    have hne : b ≠ a := fun z => hf (by rw [← z]; exact hb)
    rw [upd_ne hne]; exact e
  have mu : ∀ {b : Addr}, Mu (H b) → Mu ((upd H a o) b) := fun {b} h => by
    by_cases e : b = a
    · subst e; exact ⟨by rw [upd_same]; exact hm⟩
    · rw [upd_ne e]; exact h
  have sh : ∀ {b : Addr}, Hb b ≠ none → Sh A H0 F b → b ≠ a ∧ Sh A H0 (updF F j f') b := fun {b} hb h => by
    refine ⟨fun z => h.2 j (z ▸ ha), h.1, fun m hm' => ?_⟩
    by_cases e : m = j
    · subst e
      rw [updF_same] at hm'
      exact (hf b hm').elim (h.2 m) hb
    · rw [updF_ne e] at hm'; exact h.2 m hm'
  refine ⟨by rw [List.length_set, inv_len]; exact sr.len, fun b ob e => ?_, fun i => ?_, fun i m b hi hm' => ?_, fun i d2 e => ?_, fun i is d2 e => ?_, fun p hp => ?_, fun i hi hn => ?_, fin_upd sr.fin, sr1.tbS (fun z => hasT_inv (hasT_set rfl z)) fun b o' e t => by
    have hb : b ≠ a := fun z => by subst z; exact sr1.teF ha e t
    rw [upd_ne hb]; exact e⟩
  · have hb : b ≠ a := fun z => by subst z; rw [((sr.own j).2 b ha).1] at e; cases e
    rw [upd_ne hb]; exact sr1.fr b ob e
  · by_cases e : i = j
    · subst e
      rw [updF_same]
      exact ⟨nf, fun b hb => ⟨(hf b hb).elim (fun q => ((sr.own i).2 b q).1) fun q => sr.fr.free q, hmu b hb⟩⟩
    · rw [updF_ne e]
      exact ⟨(sr1.own i).1, fun b hb => ⟨((sr1.own i).2 b hb).1, mu ((sr1.own i).2 b hb).2⟩⟩
  · by_cases e : i = j
    · by_cases e' : m = j
      · rw [e, e']
      · rw [e, updF_same] at hi; rw [updF_ne e'] at hm'
        rcases hf b hi with q | q
        · exact e.trans (sr.dis j m b q hm')
        · exact absurd q ((sr.own m).2 b hm').2.ne
    · by_cases e' : m = j
      · rw [e', updF_same] at hm'; rw [updF_ne e] at hi
        rcases hf b hm' with q | q
        · exact (sr.dis i j b hi q).trans e'.symm
        · exact absurd q ((sr.own i).2 b hi).2.ne
      · rw [updF_ne e] at hi; rw [updF_ne e'] at hm'; exact sr.dis i m b hi hm'
  · by_cases h : j = i
    · subst h
      rw [List.getElem?_set_self (by rw [inv_len]; exact hj)] at e
      cases e
      exact ⟨v, hv, by rw [updF_same]; exact r⟩
    · rw [List.getElem?_set_ne h] at e
      obtain ⟨v2, h1, h2⟩ := sr1.slo i d2 (inv_ow.mp e)
      rw [updF_ne (Ne.symm h)]
      exact ⟨v2, h1, h2.frame nt (kp fun z => h (sr.dis j i a ha z))⟩
  · by_cases h : j = i
    · subst h
      rw [List.getElem?_set_self (by rw [inv_len]; exact hj)] at e
      cases e
    · rw [List.getElem?_set_ne h] at e
      obtain ⟨e1, hji⟩ := inv_bo e
      obtain ⟨v2, g, h1, h2, h3⟩ := sr.slb i is d2 e1
      have key : ∀ b ∈ g, b ≠ a ∧ ((∃ m ∈ is, b ∈ updF F j f' m) ∨ Sh A H0 (updF F j f') b) := fun b hb => by
        rcases h3 b hb with ⟨m, hm', q⟩ | q
        · have hmj : m ≠ j := fun z => hji (z ▸ hm')
          exact ⟨fun z => hmj (sr.dis m j a (z ▸ q) ha), .inl ⟨m, hm', by rw [updF_ne hmj]; exact q⟩⟩
        · obtain ⟨q1, q2⟩ := sh (h2.trk b hb) q
          exact ⟨q1, .inr q2⟩
      exact ⟨v2, g, h1, (h2.same s).frame nt (kp fun z => (key a z).1 rfl), fun b hb => (key b hb).2⟩
  · obtain ⟨g, h1, h2⟩ := sr.gho p hp
    exact ⟨g, (h1.same s).frame nt (kp fun z => (sh (h1.trk a z) (h2 a z)).1 rfl), fun b hb => (sh (h1.trk b hb) (h2 b hb)).2⟩
  · rw [List.length_set, inv_len] at hi
    by_cases h : j = i
    · subst h; exact ⟨d', by rw [List.getElem?_set_self (by rw [inv_len]; exact hi)]⟩
    · rw [updF_ne (Ne.symm h)] at hn
      obtain ⟨d2, e⟩ := sr.emp i hi hn
      exact ⟨d2, by rw [List.getElem?_set_ne h]; exact inv_ow.mpr e⟩
def okIn (k : Kd) (ds : List D) : Bool := match k with
  | .own => true
  | .bor _ => noLs ds
theorem okIn_ok {k : Kd} {ds : List D} {vs : List V} {f : List Addr} (h : okIn k ds = true) (r : Reps K H ds vs f) (o : KOk A H0 F Hb H k f) : f.Nodup ∧ ∀ a ∈ f, Hb a = none ∧ Mu (H a) := by
  cases k with
  | own => exact o
  | bor is => rw [Reps.noL r h]; exact ⟨List.nodup_nil, fun a ha => nomatch ha⟩
end
def slD : Option Sl → Option D
  | some (.ow d) => some d
  | some (.bo _ d) => some d
  | _ => none
section
variable {X : Cx} {CA : String → Addr} {W : WX} {pos pos' p1 p2 p3 : Pos} {e : Expr} {se : SE}
def appS (i : Nat) (s : SE) : SS := fun ρ => match ρ[i]? with
  | some (.ow (.lst ds)) => (s ρ).out ρ fun x => if okIn x.1 [x.2] = true ∧ ds.length < LIM then .nx ((inv i ρ).set i (.ow (.lst (ds ++ [x.2])))) else .st
  | _ => .st
theorem s_app (i : Nat) {x : Str} (he : PE X e (tE X.K CA W se)) (hi : X.N[i]? = some x := by rfl) (hv : Vis X.env.scope x := by first | exact Or.inl rfl | exact Or.inr (Or.inl rfl) | exact Or.inr (Or.inr rfl)) (hd : (x == ("__debug__" : Str)) = false := by decide)
    (hcd : (x == ("__classdict__" : Str)) = false := by decide) (hst : starEach [e] X.env = [(false, eval e X.env)] := by rfl) (hs : swapsWith (.Call (.Attribute (.Name x p1) "append" p2) [e] [] p3) none pos.line X.env = pure false := by rfl)
    (hline : (p2.endLine == p3.line) = true := by rfl) :
    PS X (.Expr (.Call (.Attribute (.Name x p1) "append" p2) [e] [] p3) pos) (tS X.K CA W (appS i se)) := by
  refine psI (ps_expr (pe_bm PySem.F.plainAttrs_list PySem.F.slot_list_append PySem.F.type_list_append mt_append (pe_var hi hv hd hcd) (pa_cons he pa_nil hst) rfl (by rw [hst]; rfl) hline hst rfl) hs) fun D σ H ⟨A, H0, F, G, ρ, sr, h⟩ => ?_
  have h : OutOk X.K CA W A H0 G D (appS i se ρ) := h
  unfold appS at h
  split at h
  · rename_i ds hsl
    obtain ⟨v, hv, r0⟩ := sr.slo i _ hsl
    obtain ⟨Fi, hFi⟩ : ∃ f, F i = f := ⟨_, rfl⟩
    rw [hFi] at r0
    cases r0 with
    | @lst a vs _ f0 hl q0 =>
      refine ⟨_, hv, .inl ⟨rfl, _, .of hl⟩, ?_⟩
      refine ⟨A, H0, F, G, ρ, sr, (lift h sr).imp fun ⟨k, d⟩ _ q y H1 f1 s1 r1 o1 => ?_⟩
      by_cases hc : okIn k [d] = true ∧ ds.length < LIM
      · have q : OutOk X.K CA W A H0 G D (if okIn k [d] = true ∧ ds.length < LIM then .nx ((inv i ρ).set i (.ow (.lst (ds ++ [d])))) else .st) := q
        rw [if_pos hc] at q
        have hl1 := s1 _ _ hl
        have rs : Reps X.K H1 [d] [y] f1 := by
          have := Reps.cons r1 (Reps.nil (K := X.K) (H := H1))
          rw [List.append_nil] at this
          exact this
        obtain ⟨n1, m1⟩ := okIn_ok hc.1 rs o1
        have own := sr.own i
        rw [hFi] at own
        have haF : a ∈ F i := by rw [hFi]; exact List.mem_cons_self
        have trk0 : ∀ b ∈ a :: f0, H b ≠ none := fun b hb => (own.2 b hb).2.ne
        have nd := List.nodup_cons.mp own.1
        have ne1 : ∀ b ∈ f1, b ≠ a := fun b hb z => trk0 a List.mem_cons_self (z ▸ (m1 b hb).1)
        refine ⟨a, vs, y, rfl, rfl, hl1, by rw [← lim_eq, ← q0.length]; exact hc.2, ?_⟩
        have nt : ∀ b ob, H1 b = some ob → IsT ob → (upd H1 a (.lst (vs ++ [y]))) b = some ob := fun b ob e t => by
          by_cases h : b = a
          · subst h; rw [hl1] at e; cases e; exact t.elim
          · rw [upd_ne h]; exact e
        have kp : ∀ {f : List Addr}, (∀ b ∈ f, b ≠ a) → ∀ b ∈ f, ∀ ob, H1 b = some ob → (upd H1 a (.lst (vs ++ [y]))) b = some ob := fun {f} hf b hb ob e => by rw [upd_ne (hf b hb)]; exact e
        have r' : Rep X.K (upd H1 a (.lst (vs ++ [y]))) (.lst (ds ++ [d])) (.ref a) (a :: (f0 ++ f1)) :=
          .lst upd_same (((q0.same s1).frame nt (kp fun b hb z => nd.1 (z ▸ hb))).app (rs.frame nt (kp ne1)))
        refine q σ _ _ (sr.mutS s1 haF trivial hsl hv r' ?_ (fun b hb => ?_) fun b hb => ?_)
        · refine List.nodup_cons.mpr ⟨fun z => ?_, List.nodup_append.mpr ⟨nd.2, n1, fun b hb c hc' e => ?_⟩⟩
          · rcases List.mem_append.mp z with z | z
            · exact nd.1 z
            · exact ne1 a z rfl
          · subst e; exact trk0 b (List.mem_cons_of_mem _ hb) (m1 b hc').1
        · rw [hFi]
          rcases List.mem_cons.mp hb with e | hb
          · subst e; exact .inl List.mem_cons_self
          · rcases List.mem_append.mp hb with hb | hb
            · exact .inl (List.mem_cons_of_mem _ hb)
            · exact .inr (m1 b hb).1
        · by_cases e : b = a
          · subst e; exact ⟨by rw [upd_same]; trivial⟩
          · rw [upd_ne e]
            rcases List.mem_cons.mp hb with z | hb
            · exact absurd z e
            · rcases List.mem_append.mp hb with hb | hb
              · exact ((own.2 b (List.mem_cons_of_mem _ hb)).2).same s1
              · exact (m1 b hb).2
      · have q : OutOk X.K CA W A H0 G D (if okIn k [d] = true ∧ ds.length < LIM then .nx ((inv i ρ).set i (.ow (.lst (ds ++ [d])))) else .st) := q
        rw [if_neg hc] at q
        exact q.elim
  · exact h.elim
end
def runF (m : Nat) (body : SS) (ds : List D) : R KD := match body (ds.map (Sl.bo []) ++ List.replicate (m - ds.length) .no) with
  | .rt k d => .ok (nk k d, d)
  | .nx _ => .ok (.own, .non)
  | .ex c _ => .ex c
  | _ => .st
def mkF (n m : Nat) (body : SS) : Fn := fun ds => if ds.length = n then runF m body ds else .st
section
variable {K : PySem.W.Frag}
theorem Reps.getI : ∀ {H : Hp} {ds : List D} {vs : List V} {f : List Addr} {i : Nat} {d : D}, Reps K H ds vs f → ds[i]? = some d → ∃ v g, vs[i]? = some v ∧ Rep K H d v g ∧ ∀ b ∈ g, b ∈ f := fun r e =>
  let ⟨v, g, h1, h2, h3, _⟩ := r.get e; ⟨v, g, h1, h2, h3⟩
theorem SR.init {A : Addr → Prop} {H : Hp} {ds : List D} {vs : List V} {f : List Addr} {N : List Str} (r : Reps K H ds vs f) (hA : ∀ a ∈ f, A a) (hN : ds.length ≤ N.length) :
    SR K A H (fun _ => []) [] (ds.map (Sl.bo []) ++ List.replicate (N.length - ds.length) Sl.no) (start N vs) H := by
  have no : ∀ (i : Nat) (x : Sl), (ds.map (Sl.bo []) ++ List.replicate (N.length - ds.length) Sl.no)[i]? = some x → x = .no ∨ ∃ d, ds[i]? = some d ∧ x = .bo [] d := fun i x e => by
    by_cases hi : i < ds.length
    · rw [List.getElem?_append_left (by simpa using hi), List.getElem?_map] at e
      cases hd : ds[i]? with
      | none => rw [hd] at e; cases e
      | some d => rw [hd] at e; cases e; exact .inr ⟨d, rfl, rfl⟩
    · rw [List.getElem?_append_right (by simpa using hi), List.getElem?_replicate] at e
      split at e
      · cases e; exact .inl rfl
      · cases e
  refine ⟨?_, Same.refl H, fun i => ⟨List.nodup_nil, (fun a ha => nomatch ha)⟩, (fun i j a hi => nomatch hi), fun i d e => ?_, fun i is d e => ?_, (fun p hp => nomatch hp), fun i _ hn => absurd rfl hn, ⟨0, fun _ _ => rfl⟩, fun z => by
    obtain ⟨i, e⟩ := hasT_iff.mp z
    rcases no i _ e with q | ⟨d', _, q⟩ <;> cases q⟩
  · unfold L2.start
    rw [List.length_append, List.length_append, List.length_map, List.length_map, List.length_replicate, List.length_replicate, r.length]
  · rcases no i _ e with q | ⟨d', _, q⟩ <;> cases q
  · rcases no i _ e with q | ⟨d', hd, q⟩
    · cases q
    · cases q
      obtain ⟨v, g, h1, h2, h3⟩ := r.getI hd
      refine ⟨v, g, ?_, h2, fun a ha => .inr ⟨.inl (hA a (h3 a ha)), fun j hj => nomatch hj⟩⟩
      have hi : i < vs.length := (List.getElem?_eq_some_iff.mp h1).1
      unfold L2.start
      rw [List.getElem?_append_left (by simpa using hi), List.getElem?_map, h1]
      rfl
end
section
variable {P : Program} {w : World} {K : PySem.W.Frag} {mg : Str → Option Value} {base : Heap} {CA : String → Addr}
theorem fn_ok {fn : Fn} {x qual : Str} {st : Stmt} {f : Addr} {fd : FuncData} {N ps : List Str} {k : Nat} {body : SS} {dvs : List V} (Fu : FunD K x qual (defArgs st) (defBody st) (defScope st) dvs [] f fd) (S : FnScope N ps (defScope st))
    (hb : ∀ (cdv : Value) (A : Around) (outer : List PySem.Env) (s : Shared) (H : Hp) (E : XK), Room k (A.deeper (envOfC qual (defScope st) s.heap.objs.size f cdv)) →
      PSs (cxOf (L2.CX P w) P w K mg base N qual (defScope st) f cdv A outer s H E) (defBody st) (tS K CA (fun cls d _ H => E cls d H) body))
    (hx : ∀ ds, ds.length = ps.length → fn ds = runF N.length body ds)
    (hN : ps.length ≤ N.length) : FnOk P w K mg base (L2.CX P w) (k + 1) f fd ps (spF K CA fn ps.length) := by
  refine Fu.ok S (fun vs H Q E ⟨A, ds, g, h1, h2, _⟩ => by rw [← h2.length]; exact h1) fun cdv Ar outer s H vs Q E hr ⟨A, ds, g, h1, h2, h3, h4⟩ => ?_
  refine ⟨_, hb cdv Ar outer s H E hr, A, H, fun _ => [], [], _, SR.init h2 h3 (by rw [h1]; exact hN), ?_⟩
  rw [hx ds h1] at h4
  unfold runF at h4
  cases hbo : body (ds.map (Sl.bo []) ++ List.replicate (N.length - ds.length) .no) with
  | nx ρ =>
    simp only [hbo] at h4
    exact fun σ' H' F' sr => h4 .non H' [] sr.fr .non ⟨List.nodup_nil, fun a ha => nomatch ha⟩
  | rt k d =>
    simp only [hbo] at h4
    refine fun v H' f s r o => h4 v H' f s r ?_
    unfold nk
    split
    · rename_i hz; rw [Rep.noL r hz]; exact ⟨List.nodup_nil, fun a ha => nomatch ha⟩
    · exact o
  | bk ρ => simp only [hbo] at h4
  | ct ρ => simp only [hbo] at h4
  | ex c ρ => simp only [hbo] at h4; exact fun σ' H' F' sr => h4 H' sr.fr
  | st => simp only [hbo] at h4
  | ri ρ k d => simp only [hbo] at h4
end
end Cz
set_option maxHeartbeats 1000000
namespace Cz
open PySem PySem.Spec PyProof.Rows L2
theorem hu65 {k : Nat} {A : Around} (hr : Room k A) : A.units + 65 < cLine := by have := hr.un; omega
structure ExG (K : PySem.W.Frag) (mg : Str → Option Value) (CA : String → Addr) (x : String) : Prop where
  i : PySem.W.excIn K (CA x) [.type "ValueError", .type "Exception", .type "BaseException", .type "object"] "ValueError.__new__" = true
  g : mg (Str.ofString x) = some (.ref (CA x))
  k : PySem.W.keepIn K (.ref (CA x)) = true
  b : PySem.W.subIn K (.ref (CA x)) (.type "BaseException") = some true
  t : PySem.W.typeIn K (.ref (CA x)) = some (.type "type")
theorem ExG.r {X : Cx} {CA : String → Addr} {x : String} {mg : Str → Option Value} (e : ExG X.K mg CA x) : Raises X (.ref (CA x)) := raises_own e.b e.t
def caOf (mg : Str → Option Value) (x : String) : Addr := match mg (Str.ofString x) with
  | some (.ref a) => a
  | _ => 0
theorem exG_of {K : PySem.W.Frag} {h : Heap} {mg : Str → Option Value} {C : Addr} {x : String} (X : K.In h) (G : h.Ns mainGlobals mg) (a : PySem.W.nsIn K mainGlobals (Str.ofString x) = some (some (.ref C))) (i : PySem.W.excIn K C [.type "ValueError", .type "Exception", .type "BaseException", .type "object"] "ValueError.__new__" = true)
    (k : PySem.W.keepIn K (.ref C) = true) (b : PySem.W.subIn K (.ref C) (.type "BaseException") = some true) (t : PySem.W.typeIn K (.ref C) = some (.type "type")) : ExG K mg (caOf mg) x := by
  have e : mg (Str.ofString x) = some (.ref C) := PySem.W.mg_of X G a
  have e2 : caOf mg x = C := by unfold caOf; rw [e]
  exact ⟨e2 ▸ i, by rw [e2]; exact e, e2 ▸ k, e2 ▸ b, e2 ▸ t⟩
section
variable {P : Program} {w : World} {K : PySem.W.Frag} {mg : Str → Option Value} {base : Heap} {CA : String → Addr}
theorem fn_g {k : Nat} {x : String} {n : Nat} {ps : List Str} {m : Nat} {body : SS} {f : Addr} {fd : FuncData} {dvs : List V} {ds : List Value} {dd : List D} (hm : mg (Str.ofString x) = some (.ref f)) (h : FnOk P w K mg base (L2.CX P w) k f fd ps (spF K CA (mkF n m body) ps.length))
    (kp : PySem.W.keepIn K (.ref f) = true) (b : Binds K fd ps ds) (v : Vals dvs ds) (r : ∀ H, Reps K H dd dvs []) (hn : n = ps.length) : FnG P w K mg base CA (mkF n m body) k x dd := by
  refine ⟨f, fd, ps, dvs, ds, hm, h, kp, b, v, r, fun as z => ?_⟩
  unfold mkF at z
  split at z
  · rw [← hn]; assumption
  · exact absurd rfl z
theorem mkF_of {n m : Nat} {body : SS} {ds : List D} (h : ds.length = n) : mkF n m body ds = runF m body ds := if_pos h
end
end Cz
set_option maxHeartbeats 2000000
namespace Cz
open PySem PySem.Spec PyProof.Rows L2
section
end
section
variable {K : PySem.W.Frag}
def rngc (lo c : Int) (n : Nat) : List D := (List.range n).map fun (i : Nat) => .int (lo + (i : Int) * c)
theorem iter_rngc {lo c : Int} {n : Nat} : IterOk K (Itc lo c n) (rngc lo c n) [] := by
  refine ⟨fun H P i hi h => ?_, fun H P h => ?_, fun H P i x H' hi h y => ?_⟩
  · show i < n
    simpa [rngc] using hi
  · show n ≤ _
    simp [rngc]
  · obtain ⟨e, ex⟩ := y
    subst e; subst ex
    have hi : i < n := by simpa [rngc] using hi
    exact ⟨Same.refl _, .int (lo + (i : Int) * c), [], by simp [rngc, hi], .int _, fun _ q => nomatch q⟩
end
def upN (i j k : Int) : Nat := (if i < j then (j - i - 1) / k + 1 else 0).toNat
theorem upN_ok {i j k : Int} (hk : 0 < k) (hk2 : k < 1073741824) (ha : -(2 ^ 62) ≤ i) (ha' : i < 2 ^ 62) (hb : -(2 ^ 62) ≤ j) (hb' : j < 2 ^ 62) : RgC i j k (upN i j k) := by
  have e : Builtin.Range.rangeSize i j k = if i < j then (j - i - 1) / k + 1 else 0 := by
    unfold Builtin.Range.rangeSize
    rw [if_pos hk]
  have h0 : 0 ≤ (if i < j then (j - i - 1) / k + 1 else 0) ∧ (if i < j then (j - i - 1) / k + 1 else 0) ≤ 9223372036854775807 := by
    split
    · have h1 : 0 ≤ (j - i - 1) / k := Int.ediv_nonneg (by omega) (by omega)
      have h2 : (j - i - 1) / k ≤ j - i - 1 := Int.ediv_le_self _ (by omega)
      omega
    · omega
  refine ⟨by omega, by omega, ?_, by rw [e]; unfold upN; omega⟩
  unfold Builtin.Range.small
  rw [e]
  generalize (if i < j then (j - i - 1) / k + 1 else 0) = z at h0 ⊢
  simp only [Builtin.Range.rangeFitsLong, Bool.and_eq_true, Bool.or_eq_true, decide_eq_true_eq, beq_iff_eq]
  refine ⟨by omega, .inr ?_⟩
  rw [if_pos (by omega)]
  simp only [Bool.and_eq_true, decide_eq_true_eq]
  omega
noncomputable def rngdI (a b c : SE) : SI := fun ρ => (a ρ).bind fun x => (b ρ).bind fun y => (c ρ).bind fun z => match x.2, y.2, z.2 with
  | .int i, .int j, .int k => if k = -1 ∧ (rgOk i && rgOk j) = true then .ok (.own, rngc i (-1) (i - j).toNat) else if (0 < k ∧ k < 1073741824) ∧ (rgOk i && rgOk j) = true then .ok (.own, rngc i k (upN i j k)) else .st
  | _, _, _ => .st
abbrev SRg := Env → R (Int × Int)
section
variable {X : Cx} {CA : String → Addr} {W : WX} {pos p tpos : Pos} {tg e a b c : Expr} {sa sb sc : SE} {elts : List Expr} {kk : Nat} {r : SRg}
theorem i_rngd (hm : X.mg "range" = none) (ha : PE X a (tE X.K CA W sa)) (hb : PE X b (tE X.K CA W sb)) (hc : PE X c (tE X.K CA W sc)) (hg : Gl X "range" := by rfl) (hs : starEach [a, b, c] X.env = (false, eval a X.env) :: starEach [b, c] X.env := by rfl)
    (hs2 : starEach [b, c] X.env = (false, eval b X.env) :: starEach [c] X.env := by rfl) (hs3 : starEach [c] X.env = (false, eval c X.env) :: starEach [] X.env := by rfl) (hpl : (backTo pos (starEach [b, c] X.env)).any (·.1) = false := by rfl) :
    PI X tg (.Call (.Name "range" p) [a, b, c] [] pos) (tI X.K CA W (rngdI sa sb sc)) := by
  refine piI (pi_range3 hg hm (pa_cons ha (pa_cons hb (pa_cons hc pa_nil hs3) hs2) hs) hs hpl) fun σ H R ⟨A, H0, F, G, ρ, sr, h⟩ => ?_
  refine ⟨A, H0, F, G, ρ, sr, h.bind fun ⟨k, d⟩ h1 => ?_⟩
  intro v H1 f s1 r o
  refine ⟨A, H0, F, G, ρ, sr.same s1, (h1.later s1).bind fun ⟨k2, d2⟩ h2 => ?_⟩
  intro v2 H2 f2 s2 r2 o2
  refine ⟨A, H0, F, G, ρ, (sr.same s1).same s2, (h2.later s2).bind fun ⟨k3, d3⟩ h3 => ?_⟩
  intro v3 H3 f3 s3 r3 o3
  cases d with
  | int i =>
    cases d2 with
    | int j =>
      cases d3 with
      | int m =>
        cases r; cases r2; cases r3
        by_cases c1 : m = -1 ∧ (rgOk i && rgOk j) = true
        · have h4 := h3
          simp only [c1, and_self, if_true] at h4
          obtain ⟨em, hz⟩ := c1
          subst em
          have hz' := Bool.and_eq_true_iff.mp hz
          exact ⟨i, j, -1, _, rfl, RgC.neg (rgOk_lo hz'.1) (rgOk_hi hz'.1) (rgOk_lo hz'.2) (rgOk_hi hz'.2), h4 _ _ _ ((s1.trans s2).trans s3) iter_rngc (fun p hp => nomatch hp)⟩
        · have h4 := h3
          simp only [c1, if_false] at h4
          obtain ⟨⟨hm, hz⟩, h5⟩ := h4.ite
          have hz' := Bool.and_eq_true_iff.mp hz
          exact ⟨i, j, m, _, rfl, upN_ok hm.1 hm.2 (rgOk_lo hz'.1) (rgOk_hi hz'.1) (rgOk_lo hz'.2) (rgOk_hi hz'.2), h5 _ _ _ ((s1.trans s2).trans s3) iter_rngc (fun p hp => nomatch hp)⟩
      | _ => exact h3.elim
    | _ => exact h3.elim
  | _ => exact h3.elim
end
end Cz
set_option maxHeartbeats 2000000
namespace Cz
open PySem PySem.Spec PyProof.Rows L2
inductive Ix where
  | at (j : Nat) | key (k : Key) | fld (f : Str) | un
def putD {κ : Type} [DecidableEq κ] (kvs : List (κ × D)) (k : κ) (v : D) : List (κ × D) := if (kvs.any fun kv => decide (kv.1 = k)) = true then kvs.map (fun kv => if kv.1 = k then (kv.1, v) else kv) else kvs ++ [(k, v)]
def getP : List Ix → D → Option D
  | [], d => some d
  | .at j :: q, .lst ds => ds[j]?.bind (getP q)
  | .at j :: q, .tup ds => ds[j]?.bind (getP q)
  | .key k :: q, .dic kvs => (valD kvs k).bind (getP q)
  | .fld f :: q, .obj _ _ fs => (valD fs f).bind (getP q)
  | .un :: q, .tg _ d => getP q d
  | _ :: _, _ => none
def setP : List Ix → D → D → Option D
  | [], _, n => some n
  | .at j :: q, .lst ds, n => ds[j]?.bind fun d => (setP q d n).map fun d' => .lst (ds.set j d')
  | .at j :: q, .tup ds, n => ds[j]?.bind fun d => (setP q d n).map fun d' => .tup (ds.set j d')
  | .key k :: q, .dic kvs, n => (valD kvs k).bind fun d => (setP q d n).map fun d' => .dic (putD kvs k d')
  | .fld f :: q, .obj t C fs, n => (valD fs f).bind fun d => (setP q d n).map fun d' => .obj t C (putD fs f d')
  | .un :: q, .tg t d, n => (setP q d n).map fun d' => .tg t d'
  | _ :: _, _, _ => none
def navV (H : Hp) : List Ix → V → Option V
  | [], v => some v
  | .at j :: q, .ref a => match H a with
    | some (.lst vs) => vs[j]?.bind (navV H q)
    | some (.tup vs) => vs[j]?.bind (navV H q)
    | _ => none
  | .key k :: q, .ref a => match H a with
    | some (.dK kvs) => (valV kvs k).bind (navV H q)
    | _ => none
  | .fld f :: q, .ref a => match H a with
    | some (.ins _ _ fs) => (valV fs f).bind (navV H q)
    | _ => none
  | .un :: q, v => navV H q v
  | _ :: _, _ => none
section
variable {K : PySem.W.Frag} {H H' : Hp}
theorem navV_same {q : List Ix} : ∀ {v w : V}, Same H H' → navV H q v = some w → navV H' q v = some w := by
  induction q with
  | nil => intro v w s h; exact h
  | cons i q ih =>
    intro v w s h
    cases i with
    | «at» j =>
      cases v with
      | ref a =>
        unfold navV at h ⊢
        cases hH : H a with
        | none => rw [hH] at h; cases h
        | some o =>
          rw [hH] at h
          rw [s a o hH]
          cases o with
          | lst vs =>
            simp only at h ⊢
            cases hv : vs[j]? with
            | none => rw [hv] at h; cases h
            | some x => rw [hv] at h; exact ih s h
          | tup vs =>
            simp only at h ⊢
            cases hv : vs[j]? with
            | none => rw [hv] at h; cases h
            | some x => rw [hv] at h; exact ih s h
          | _ => cases h
      | _ => cases h
    | key k =>
      cases v with
      | ref a =>
        unfold navV at h ⊢
        cases hH : H a with
        | none => rw [hH] at h; cases h
        | some o =>
          rw [hH] at h
          rw [s a o hH]
          cases o with
          | dK kvs =>
            simp only at h ⊢
            cases hv : valV kvs k with
            | none => rw [hv] at h; cases h
            | some x => rw [hv] at h; exact ih s h
          | _ => cases h
      | _ => cases h
    | fld k =>
      cases v with
      | ref a =>
        unfold navV at h ⊢
        cases hH : H a with
        | none => rw [hH] at h; cases h
        | some o =>
          rw [hH] at h
          rw [s a o hH]
          cases o with
          | ins _ _ kvs =>
            simp only at h ⊢
            cases hv : valV kvs k with
            | none => rw [hv] at h; cases h
            | some x => rw [hv] at h; exact ih s h
          | _ => cases h
      | _ => cases h
    | un => exact ih s (by unfold navV at h; exact h)
theorem Reps.at : ∀ {ds : List D} {vs : List V} {f : List Addr} {j : Nat} {d : D}, Reps K H ds vs f → ds[j]? = some d → ∃ v p g r, vs[j]? = some v ∧ f = p ++ g ++ r ∧ Rep K H d v g ∧
    ∀ (H' : Hp) d' g', (∀ b o, H b = some o → IsT o → H' b = some o) → (∀ b, b ∈ p ∨ b ∈ r → ∀ o, H b = some o → H' b = some o) → Rep K H' d' v g' → Reps K H' (ds.set j d') vs (p ++ g' ++ r)
  | _, _, _, 0, d, .cons (f := f1) (g := g1) r t, e => by
    simp at e; subst e
    refine ⟨_, [], f1, g1, rfl, rfl, r, fun H' d' g' ht hk r' => ?_⟩
    exact .cons r' (t.frame ht fun a ha => hk a (.inr ha))
  | _, _, _, j + 1, d, .cons (f := f1) (g := g1) r t, e => by
    obtain ⟨v, p, g, q, h1, h2, h3, h4⟩ := Reps.at (j := j) (d := d) t (by simpa using e)
    subst h2
    refine ⟨v, f1 ++ p, g, q, by simpa using h1, by simp, h3, fun H' d' g' ht hk r' => ?_⟩
    have := Reps.cons (r.frame ht fun a ha => hk a (.inl (List.mem_append_left _ ha))) (h4 H' d' g' ht (fun b hb => hk b (hb.imp (fun z => List.mem_append_right _ z) id)) r')
    simpa using this
theorem putD_cons_ne {κ : Type} [DecidableEq κ] {k k' : κ} {d v : D} {r : List (κ × D)} (h : k' ≠ k) : putD ((k', d) :: r) k v = (k', d) :: putD r k v := by
  unfold putD
  simp only [List.any_cons, h, decide_false, Bool.false_or]
  split <;> simp [h]
theorem putK_cons_ne {κ : Type} [DecidableEq κ] {k k' : κ} {d v : V} {r : List (κ × V)} (h : k' ≠ k) : putK ((k', d) :: r) k v = (k', d) :: putK r k v := by
  unfold putK
  simp only [List.any_cons, h, decide_false, Bool.false_or]
  split <;> simp [h]
theorem map_out {κ : Type} [DecidableEq κ] {k : κ} {v : D} : ∀ {r : List (κ × D)}, k ∉ r.map (·.1) → r.map (fun kv => if kv.1 = k then (kv.1, v) else kv) = r
  | [], _ => rfl
  | (k', d) :: r, h => by
    have h1 : ¬ k' = k := fun e => h (by simp [e])
    have h2 : k ∉ r.map (·.1) := fun z => h (List.mem_cons_of_mem _ z)
    rw [List.map_cons, map_out h2]
    simp [h1]
theorem map_outV {κ : Type} [DecidableEq κ] {k : κ} {v : V} : ∀ {r : List (κ × V)}, k ∉ r.map (·.1) → r.map (fun kv => if kv.1 = k then (kv.1, v) else kv) = r
  | [], _ => rfl
  | (k', d) :: r, h => by
    have h1 : ¬ k' = k := fun e => h (by simp [e])
    have h2 : k ∉ r.map (·.1) := fun z => h (List.mem_cons_of_mem _ z)
    rw [List.map_cons, map_outV h2]
    simp [h1]
theorem RepK.keys {κ : Type} : ∀ {kds : List (κ × D)} {kvs : List (κ × V)} {f : List Addr}, RepK K H kds kvs f → kvs.map (·.1) = kds.map (·.1)
  | _, _, _, .nil => rfl
  | _, _, _, .cons r t => by simp [RepK.keys t]
theorem putD_in {κ : Type} [DecidableEq κ] {kvs : List (κ × D)} {k : κ} (v : D) (h : k ∈ kvs.map (·.1)) : (putD kvs k v).map (·.1) = kvs.map (·.1) := by
  unfold putD
  have h2 : (kvs.any fun kv => decide (kv.1 = k)) = true := by
    obtain ⟨p, hp, e⟩ := List.mem_map.mp h
    exact List.any_eq_true.mpr ⟨p, hp, decide_eq_true e⟩
  rw [if_pos h2, List.map_map]
  refine List.map_congr_left fun p _ => ?_
  simp only [Function.comp]
  split <;> simp_all
theorem putD_out {κ : Type} [DecidableEq κ] {kvs : List (κ × D)} {k : κ} (v : D) (h : k ∉ kvs.map (·.1)) : putD kvs k v = kvs ++ [(k, v)] := by
  unfold putD
  have h2 : ¬ (kvs.any fun kv => decide (kv.1 = k)) = true := fun z => by
    obtain ⟨p, hp, e⟩ := List.any_eq_true.mp z
    exact h (List.mem_map.mpr ⟨p, hp, of_decide_eq_true e⟩)
  rw [if_neg h2]
theorem putD_nodup {κ : Type} [DecidableEq κ] {kvs : List (κ × D)} {k : κ} {v : D} (h : (kvs.map (·.1)).Nodup) : ((putD kvs k v).map (·.1)).Nodup := by
  rcases Classical.em (k ∈ kvs.map (·.1)) with hk | hk
  · rw [putD_in v hk]; exact h
  · rw [putD_out v hk, List.map_append]
    exact List.nodup_append.mpr ⟨h, by simp, fun a ha b hb e => hk (by
      have : b = k := by simpa using hb
      rw [this] at e; exact e ▸ ha)⟩
theorem RepK.at {κ : Type} [DecidableEq κ] : ∀ {kds : List (κ × D)} {kvs : List (κ × V)} {f : List Addr} {k : κ} {d : D}, RepK K H kds kvs f → (kds.map (·.1)).Nodup → valD kds k = some d → ∃ v p g r, valV kvs k = some v ∧ f = p ++ g ++ r ∧ Rep K H d v g ∧
    ∀ (H' : Hp) d' g' v', (∀ b o, H b = some o → IsT o → H' b = some o) → (∀ b, b ∈ p ∨ b ∈ r → ∀ o, H b = some o → H' b = some o) → Rep K H' d' v' g' → RepK K H' (putD kds k d') (putK kvs k v') (p ++ g' ++ r)
  | _, _, _, k, d, .cons (k := k0) (d := d0) (v := v0) (f := f1) (ds := ds) (vs := vs) (g := g1) r t, n, e => by
    rw [List.map_cons, List.nodup_cons] at n
    by_cases h : k0 = k
    · have e : d0 = d := by simpa [valD, h] using e
      subst e; subst h
      refine ⟨v0, [], f1, g1, valV_pos rfl, rfl, r, fun H' d' g' v' ht hk r' => ?_⟩
      have n1 : k0 ∉ ds.map (·.1) := n.1
      have n2 : k0 ∉ vs.map (·.1) := by rw [t.keys]; exact n1
      have e1 : putD ((k0, d0) :: ds) k0 d' = (k0, d') :: ds := by
        unfold putD
        rw [if_pos (by simp), List.map_cons, map_out n1]; simp
      have e2 : putK ((k0, v0) :: vs) k0 v' = (k0, v') :: vs := by
        unfold putK
        rw [if_pos (by simp), List.map_cons, map_outV n2]; simp
      rw [e1, e2]
      exact .cons r' (t.frame ht fun a ha => hk a (.inr ha))
    · obtain ⟨v, p, g, q, h1, h2, h3, h4⟩ := RepK.at (k := k) (d := d) t n.2 (by simpa [valD, h] using e)
      subst h2
      refine ⟨v, f1 ++ p, g, q, by rw [valV_neg (p := (k0, v0)) h]; exact h1, by simp, h3, fun H' d' g' v' ht hk r' => ?_⟩
      rw [putD_cons_ne h, putK_cons_ne h]
      have := RepK.cons (k := k0) (r.frame ht fun a ha => hk a (.inl (List.mem_append_left _ ha))) (h4 H' d' g' v' ht (fun b hb => hk b (hb.imp (fun z => List.mem_append_right _ z) id)) r')
      simpa using this
theorem putK_same {κ : Type} [DecidableEq κ] : ∀ {kvs : List (κ × V)} {k : κ} {v : V}, valV kvs k = some v → (kvs.map (·.1)).Nodup → putK kvs k v = kvs
  | [], k, v, h, _ => by cases h
  | (k', w) :: r, k, v, h, n => by
    rw [List.map_cons, List.nodup_cons] at n
    by_cases e : k' = k
    · subst e
      rw [valV_pos (p := (k', w)) rfl] at h
      cases h
      unfold putK
      rw [if_pos (by simp), List.map_cons, map_outV n.1]; simp
    · rw [putK_cons_ne e, putK_same (by rw [valV_neg (p := (k', w)) e] at h; exact h) n.2]
theorem nav_rep : ∀ {q : List Ix} {d d0 : D} {v : V} {f : List Addr}, Rep K H d v f → getP q d = some d0 → ∃ v0 f0, navV H q v = some v0 ∧ Rep K H d0 v0 f0 ∧ (∀ b ∈ f0, b ∈ f) ∧ (f.Nodup → f0.Nodup) ∧
    (f.Nodup → ∀ (H' : Hp) d0' f0', (∀ b o, H b = some o → IsT o → H' b = some o) → (∀ b ∈ f, b ∉ f0 → ∀ o, H b = some o → H' b = some o) → Rep K H' d0' v0 f0' → f0'.Nodup → (∀ b ∈ f0', b ∈ f0 ∨ b ∉ f) →
      ∃ d' f', setP q d d0' = some d' ∧ Rep K H' d' v f' ∧ f'.Nodup ∧ ∀ b ∈ f', b ∈ f0' ∨ (b ∈ f ∧ b ∉ f0)) := by
  intro q
  induction q with
  | nil =>
    intro d d0 v f r e
    cases e
    exact ⟨v, f, rfl, r, fun _ h => h, fun h => h, fun _ H' d0' f0' _ _ r' n' _ => ⟨d0', f0', rfl, r', n', fun b hb => .inl hb⟩⟩
  | cons i q ih =>
    intro d d0 v f r e
    -- the common end: f = a :: (p ++ g ++ s)
    have fin : ∀ {a : Addr} {p g s f0 : List Addr}, (a :: (p ++ g ++ s)).Nodup → (∀ b ∈ f0, b ∈ g) → ∀ {f0' g' : List Addr}, (∀ b ∈ f0', b ∈ f0 ∨ b ∉ a :: (p ++ g ++ s)) → g'.Nodup → (∀ b ∈ g', b ∈ f0' ∨ (b ∈ g ∧ b ∉ f0)) →
        (a :: (p ++ g' ++ s)).Nodup ∧ ∀ b ∈ a :: (p ++ g' ++ s), b ∈ f0' ∨ (b ∈ a :: (p ++ g ++ s) ∧ b ∉ f0) := fun {a p g s f0} n hs {f0' g'} hf hn hg => by
      have n1 := List.nodup_cons.mp n
      obtain ⟨n2, n3, n4⟩ := List.nodup_append.mp n1.2
      obtain ⟨n5, n6, n7⟩ := List.nodup_append.mp n2
      have mg : ∀ b ∈ g', b ∈ g ∨ b ∉ a :: (p ++ g ++ s) := fun b hb => by
        rcases hg b hb with z | z
        · exact (hf b z).imp (hs b) id
        · exact .inl z.1
      have ga : a ∉ g' := fun z => by
        rcases mg a z with z | z
        · exact n1.1 (by simp [z])
        · exact z (by simp)
      have gp : ∀ x ∈ p, ∀ y ∈ g', x ≠ y := fun x hx y hy e => by
        subst e
        rcases mg x hy with z | z
        · exact n7 x hx x z rfl
        · exact z (by simp [hx])
      have gs : ∀ x ∈ g', ∀ y ∈ s, x ≠ y := fun x hx y hy e => by
        subst e
        rcases mg x hx with z | z
        · exact n4 x (List.mem_append_right _ z) x hy rfl
        · exact z (by simp [hy])
      refine ⟨List.nodup_cons.mpr ⟨fun z => ?_, List.nodup_append.mpr ⟨List.nodup_append.mpr ⟨n5, hn, gp⟩, n3, fun x hx y hy => ?_⟩⟩, fun b hb => ?_⟩
      · rcases List.mem_append.mp z with z | z
        · rcases List.mem_append.mp z with z | z
          · exact n1.1 (by simp [z])
          · exact ga z
        · exact n1.1 (by simp [z])
      · rcases List.mem_append.mp hx with z | z
        · exact n4 x (List.mem_append_left _ z) y hy
        · exact gs x z y hy
      · have other : b ∉ g → b ∈ a :: (p ++ g ++ s) → b ∈ f0' ∨ (b ∈ a :: (p ++ g ++ s) ∧ b ∉ f0) := fun h1 h2 => .inr ⟨h2, fun z => h1 (hs b z)⟩
        rcases List.mem_cons.mp hb with z | z
        · subst z; exact other (fun w => n1.1 (by simp [w])) (by simp)
        · rcases List.mem_append.mp z with z | z
          · rcases List.mem_append.mp z with z | z
            · exact other (fun w => n7 b z b w rfl) (by simp [z])
            · rcases hg b z with w | w
              · exact .inl w
              · exact .inr ⟨by simp [w.1], w.2⟩
          · exact other (fun w => n4 b (List.mem_append_right _ w) b z rfl) (by simp [z])
    have fin0 : ∀ {p g s f0 : List Addr}, (p ++ g ++ s).Nodup → (∀ b ∈ f0, b ∈ g) → ∀ {f0' g' : List Addr}, (∀ b ∈ f0', b ∈ f0 ∨ b ∉ p ++ g ++ s) → g'.Nodup → (∀ b ∈ g', b ∈ f0' ∨ (b ∈ g ∧ b ∉ f0)) →
        (p ++ g' ++ s).Nodup ∧ ∀ b ∈ p ++ g' ++ s, b ∈ f0' ∨ (b ∈ p ++ g ++ s ∧ b ∉ f0) := fun {p g s f0} n hs {f0' g'} hf hn hg => by
      obtain ⟨n2, n3, n4⟩ := List.nodup_append.mp n
      obtain ⟨n5, n6, n7⟩ := List.nodup_append.mp n2
      have mg : ∀ b ∈ g', b ∈ g ∨ b ∉ p ++ g ++ s := fun b hb => by
        rcases hg b hb with z | z
        · exact (hf b z).imp (hs b) id
        · exact .inl z.1
      have gp : ∀ x ∈ p, ∀ y ∈ g', x ≠ y := fun x hx y hy e => by
        subst e
        rcases mg x hy with z | z
        · exact n7 x hx x z rfl
        · exact z (by simp [hx])
      have gs : ∀ x ∈ g', ∀ y ∈ s, x ≠ y := fun x hx y hy e => by
        subst e
        rcases mg x hx with z | z
        · exact n4 x (List.mem_append_right _ z) x hy rfl
        · exact z (by simp [hy])
      refine ⟨List.nodup_append.mpr ⟨List.nodup_append.mpr ⟨n5, hn, gp⟩, n3, fun x hx y hy => ?_⟩, fun b hb => ?_⟩
      · rcases List.mem_append.mp hx with z | z
        · exact n4 x (List.mem_append_left _ z) y hy
        · exact gs x z y hy
      · have other : b ∉ g → b ∈ p ++ g ++ s → b ∈ f0' ∨ (b ∈ p ++ g ++ s ∧ b ∉ f0) := fun h1 h2 => .inr ⟨h2, fun z => h1 (hs b z)⟩
        rcases List.mem_append.mp hb with z | z
        · rcases List.mem_append.mp z with z | z
          · exact other (fun w => n7 b z b w rfl) (by simp [z])
          · rcases hg b z with w | w
            · exact .inl w
            · exact .inr ⟨by simp [w.1], w.2⟩
        · exact other (fun w => n4 b (List.mem_append_right _ w) b z rfl) (by simp [z])
    cases i with
    | «at» j =>
      cases d with
      | lst ds =>
        unfold getP at e
        cases hd : ds[j]? with
        | none => rw [hd] at e; cases e
        | some dj =>
          rw [hd] at e
          cases r with
          | @lst a vs _ f1 hl rs =>
          obtain ⟨vj, p, g, s, h1, h2, h3, h4⟩ := rs.at hd
          subst h2
          obtain ⟨v0, f0, k1, k2, k3, k4, k5⟩ := ih h3 e
          have gn : (a :: (p ++ g ++ s)).Nodup → g.Nodup := fun n => (List.nodup_append.mp (List.nodup_append.mp (List.nodup_cons.mp n).2).1).2.1
          refine ⟨v0, f0, by unfold navV; rw [hl]; simp only [h1]; exact k1, k2, fun b hb => by have := k3 b hb; simp [this], fun n => k4 (gn n), fun n H' d0' f0' ht hk r' n' hb => ?_⟩
          have ng := gn n
          have nn := List.nodup_cons.mp n
          obtain ⟨m2, m3, m4⟩ := List.nodup_append.mp nn.2
          obtain ⟨m5, m6, m7⟩ := List.nodup_append.mp m2
          obtain ⟨dj', g', e1, e2, e3, e4⟩ := k5 ng H' d0' f0' ht (fun b hb' hn => hk b (by simp [hb']) hn) r' n' fun b hb' => (hb b hb').imp id fun z w => z (by simp [w])
          have keep : ∀ b, b ∈ p ∨ b ∈ s → ∀ o, H b = some o → H' b = some o := fun b hb' => by
            rcases hb' with z | z
            · exact hk b (by simp [z]) fun w => m7 b z b (k3 b w) rfl
            · exact hk b (by simp [z]) fun w => m4 b (List.mem_append_right _ (k3 b w)) b z rfl
          obtain ⟨x1, x2⟩ := fin n k3 hb e3 e4
          exact ⟨.lst (ds.set j dj'), a :: (p ++ g' ++ s), by unfold setP; rw [hd]; simp [e1], .lst (hk a (by simp) (fun w => nn.1 (by simp [k3 a w])) _ hl) (h4 H' dj' g' ht keep e2), x1, x2⟩
      | tup ds =>
        unfold getP at e
        cases hd : ds[j]? with
        | none => rw [hd] at e; cases e
        | some dj =>
          rw [hd] at e
          cases r with
          | @tup a vs _ f1 hl rs =>
          obtain ⟨vj, p, g, s, h1, h2, h3, h4⟩ := rs.at hd
          subst h2
          obtain ⟨v0, f0, k1, k2, k3, k4, k5⟩ := ih h3 e
          have gn : (p ++ g ++ s).Nodup → g.Nodup := fun n => (List.nodup_append.mp (List.nodup_append.mp n).1).2.1
          refine ⟨v0, f0, by unfold navV; rw [hl]; simp only [h1]; exact k1, k2, fun b hb => by have := k3 b hb; simp [this], fun n => k4 (gn n), fun n H' d0' f0' ht hk r' n' hb => ?_⟩
          have ng := gn n
          obtain ⟨m2, m3, m4⟩ := List.nodup_append.mp n
          obtain ⟨m5, m6, m7⟩ := List.nodup_append.mp m2
          obtain ⟨dj', g', e1, e2, e3, e4⟩ := k5 ng H' d0' f0' ht (fun b hb' hn => hk b (by simp [hb']) hn) r' n' fun b hb' => (hb b hb').imp id fun z w => z (by simp [w])
          have keep : ∀ b, b ∈ p ∨ b ∈ s → ∀ o, H b = some o → H' b = some o := fun b hb' => by
            rcases hb' with z | z
            · exact hk b (by simp [z]) fun w => m7 b z b (k3 b w) rfl
            · exact hk b (by simp [z]) fun w => m4 b (List.mem_append_right _ (k3 b w)) b z rfl
          obtain ⟨x1, x2⟩ := fin0 n k3 hb e3 e4
          exact ⟨.tup (ds.set j dj'), p ++ g' ++ s, by unfold setP; rw [hd]; simp [e1], .tup (ht _ _ hl trivial) (h4 H' dj' g' ht keep e2), x1, x2⟩
      | _ => simp [getP] at e
    | key k =>
      cases d with
      | dic kds =>
        unfold getP at e
        cases hd : valD kds k with
        | none => rw [hd] at e; cases e
        | some dj =>
          rw [hd] at e
          cases r with
          | @dic a kvs _ f1 hl nk rs =>
          obtain ⟨vj, p, g, s, h1, h2, h3, h4⟩ := rs.at nk hd
          subst h2
          obtain ⟨v0, f0, k1, k2, k3, k4, k5⟩ := ih h3 e
          have gn : (a :: (p ++ g ++ s)).Nodup → g.Nodup := fun n => (List.nodup_append.mp (List.nodup_append.mp (List.nodup_cons.mp n).2).1).2.1
          refine ⟨v0, f0, by unfold navV; rw [hl]; simp only [h1]; exact k1, k2, fun b hb => by have := k3 b hb; simp [this], fun n => k4 (gn n), fun n H' d0' f0' ht hk r' n' hb => ?_⟩
          have ng := gn n
          have nn := List.nodup_cons.mp n
          obtain ⟨m2, m3, m4⟩ := List.nodup_append.mp nn.2
          obtain ⟨m5, m6, m7⟩ := List.nodup_append.mp m2
          obtain ⟨dj', g', e1, e2, e3, e4⟩ := k5 ng H' d0' f0' ht (fun b hb' hn => hk b (by simp [hb']) hn) r' n' fun b hb' => (hb b hb').imp id fun z w => z (by simp [w])
          have keep : ∀ b, b ∈ p ∨ b ∈ s → ∀ o, H b = some o → H' b = some o := fun b hb' => by
            rcases hb' with z | z
            · exact hk b (by simp [z]) fun w => m7 b z b (k3 b w) rfl
            · exact hk b (by simp [z]) fun w => m4 b (List.mem_append_right _ (k3 b w)) b z rfl
          obtain ⟨x1, x2⟩ := fin n k3 hb e3 e4
          have r4 := h4 H' dj' g' vj ht keep e2
          rw [putK_same h1 (by rw [rs.keys]; exact nk)] at r4
          exact ⟨.dic (putD kds k dj'), a :: (p ++ g' ++ s), by unfold setP; rw [hd]; simp [e1], .dic (hk a (by simp) (fun w => nn.1 (by simp [k3 a w])) _ hl) (putD_nodup nk) r4, x1, x2⟩
      | _ => simp [getP] at e
    | fld k =>
      cases d with
      | obj tg Cn kds =>
        unfold getP at e
        cases hd : valD kds k with
        | none => rw [hd] at e; cases e
        | some dj =>
          rw [hd] at e
          cases r with
          | @obj _ _ a Ca dx kvs _ f1 hl hC nk rs htg =>
          obtain ⟨vj, p, g, s, h1, h2, h3, h4⟩ := rs.at nk hd
          subst h2
          obtain ⟨v0, f0, k1, k2, k3, k4, k5⟩ := ih h3 e
          have gn : (a :: (p ++ g ++ s)).Nodup → g.Nodup := fun n => (List.nodup_append.mp (List.nodup_append.mp (List.nodup_cons.mp n).2).1).2.1
          refine ⟨v0, f0, by unfold navV; rw [hl]; simp only [h1]; exact k1, k2, fun b hb => by have := k3 b hb; simp [this], fun n => k4 (gn n), fun n H' d0' f0' ht hk r' n' hb => ?_⟩
          have ng := gn n
          have nn := List.nodup_cons.mp n
          obtain ⟨m2, m3, m4⟩ := List.nodup_append.mp nn.2
          obtain ⟨m5, m6, m7⟩ := List.nodup_append.mp m2
          obtain ⟨dj', g', e1, e2, e3, e4⟩ := k5 ng H' d0' f0' ht (fun b hb' hn => hk b (by simp [hb']) hn) r' n' fun b hb' => (hb b hb').imp id fun z w => z (by simp [w])
          have keep : ∀ b, b ∈ p ∨ b ∈ s → ∀ o, H b = some o → H' b = some o := fun b hb' => by
            rcases hb' with z | z
            · exact hk b (by simp [z]) fun w => m7 b z b (k3 b w) rfl
            · exact hk b (by simp [z]) fun w => m4 b (List.mem_append_right _ (k3 b w)) b z rfl
          obtain ⟨x1, x2⟩ := fin n k3 hb e3 e4
          have r4 := h4 H' dj' g' vj ht keep e2
          rw [putK_same h1 (by rw [rs.keys]; exact nk)] at r4
          exact ⟨.obj tg Cn (putD kds k dj'), a :: (p ++ g' ++ s), by unfold setP; rw [hd]; simp [e1], .obj (hk a (by simp) (fun w => nn.1 (by simp [k3 a w])) _ hl) hC (putD_nodup nk) r4 htg, x1, x2⟩
      | _ => simp [getP] at e
    | un =>
      cases d with
      | tg tt d1 =>
        cases r with
        | @tg _ _ a _ r1 z =>
        obtain ⟨v0, f0, k1, k2, k3, k4, k5⟩ := ih r1 e
        refine ⟨v0, f0, k1, k2, k3, k4, fun n H' d0' f0' ht hk r' n' hb => ?_⟩
        obtain ⟨d', f', e1, e2, e3, e4⟩ := k5 n H' d0' f0' ht hk r' n' hb
        exact ⟨.tg tt d', f', by unfold setP; rw [e1]; rfl, .tg e2 z, e3, e4⟩
      | _ => simp [getP] at e
end
end Cz
set_option maxHeartbeats 2000000
namespace Cz
open PySem PySem.Spec PyProof.Rows L2
abbrev SPh := Env → R (Nat × List Ix × D)
def locP (i : Nat) : SPh := fun ρ => match ρ[i]? with
  | some (.ow d) => .ok (i, [], d)
  | _ => .st
def stepD : D → D → Option (Ix × D)
  | .lst ds, .int n => (ixN ds.length n).bind fun j => ds[j]?.map fun d => (.at j, d)
  | .tup ds, .int n => (ixN ds.length n).bind fun j => ds[j]?.map fun d => (.at j, d)
  | .dic kvs, y => (keyD y).bind fun k => (valD kvs k).map fun d => (.key k, d)
  | _, _ => none
def idxP (p : SPh) (e : SE) : SPh := fun ρ => (p ρ).bind fun x => (e ρ).bind fun y => match stepD x.2.2 y.2 with
  | some (i, d) => .ok (x.1, x.2.1 ++ [i], d)
  | none => .st
def PhAt (ρ : Env) (σ : L2.St) (H : Hp) (x : Nat × List Ix × D) (v : V) : Prop := ∃ d vj, ρ[x.1]? = some (.ow d) ∧ σ[x.1]? = some (some vj) ∧ getP x.2.1 d = some x.2.2 ∧ navV H x.2.1 vj = some v
def tP (CA : String → Addr) (W : WX) (K : PySem.W.Frag) (s : SPh) : TE := fun σ H Q => ∃ A H0 F G ρ, SR K A H0 F G ρ σ H ∧ Post K CA W σ H (s ρ) fun x => ∀ v H', Same H H' → PhAt ρ σ H' x v → Q v H'
theorem getP_app : ∀ {q : List Ix} {d d0 : D} {i : Ix}, getP q d = some d0 → getP (q ++ [i]) d = getP [i] d0
  | [], d, d0, i, h => by cases h; rfl
  | .at j :: q, d, d0, i, h => by
    cases d with
    | lst ds =>
      simp only [List.cons_append, getP] at h ⊢
      cases hd : ds[j]? with
      | none => rw [hd] at h; cases h
      | some x =>
        rw [hd] at h
        exact getP_app (q := q) (d := x) h
    | tup ds =>
      simp only [List.cons_append, getP] at h ⊢
      cases hd : ds[j]? with
      | none => rw [hd] at h; cases h
      | some x =>
        rw [hd] at h
        exact getP_app (q := q) (d := x) h
    | _ => simp [getP] at h
  | .key k :: q, d, d0, i, h => by
    cases d with
    | dic ds =>
      simp only [List.cons_append, getP] at h ⊢
      cases hd : valD ds k with
      | none => rw [hd] at h; cases h
      | some x =>
        rw [hd] at h
        exact getP_app (q := q) (d := x) h
    | _ => simp [getP] at h
  | .fld k :: q, d, d0, i, h => by
    cases d with
    | obj t C ds =>
      simp only [List.cons_append, getP] at h ⊢
      cases hd : valD ds k with
      | none => rw [hd] at h; cases h
      | some x =>
        rw [hd] at h
        exact getP_app (q := q) (d := x) h
    | _ => simp [getP] at h
  | .un :: q, d, d0, i, h => by
    cases d with
    | tg t d => exact getP_app (q := q) (d := d) h
    | _ => simp [getP] at h
theorem navV_app {H : Hp} : ∀ {q : List Ix} {v w : V} {i : Ix}, navV H q v = some w → navV H (q ++ [i]) v = navV H [i] w
  | [], v, w, i, h => by cases h; rfl
  | .at j :: q, v, w, i, h => by
    cases v with
    | ref a =>
      simp only [List.cons_append, navV] at h ⊢
      cases hH : H a with
      | none => rw [hH] at h; cases h
      | some o =>
        rw [hH] at h
        cases o with
        | lst vs =>
          simp only at h ⊢
          cases hv : vs[j]? with
          | none => rw [hv] at h; cases h
          | some x => rw [hv] at h; exact navV_app (q := q) (v := x) h
        | tup vs =>
          simp only at h ⊢
          cases hv : vs[j]? with
          | none => rw [hv] at h; cases h
          | some x => rw [hv] at h; exact navV_app (q := q) (v := x) h
        | _ => cases h
    | _ => cases h
  | .key k :: q, v, w, i, h => by
    cases v with
    | ref a =>
      simp only [List.cons_append, navV] at h ⊢
      cases hH : H a with
      | none => rw [hH] at h; cases h
      | some o =>
        rw [hH] at h
        cases o with
        | dK kvs =>
          simp only at h ⊢
          cases hv : valV kvs k with
          | none => rw [hv] at h; cases h
          | some x => rw [hv] at h; exact navV_app (q := q) (v := x) h
        | _ => cases h
    | _ => cases h
  | .fld k :: q, v, w, i, h => by
    cases v with
    | ref a =>
      simp only [List.cons_append, navV] at h ⊢
      cases hH : H a with
      | none => rw [hH] at h; cases h
      | some o =>
        rw [hH] at h
        cases o with
        | ins Ca dx kvs =>
          simp only at h ⊢
          cases hv : valV kvs k with
          | none => rw [hv] at h; cases h
          | some x => rw [hv] at h; exact navV_app (q := q) (v := x) h
        | _ => cases h
    | _ => cases h
  | .un :: q, v, w, i, h => navV_app (q := q) (v := v) h
section
variable {K : PySem.W.Frag} {A : Addr → Prop} {H0 Hb H : Hp} {F : Nat → List Addr} {G : List (D × V)} {ρ : Env} {σ : L2.St}
theorem PhAt.same {H' : Hp} {x : Nat × List Ix × D} {v : V} (h : PhAt ρ σ H x v) (s : Same H H') : PhAt ρ σ H' x v := let ⟨d, vj, h1, h2, h3, h4⟩ := h; ⟨d, vj, h1, h2, h3, navV_same s h4⟩
def putAt (ρ : Env) (x : Nat × List Ix × D) (d0' : D) : Option Env := (setP x.2.1 ((slD ρ[x.1]?).getD .non) d0').map fun d' => (inv x.1 ρ).set x.1 (.ow d')
theorem PhAt.open {x : Nat × List Ix × D} {v : V} (sr : SR K A H0 F G ρ σ Hb) (s : Same Hb H) (h : PhAt ρ σ H x v) : ∃ f0, Rep K H x.2.2 v f0 ∧ f0.Nodup ∧ (∀ b ∈ f0, Hb b ≠ none ∧ Mu (H b)) ∧
    ∀ (a : Addr) (o : HO) (d0' : D) (f0' : List Addr), v = .ref a → a ∈ f0 → MutX (some o) → Rep K (upd H a o) d0' v f0' → f0'.Nodup → (∀ b ∈ f0', b ∈ f0 ∨ Hb b = none) → (∀ b ∈ f0', Mu ((upd H a o) b)) →
      ∃ ρ' F', putAt ρ x d0' = some ρ' ∧ SR K A H0 F' G ρ' σ (upd H a o) := by
  have sr1 := sr.same s
  obtain ⟨d, vj, h1, h2, h3, h4⟩ := h
  obtain ⟨vj', h5, rj⟩ := sr1.slo _ d h1
  rw [h2] at h5; cases h5
  obtain ⟨v0, f0, k1, k2, k3, k4, k5⟩ := nav_rep rj h3
  rw [h4] at k1; cases k1
  have own := sr1.own x.1
  refine ⟨f0, k2, k4 own.1, fun b hb => ⟨((sr.own x.1).2 b (k3 b hb)).2.ne, (own.2 b (k3 b hb)).2⟩, fun a o d0' f0' ea ha hm r nf hf hmu => ?_⟩
  subst ea
  have hne : a ∈ F x.1 := k3 a ha
  have mua := (own.2 a hne).2
  have nt : ∀ b ob, H b = some ob → IsT ob → (upd H a o) b = some ob := fun b ob e t => by
    by_cases z : b = a
    · subst z
      rw [e] at mua
      have := mua.m
      cases ob <;> first | exact t.elim | exact this.elim
    · rw [upd_ne z]; exact e
  obtain ⟨d', f', e1, e2, e3, e4⟩ := k5 own.1 (upd H a o) d0' f0' nt (fun b hb hn ob e => by
    have hba : b ≠ a := fun z => hn (z ▸ ha)
    rw [upd_ne hba]; exact e) r nf (fun b hb => (hf b hb).imp id fun z w => ((sr.own x.1).2 b w).2.ne z)
  refine ⟨(inv x.1 ρ).set x.1 (.ow d'), updF F x.1 f', by unfold putAt; rw [h1]; simp only [slD, Option.getD_some]; rw [e1]; rfl, ?_⟩
  refine sr.mutS s hne hm h1 h2 e2 e3 (fun b hb => ?_) fun b hb => ?_
  · rcases e4 b hb with z | z
    · exact (hf b z).imp (k3 b) id
    · exact .inl z.1
  · rcases e4 b hb with z | z
    · exact hmu b z
    · have hba : b ≠ a := fun w => z.2 (w ▸ ha)
      rw [upd_ne hba]; exact (own.2 b z.1).2
end
abbrev MOp := D → List KD → Option (D × D)
inductive MT where
  | l | d
def MT.T : MT → String
  | .l => "list"
  | .d => "dict"
def MT.ok : MT → D → Bool
  | .l, .lst _ => true
  | .d, .dic _ => true
  | _, _ => false
theorem MT.ty {K : PySem.W.Frag} {H : Hp} {T : MT} {d0 : D} {v : V} {f0 : List Addr} (r : Rep K H d0 v f0) (h : T.ok d0 = true) : tyV K T.T v H := by
  cases T with
  | l =>
    cases d0 with
    | lst ds => cases r with | lst hl rs => exact .inl ⟨rfl, _, .of hl⟩
    | _ => cases h
  | d =>
    cases d0 with
    | dic ds => cases r with | dic hl _ rs => exact .inr (.inr (.inl ⟨rfl, .inl ⟨_, hl⟩⟩))
    | _ => cases h
def MtOk (K : PySem.W.Frag) (op : MOp) (r : V → List V → Hp → VK → Prop) : Prop :=
  ∀ {A : Addr → Prop} {H0 Hb H : Hp} {F : Nat → List Addr} {d0 : D} {v : V} {f0 g : List Addr} {xs : List KD} {vs : List V} {y : D × D} {Q : VK}, Rep K H d0 v f0 → f0.Nodup → (∀ b ∈ f0, Hb b ≠ none ∧ Mu (H b)) → Reps K H (xs.map (·.2)) vs g → KOk A H0 F Hb H (jn xs) g → op d0 xs = some y →
    (∀ (a : Addr) (o : HO) (f0' : List Addr) (w : V), v = .ref a → a ∈ f0 → MutX (some o) → Rep K (upd H a o) y.2 v f0' → f0'.Nodup → (∀ b ∈ f0', b ∈ f0 ∨ Hb b = none) → (∀ b ∈ f0', Mu ((upd H a o) b)) → Rep K (upd H a o) y.1 w [] → Q w (upd H a o)) → r v vs H Q
def mtS (T : MT) (p : SPh) (s : SA) (op : MOp) : SS := fun ρ => (p ρ).out ρ fun x => if T.ok x.2.2 = true then (s ρ).out ρ fun xs => match op x.2.2 xs with
  | some y => (match putAt ρ x y.2 with
    | some ρ' => .nx ρ'
    | none => .st)
  | none => .st else .st
section
variable {X : Cx} {CA : String → Addr} {W : WX} {pos pos' p1 p2 p3 : Pos} {a b e o : Expr} {es : List Expr} {se : SE} {sp : SPh} {s : SA} {op : MOp} {T id : String} {name : Str} {r : V → List V → Hp → VK → Prop}
theorem p_loc (i : Nat) {x : Str} (hN : X.N[i]? = some x := by rfl) (hv : Vis X.env.scope x := by first | exact Or.inl rfl | exact Or.inr (Or.inl rfl) | exact Or.inr (Or.inr rfl)) (hd : (x == ("__debug__" : Str)) = false := by decide)
    (hcd : (x == ("__classdict__" : Str)) = false := by decide) : PE X (.Name x pos) (tP CA W X.K (locP i)) := by
  refine peI (pe_var hN hv hd hcd) fun σ H Q ⟨A, H0, F, G, ρ, sr, h⟩ => ?_
  unfold locP at h
  cases e : ρ[i]? with
  | none => rw [e] at h; exact h.elim
  | some sl =>
    rw [e] at h
    cases sl with
    | ow d =>
      obtain ⟨v, hv, r⟩ := sr.slo i d e
      exact ⟨v, hv, h v H (Same.refl H) ⟨d, v, e, hv, rfl, rfl⟩⟩
    | _ => exact h.elim
theorem p_idx (hu : X.A.units + 65 < cLine) (ha : PE X a (tP CA W X.K sp)) (hb : PE X b (tE X.K CA W se)) (hs : PlainIx b := by exact fun _ _ => rfl) : PE X (.Subscript a b pos) (tP CA W X.K (idxP sp se)) := by
  refine peI (pe_ix (ix_any (by omega)) ha hb hs) fun σ H Q ⟨A, H0, F, G, ρ, sr, h⟩ => ?_
  refine ⟨A, H0, F, G, ρ, sr, h.bind fun ⟨j, q, d0⟩ h1 => ?_⟩
  intro v1 H1 s1 at1
  refine ⟨A, H0, F, G, ρ, sr.same s1, (h1.later s1).bind fun ⟨k2, d2⟩ h2 => ?_⟩
  intro v2 H2 f2 s2 r2 o2
  have at2 := at1.same s2
  obtain ⟨f0, r0, _, _, _⟩ := at2.open (sr.same s1) s2
  obtain ⟨dw, vj, e1, e2, e3, e4⟩ := at2
  cases d0 with
  | lst ds =>
    cases d2 with
    | int n =>
      cases hi : ixN ds.length n with
      | none => simp only [stepD, hi] at h2; exact h2.elim
      | some m =>
        cases hd : ds[m]? with
        | none => simp only [stepD, hi, Option.bind_some, hd] at h2; exact h2.elim
        | some dm =>
          simp only [stepD, hi, Option.bind_some, hd, Option.map_some] at h2
          cases r0 with
          | @lst a0 vs _ f1 hl rs =>
          cases r2
          obtain ⟨vm, g, hv, _⟩ := rs.get hd
          refine .inl (.inl ⟨a0, vs, n, vm, rfl, rfl, .of hl, by unfold atI; rw [← rs.length, hi]; exact hv, h2 vm H2 (s1.trans s2) ⟨dw, vj, e1, e2, ?_, ?_⟩⟩)
          · rw [getP_app e3]
            simp [getP, hd]
          · rw [navV_app e4]
            simp [navV, hl, hv]
    | _ => exact h2.elim
  | tup ds =>
    cases d2 with
    | int n =>
      cases hi : ixN ds.length n with
      | none => simp only [stepD, hi] at h2; exact h2.elim
      | some m =>
        cases hd : ds[m]? with
        | none => simp only [stepD, hi, Option.bind_some, hd] at h2; exact h2.elim
        | some dm =>
          simp only [stepD, hi, Option.bind_some, hd, Option.map_some] at h2
          cases r0 with
          | @tup a0 vs _ f1 hl rs =>
          cases r2
          obtain ⟨vm, g, hv, _⟩ := rs.get hd
          refine .inl (.inr (.inl ⟨a0, vs, n, vm, rfl, rfl, .of hl, by unfold atI; rw [← rs.length, hi]; exact hv, h2 vm H2 (s1.trans s2) ⟨dw, vj, e1, e2, ?_, ?_⟩⟩))
          · rw [getP_app e3]
            simp [getP, hd]
          · rw [navV_app e4]
            simp [navV, hl, hv]
    | _ => exact h2.elim
  | dic kds =>
    cases hk : keyD d2 with
    | none => simp only [stepD, hk] at h2; exact h2.elim
    | some k =>
      cases hd : valD kds k with
      | none => simp only [stepD, hk, Option.bind_some, hd] at h2; exact h2.elim
      | some dm =>
        simp only [stepD, hk, Option.bind_some, hd, Option.map_some] at h2
        cases r0 with
        | @dic a0 kvs _ f1 hl nk rs =>
        have ev := keyD_rep r2 hk
        subst ev
        obtain ⟨vm, _, _, _, hv, _⟩ := rs.at nk hd
        refine .inr ⟨a0, vm, rfl, hv ▸ DGet.k hl, h2 vm H2 (s1.trans s2) ⟨dw, vj, e1, e2, ?_, ?_⟩⟩
        · rw [getP_app e3]
          simp [getP, hd]
        · rw [navV_app e4]
          simp [navV, hl, hv]
  | _ => cases d2 <;> exact h2.elim
theorem mt_core {T : MT} (hok : MtOk X.K op r) {A : Addr → Prop} {H0 H : Hp} {F : Nat → List Addr} {G : List (D × V)} {ρ : Env} {σ : L2.St} {De : Ends} (sr : SR X.K A H0 F G ρ σ H) {R' : V → Hp → Prop} {k : D → Env → Out}
    (h : OutOk X.K CA W A H0 G De ((sp ρ).out ρ fun x => if T.ok x.2.2 = true then (s ρ).out ρ fun xs => match op x.2.2 xs with
      | some y => (match putAt ρ x y.2 with
        | some ρ' => k y.1 ρ'
        | none => .st)
      | none => .st else .st)) (hR : ∀ w H' F' ρ' d, Rep X.K H' d w [] → SR X.K A H0 F' G ρ' σ H' → OutOk X.K CA W A H0 G De (k d ρ') → R' w H') : tBM X.K T.T r (tP CA W X.K sp) (tA X.K CA W s) σ H R' := by
  refine ⟨A, H0, F, G, ρ, sr, (lift h sr).imp fun x _ q v H1 s1 at1 => ?_⟩
  by_cases hT : T.ok x.2.2 = true
  · have q : OutOk X.K CA W A H0 G De (if T.ok x.2.2 = true then (s ρ).out ρ fun xs => match op x.2.2 xs with
      | some y => (match putAt ρ x y.2 with
        | some ρ' => k y.1 ρ'
        | none => .st)
      | none => .st else .st) := q
    rw [if_pos hT] at q
    obtain ⟨f0, r0, _⟩ := at1.open sr s1
    refine ⟨MT.ty r0 hT, A, H0, F, G, ρ, sr.same s1, (lift q (sr.same s1)).imp fun xs _ q2 vs H2 g s2 rs os => ?_⟩
    cases ho : op x.2.2 xs with
    | none => simp only [ho] at q2; exact q2.elim
    | some y =>
      simp only [ho] at q2
      have at2 := at1.same s2
      obtain ⟨f0, r0, n0, m0, wr⟩ := at2.open (sr.same s1) s2
      refine hok r0 n0 m0 rs os ho fun a o f0' w ea ha hm r' nf hf hmu rw' => ?_
      obtain ⟨ρ', F', e1, sr'⟩ := wr a o y.2 f0' ea ha hm r' nf hf hmu
      rw [e1] at q2
      exact hR w _ F' ρ' y.1 rw' sr' q2
  · have q : OutOk X.K CA W A H0 G De (if T.ok x.2.2 = true then (s ρ).out ρ fun xs => match op x.2.2 xs with
      | some y => (match putAt ρ x y.2 with
        | some ρ' => k y.1 ρ'
        | none => .st)
      | none => .st else .st) := q
    rw [if_neg hT] at q
    exact q.elim
variable {T : MT}
theorem s_mt (pa : PlainAttrs T.T) (slot : Slot T.T name id) (hty : typeOf (.builtin id) = pure (.type "method_descriptor")) (hm : MtR X id r) (hok : MtOk X.K op r) (ho : PE X o (tP CA W X.K sp)) (ha : PA X (e :: es) (tA X.K CA W s))
    (hs : swapsWith (.Call (.Attribute o name p2) (e :: es) [] p3) none pos.line X.env = pure false := by rfl) (hbase : attributeBase o name X.env (eval o X.env) = eval o X.env := by rfl)
    (hfew : ((backTo p3 (starEach (e :: es) X.env)).all (fun x => !x.1) && (backToKw p3 (keywordEach [] X.env)).all (fun x => x.1.isSome) && decide ((e :: es).length + ([] : List Keyword).length + (if ([] : List Keyword).isEmpty then 0 else 1) < 30)) = true := by rfl)
    (hline : (p2.endLine == p3.line) = true := by rfl) (hst : starEach (e :: es) X.env = (false, eval e X.env) :: starEach es X.env := by rfl) (hplain : (backTo p3 (starEach es X.env)).any (·.1) = false := by rfl) :
    PS X (.Expr (.Call (.Attribute o name p2) (e :: es) [] p3) pos) (tS X.K CA W (mtS T sp s op)) := by
  refine psI (ps_expr (pe_bm pa slot hty hm ho ha hbase hfew hline hst hplain) hs) fun D σ H ⟨A, H0, F, G, ρ, sr, h⟩ => ?_
  exact mt_core (k := fun _ ρ' => .nx ρ') hok sr h fun w H' F' ρ' d _ sr' q => q σ H' F' sr'
end
end Cz
set_option maxHeartbeats 2000000
namespace Cz
open PySem PySem.Spec PyProof.Rows L2
def opApp : MOp := fun d xs => match d, xs with
  | .lst ds, [x] => if okIn x.1 [x.2] = true ∧ ds.length < LIM then some (.non, .lst (ds ++ [x.2])) else none
  | _, _ => none
def opExt : MOp := fun d xs => match d, xs with
  | .lst ds, [(k, .lst es)] => if okIn k es = true ∧ ds.length + es.length ≤ LIM then some (.non, .lst (ds ++ es)) else none
  | _, _ => none
section
variable {K : PySem.W.Frag} {H Hb : Hp}
theorem Reps.eraseIdx : ∀ {ds : List D} {vs : List V} {f : List Addr} (j : Nat), Reps K H ds vs f → ∃ g, Reps K H (ds.eraseIdx j) (vs.eraseIdx j) g ∧ (∀ b ∈ g, b ∈ f) ∧ (f.Nodup → g.Nodup)
  | _, _, _, _, .nil => ⟨[], .nil, by simp, by simp⟩
  | _, _, _, 0, .cons (f := f) (g := g) r t => ⟨g, t, fun b hb => List.mem_append_right _ hb, fun n => (List.nodup_append.mp n).2.1⟩
  | _, _, _, j + 1, .cons (f := f) r t => by
    obtain ⟨g, h1, h2, h3⟩ := Reps.eraseIdx j t
    refine ⟨f ++ g, .cons r h1, fun b hb => ?_, fun n => ?_⟩
    · rcases List.mem_append.mp hb with z | z
      · exact List.mem_append_left _ z
      · exact List.mem_append_right _ (h2 b z)
    · obtain ⟨n1, n2, n3⟩ := List.nodup_append.mp n
      exact List.nodup_append.mpr ⟨n1, h3 n2, fun a ha b hb => n3 a ha b (h2 b hb)⟩
theorem lst_put {a : Addr} {vs vs' : List V} {ds' : List D} {f1 g : List Addr} (hl : H a = some (.lst vs)) (nf : (a :: f1).Nodup) (m : ∀ b ∈ a :: f1, Hb b ≠ none ∧ Mu (H b)) (r : Reps K H ds' vs' g) (ng : g.Nodup) (hg : ∀ b ∈ g, b ∈ f1 ∨ (Hb b = none ∧ Mu (H b))) :
    Rep K (upd H a (.lst vs')) (.lst ds') (.ref a) (a :: g) ∧ (a :: g).Nodup ∧ (∀ b ∈ a :: g, b ∈ a :: f1 ∨ Hb b = none) ∧ ∀ b ∈ a :: g, Mu ((upd H a (.lst vs')) b) := by
  have n1 := List.nodup_cons.mp nf
  have na : ∀ b ∈ g, b ≠ a := fun b hb e => by
    rcases hg b hb with z | z
    · exact n1.1 (e ▸ z)
    · exact (m a List.mem_cons_self).1 (e ▸ z.1)
  have nt : ∀ b o, H b = some o → IsT o → (upd H a (.lst vs')) b = some o := fun b o e t => by
    by_cases z : b = a
    · subst z; rw [hl] at e; cases e; exact t.elim
    · rw [upd_ne z]; exact e
  refine ⟨.lst upd_same (r.frame nt fun b hb o e => by rw [upd_ne (na b hb)]; exact e), List.nodup_cons.mpr ⟨fun z => na a z rfl, ng⟩, fun b hb => ?_, fun b hb => ?_⟩
  · rcases List.mem_cons.mp hb with z | z
    · exact .inl (by simp [z])
    · exact (hg b z).imp (fun w => List.mem_cons_of_mem _ w) (·.1)
  · by_cases z : b = a
    · subst z; exact ⟨by rw [upd_same]; trivial⟩
    · rw [upd_ne z]
      rcases List.mem_cons.mp hb with w | w
      · exact absurd w z
      · exact (hg b w).elim (fun w => (m b (List.mem_cons_of_mem _ w)).2) (·.2)
theorem ok_app : MtOk K opApp rAppend := by
  intro A H0 Hb H F d0 v f0 g xs vs y Q r0 n0 m0 rs os ho k
  unfold opApp at ho
  split at ho
  · rename_i ds x
    split at ho
    · rename_i hc
      cases ho
      cases r0 with
      | @lst a vs0 _ f1 hl q0 =>
      have os' : KOk A H0 F Hb H (nk x.1 x.2) g := by rw [← jn_one']; exact os
      obtain ⟨w, rfl, rw'⟩ := rs.one (d := x.2) rfl
      obtain ⟨n1, m1⟩ := okIn_ok hc.1 rs (KOk.nk' rw' os')
      have n2 := List.nodup_cons.mp n0
      have dis : ∀ b ∈ f1, ∀ c ∈ g, b ≠ c := fun b hb c hc' e => (m0 b (List.mem_cons_of_mem _ hb)).1 (e ▸ (m1 c hc').1)
      obtain ⟨e1, e2, e3, e4⟩ := lst_put (Hb := Hb) hl n0 m0 (q0.app rs) (List.nodup_append.mpr ⟨n2.2, n1, dis⟩) fun b hb => (List.mem_append.mp hb).imp id fun z => m1 b z
      exact ⟨a, vs0, w, rfl, rfl, hl, by rw [← lim_eq, ← q0.length]; exact hc.2, k a _ _ .non rfl List.mem_cons_self trivial e1 e2 e3 e4 .non⟩
    · cases ho
  · cases ho
theorem ok_ext : MtOk K opExt rExtend := by
  intro A H0 Hb H F d0 v f0 g xs vs y Q r0 n0 m0 rs os ho k
  unfold opExt at ho
  split at ho
  · rename_i ds kk es
    split at ho
    · rename_i hc
      cases ho
      cases r0 with
      | @lst a vs0 _ f1 hl q0 =>
      have os' : KOk A H0 F Hb H (nk kk (.lst es)) g := by
        have := os
        rw [jn_one'] at this
        exact this
      obtain ⟨w, rfl, rw'⟩ := rs.one (d := .lst es) rfl
      have os2 := KOk.nk' rw' os'
      cases rw' with
      | @lst b zs _ ge hb qe =>
      have hge : ge.Nodup ∧ ∀ c ∈ ge, Hb c = none ∧ Mu (H c) := by
        have os3 : KOk A H0 F Hb H kk ge := os2.sub (fun c hc' => List.mem_cons_of_mem _ hc') fun n => (List.nodup_cons.mp n).2
        exact okIn_ok hc.1 qe os3
      have n2 := List.nodup_cons.mp n0
      have dis : ∀ b ∈ f1, ∀ c ∈ ge, b ≠ c := fun b hb c hc' e => (m0 b (List.mem_cons_of_mem _ hb)).1 (e ▸ (hge.2 c hc').1)
      obtain ⟨e1, e2, e3, e4⟩ := lst_put (Hb := Hb) hl n0 m0 (q0.app qe) (List.nodup_append.mpr ⟨n2.2, hge.1, dis⟩) fun b hb => (List.mem_append.mp hb).imp id fun z => hge.2 b z
      exact ⟨a, b, vs0, zs, rfl, rfl, hl, hb, by rw [← lim_eq, ← q0.length, ← qe.length]; exact hc.2, k a _ _ .non rfl List.mem_cons_self trivial e1 e2 e3 e4 .non⟩
    · cases ho
  · cases ho
end
end Cz
set_option maxHeartbeats 2000000
namespace Cz
open PySem PySem.Spec PyProof.Rows L2
def setB (d0 : D) (i : D) (x : KD) : Option D := if okIn x.1 [x.2] = true then match d0, i with
  | .lst ds, .int n => (ixN ds.length n).map fun j => .lst (ds.set j x.2)
  | .dic kvs, i => (keyD i).bind fun k => if kvs.length < LIM then some (.dic (putD kvs k x.2)) else none
  | .dtk kvs, i => (keyT i).bind fun k => if kvs.length < LIM then some (.dtk (putD kvs k x.2)) else none
  | _, _ => none else none
def rSetA : TSet := fun o i v H Q => rSetL o i v H Q ∨ rSetD o i v H Q
theorem set_any {X : Cx} (hu : X.A.units + 1 < cLine) : PSet X rSetA := by
  intro pins s σ H o i v ov iv u Q I ro ri rv h
  rcases h with h | h
  · exact set_list pins s σ H o i v ov iv u Q I ro ri rv h
  · exact set_dict hu pins s σ H o i v ov iv u Q I ro ri rv h
section
variable {K : PySem.W.Frag} {A : Addr → Prop} {H0 Hb H : Hp} {F : Nat → List Addr}
theorem Reps.atN : ∀ {ds : List D} {vs : List V} {f : List Addr} {j : Nat} {d : D}, Reps K H ds vs f → ds[j]? = some d → ∃ v p g r, vs[j]? = some v ∧ f = p ++ g ++ r ∧ Rep K H d v g ∧
    ∀ (H' : Hp) d' g' v', (∀ b o, H b = some o → IsT o → H' b = some o) → (∀ b, b ∈ p ∨ b ∈ r → ∀ o, H b = some o → H' b = some o) → Rep K H' d' v' g' → Reps K H' (ds.set j d') (vs.set j v') (p ++ g' ++ r)
  | _, _, _, 0, d, .cons (f := f1) (g := g1) r t, e => by
    simp at e; subst e
    refine ⟨_, [], f1, g1, rfl, rfl, r, fun H' d' g' v' ht hk r' => ?_⟩
    exact .cons r' (t.frame ht fun a ha => hk a (.inr ha))
  | _, _, _, j + 1, d, .cons (f := f1) (g := g1) r t, e => by
    obtain ⟨v, p, g, q, h1, h2, h3, h4⟩ := Reps.atN (j := j) (d := d) t (by simpa using e)
    subst h2
    refine ⟨v, f1 ++ p, g, q, by simpa using h1, by simp, h3, fun H' d' g' v' ht hk r' => ?_⟩
    have := Reps.cons (r.frame ht fun a ha => hk a (.inl (List.mem_append_left _ ha))) (h4 H' d' g' v' ht (fun b hb => hk b (hb.imp (fun z => List.mem_append_right _ z) id)) r')
    simpa using this
theorem RepK.app {κ : Type} : ∀ {ds es : List (κ × D)} {vs ws : List (κ × V)} {f g : List Addr}, RepK K H ds vs f → RepK K H es ws g → RepK K H (ds ++ es) (vs ++ ws) (f ++ g)
  | _, _, _, _, _, _, .nil, s => s
  | _, _, _, _, _, _, .cons r t, s => by rw [List.append_assoc]; exact .cons r (RepK.app t s)
theorem putK_out {κ : Type} [DecidableEq κ] {kvs : List (κ × V)} {k : κ} (v : V) (h : k ∉ kvs.map (·.1)) : putK kvs k v = kvs ++ [(k, v)] := by
  unfold putK
  have h2 : ¬ (kvs.any fun kv => decide (kv.1 = k)) = true := fun z => by
    obtain ⟨p, hp, e⟩ := List.any_eq_true.mp z
    exact h (List.mem_map.mpr ⟨p, hp, of_decide_eq_true e⟩)
  rw [if_neg h2]
theorem valD_none {κ : Type} [DecidableEq κ] {kvs : List (κ × D)} {k : κ} : valD kvs k = none → k ∉ kvs.map (·.1) := by
  induction kvs with
  | nil => intro _ h; cases h
  | cons p r ih =>
    obtain ⟨k', d⟩ := p
    intro h z
    by_cases e : k' = k
    · simp [valD, e] at h
    · have h' : valD r k = none := by simpa [valD, e] using h
      rcases List.mem_cons.mp z with w | w
      · exact e w.symm
      · exact ih h' w
theorem setB_ok {d0 i d0' : D} {v vi vx : V} {f0 fi g : List Addr} {x : KD} {Q : Hp → Prop} (r0 : Rep K H d0 v f0) (n0 : f0.Nodup) (m0 : ∀ b ∈ f0, Hb b ≠ none ∧ Mu (H b)) (ri : Rep K H i vi fi) (rx : Rep K H x.2 vx g) (ox : KOk A H0 F Hb H x.1 g) (e : setB d0 i x = some d0')
    (k : ∀ (a : Addr) (o : HO) (f0' : List Addr), v = .ref a → a ∈ f0 → MutX (some o) → Rep K (upd H a o) d0' v f0' → f0'.Nodup → (∀ b ∈ f0', b ∈ f0 ∨ Hb b = none) → (∀ b ∈ f0', Mu ((upd H a o) b)) → Q (upd H a o)) : rSetA v vi vx H Q := by
  unfold setB at e
  split at e
  · rename_i hc
    have rs : Reps K H [x.2] [vx] g := by
      have := Reps.cons rx (Reps.nil (K := K) (H := H))
      rw [List.append_nil] at this
      exact this
    obtain ⟨ng, mg⟩ := okIn_ok hc rs ox
    -- the nodes behind the store
    have fin : ∀ {a : Addr} {p g0 s : List Addr} {o : HO}, f0 = a :: (p ++ g0 ++ s) → MutX (some o) → (a :: (p ++ g ++ s)).Nodup ∧ (∀ b ∈ a :: (p ++ g ++ s), b ∈ f0 ∨ Hb b = none) ∧ ∀ b ∈ a :: (p ++ g ++ s), Mu ((upd H a o) b) := fun {a p g0 s o} ef hm => by
      rw [ef] at n0
      have n1 := List.nodup_cons.mp n0
      obtain ⟨n2, n3, n4⟩ := List.nodup_append.mp n1.2
      obtain ⟨n5, n6, n7⟩ := List.nodup_append.mp n2
      have out : ∀ b ∈ f0, b ∉ g := fun b hb z => (m0 b hb).1 (mg b z).1
      have inn : ∀ b, b = a ∨ b ∈ p ∨ b ∈ s → b ∈ f0 := fun b hb => by
        rw [ef]
        rcases hb with z | z | z
        · simp [z]
        · simp [z]
        · simp [z]
      refine ⟨List.nodup_cons.mpr ⟨fun z => ?_, List.nodup_append.mpr ⟨List.nodup_append.mpr ⟨n5, ng, fun x hx y hy e => out x (inn x (.inr (.inl hx))) (e ▸ hy)⟩, n3, fun x hx y hy => ?_⟩⟩, fun b hb => ?_, fun b hb => ?_⟩
      · rcases List.mem_append.mp z with z | z
        · rcases List.mem_append.mp z with z | z
          · exact n1.1 (by simp [z])
          · exact out a (inn a (.inl rfl)) z
        · exact n1.1 (by simp [z])
      · rcases List.mem_append.mp hx with z | z
        · exact n4 x (List.mem_append_left _ z) y hy
        · exact fun e => out y (inn y (.inr (.inr hy))) (e ▸ z)
      · rcases List.mem_cons.mp hb with z | z
        · exact .inl (inn b (.inl z))
        · rcases List.mem_append.mp z with z | z
          · rcases List.mem_append.mp z with z | z
            · exact .inl (inn b (.inr (.inl z)))
            · exact .inr (mg b z).1
          · exact .inl (inn b (.inr (.inr z)))
      · by_cases e : b = a
        · subst e; exact ⟨by rw [upd_same]; exact hm⟩
        · rw [upd_ne e]
          rcases List.mem_cons.mp hb with z | z
          · exact absurd z e
          · rcases List.mem_append.mp z with z | z
            · rcases List.mem_append.mp z with z | z
              · exact (m0 b (inn b (.inr (.inl z)))).2
              · exact (mg b z).2
            · exact (m0 b (inn b (.inr (.inr z)))).2
    have keep : ∀ {a : Addr} {p g0 s : List Addr} {o ob : HO}, H a = some ob → ¬ IsT ob → f0 = a :: (p ++ g0 ++ s) → (∀ b o', H b = some o' → IsT o' → (upd H a o) b = some o') ∧ (∀ b, b ∈ p ∨ b ∈ s → ∀ o', H b = some o' → (upd H a o) b = some o') ∧ ∀ b ∈ g, ∀ o', H b = some o' → (upd H a o) b = some o' := fun {a p g0 s o ob} ha nt ef => by
      rw [ef] at n0
      have n1 := List.nodup_cons.mp n0
      refine ⟨fun b o' eb t => ?_, fun b hb o' eb => ?_, fun b hb o' eb => ?_⟩
      · have : b ≠ a := fun z => by subst z; rw [ha] at eb; cases eb; exact nt t
        rw [upd_ne this]; exact eb
      · have : b ≠ a := fun z => n1.1 (by subst z; rcases hb with z | z <;> simp [z])
        rw [upd_ne this]; exact eb
      · have : b ≠ a := fun z => (m0 a (by rw [ef]; simp)).1 (z ▸ (mg b hb).1)
        rw [upd_ne this]; exact eb
    cases d0 with
    | lst ds =>
      cases i with
      | int n =>
        cases hj : ixN ds.length n with
        | none => simp [hj] at e
        | some j =>
          simp only [hj, Option.map_some, Option.some.injEq] at e
          subst e
          cases ri
          cases r0 with
          | @lst a vs _ f1 hl q0 =>
          obtain ⟨hj1, _, _, hj4⟩ := ixN_seq hj
          have hjl : j < ds.length := by
            have := hj
            unfold ixN at this
            first | omega | (split at this <;> first | (cases this; omega) | (split at this <;> first | (cases this; omega) | cases this))
          obtain ⟨w, p, g0, s, h1, h2, h3, h4⟩ := q0.atN (List.getElem?_eq_getElem hjl)
          subst h2
          obtain ⟨k1, k2, k3⟩ := keep (o := .lst (vs.set j vx)) hl (fun z => z) rfl
          obtain ⟨f1', f2', f3'⟩ := fin (o := .lst (vs.set j vx)) rfl trivial
          exact .inl ⟨a, vs, n, j, rfl, rfl, hl, by rw [← q0.length]; exact hj, k a _ _ rfl List.mem_cons_self trivial (.lst upd_same (h4 _ x.2 g vx k1 k2 (rx.frame k1 k3))) f1' f2' f3'⟩
      | _ => cases e
    | dic kds =>
      cases hk : keyD i with
      | none => simp [hk] at e
      | some kk =>
        simp only [hk, Option.bind_some] at e
        split at e
        · rename_i hz
          cases e
          have ev := keyD_rep ri hk
          subst ev
          cases r0 with
          | @dic a kvs _ f1 hl nk q0 =>
          have hz' : kvs.length < sizeLine := by rw [← lim_eq, ← q0.length]; exact hz
          refine .inr ⟨a, _, rfl, DPut.k hl hz', ?_⟩
          cases hd : valD kds kk with
          | some d =>
            obtain ⟨w, p, g0, s, h1, h2, h3, h4⟩ := q0.at nk hd
            subst h2
            obtain ⟨k1, k2, k3⟩ := keep (o := .dK (putK kvs kk vx)) hl (fun z => z) rfl
            obtain ⟨f1', f2', f3'⟩ := fin (o := .dK (putK kvs kk vx)) rfl trivial
            exact k a _ _ rfl List.mem_cons_self trivial (.dic upd_same (putD_nodup nk) (h4 _ x.2 g vx k1 k2 (rx.frame k1 k3))) f1' f2' f3'
          | none =>
            have no := valD_none hd
            have nv : kk ∉ kvs.map (·.1) := by rw [q0.keys]; exact no
            have e1 : f1 = f1 ++ [] ++ [] := by simp
            obtain ⟨k1, k2, k3⟩ := keep (p := f1) (g0 := []) (s := []) (o := .dK (putK kvs kk vx)) hl (fun z => z) (by rw [← e1])
            obtain ⟨f1', f2', f3'⟩ := fin (p := f1) (g0 := []) (s := []) (o := .dK (putK kvs kk vx)) (by rw [← e1]) trivial
            have r1 : RepK K (upd H a (.dK (putK kvs kk vx))) (kds ++ [(kk, x.2)]) (kvs ++ [(kk, vx)]) (f1 ++ (g ++ [])) :=
              (q0.frame k1 fun b hb => k2 b (.inl hb)).app (.cons (rx.frame k1 k3) .nil)
            rw [← putD_out x.2 no, ← putK_out vx nv, List.append_nil] at r1
            have e2 : f1 ++ g ++ [] = f1 ++ g := by simp
            rw [e2] at f1' f2' f3'
            exact k a _ _ rfl List.mem_cons_self trivial (.dic upd_same (putD_nodup nk) r1) f1' f2' f3'
        · cases e
    | dtk kds =>
      cases hk : keyT i with
      | none => simp [hk] at e
      | some kk =>
        simp only [hk, Option.bind_some] at e
        split at e
        · rename_i hz
          cases e
          obtain ⟨bk, ev, eb⟩ := keyT_rep ri hk
          subst ev
          cases r0 with
          | @dtk a kvs _ f1 hl nk q0 =>
          have hz' : kvs.length < sizeLine := by rw [← lim_eq, ← q0.length]; exact hz
          refine .inr ⟨a, _, rfl, DPut.t hl eb hz', ?_⟩
          cases hd : valD kds kk with
          | some d =>
            obtain ⟨w, p, g0, s, h1, h2, h3, h4⟩ := q0.at nk hd
            subst h2
            obtain ⟨k1, k2, k3⟩ := keep (o := .dT (putK kvs kk vx)) hl (fun z => z) rfl
            obtain ⟨f1', f2', f3'⟩ := fin (o := .dT (putK kvs kk vx)) rfl trivial
            exact k a _ _ rfl List.mem_cons_self trivial (.dtk upd_same (putD_nodup nk) (h4 _ x.2 g vx k1 k2 (rx.frame k1 k3))) f1' f2' f3'
          | none =>
            have no := valD_none hd
            have nv : kk ∉ kvs.map (·.1) := by rw [q0.keys]; exact no
            have e1 : f1 = f1 ++ [] ++ [] := by simp
            obtain ⟨k1, k2, k3⟩ := keep (p := f1) (g0 := []) (s := []) (o := .dT (putK kvs kk vx)) hl (fun z => z) (by rw [← e1])
            obtain ⟨f1', f2', f3'⟩ := fin (p := f1) (g0 := []) (s := []) (o := .dT (putK kvs kk vx)) (by rw [← e1]) trivial
            have r1 : RepK K (upd H a (.dT (putK kvs kk vx))) (kds ++ [(kk, x.2)]) (kvs ++ [(kk, vx)]) (f1 ++ (g ++ [])) :=
              (q0.frame k1 fun b hb => k2 b (.inl hb)).app (.cons (rx.frame k1 k3) .nil)
            rw [← putD_out x.2 no, ← putK_out vx nv, List.append_nil] at r1
            have e2 : f1 ++ g ++ [] = f1 ++ g := by simp
            rw [e2] at f1' f2' f3'
            exact k a _ _ rfl List.mem_cons_self trivial (.dtk upd_same (putD_nodup nk) r1) f1' f2' f3'
        · cases e
    | _ => cases e
  · cases e
end
def stoS (p : SPh) (i s : SE) : SS := fun ρ => (s ρ).out ρ fun x => (p ρ).out ρ fun y => (i ρ).out ρ fun z => match setB y.2.2 z.2 x with
  | some d => (match putAt ρ y d with
    | some ρ' => .nx ρ'
    | none => .st)
  | none => .st
section
variable {X : Cx} {CA : String → Addr} {W : WX} {pos pos' p1 p2 p3 : Pos} {o i e : Expr} {se si : SE} {sp : SPh}
theorem s_sto (hu : X.A.units + 65 < cLine) (he : PE X e (tE X.K CA W se)) (ho : PE X o (tP CA W X.K sp)) (hi : PE X i (tE X.K CA W si))
    (ha : ∀ v, assign (.Subscript o i pos') X.env v = (do
      let ov ← holding [v] (eval o X.env)
      let iv ← holding [v, ov] (eval i X.env)
      standAt pos'
      holding [v, ov, iv] (setItem ov iv v)
      release [v, ov, iv] []) := by intro _; rfl)
    (hs : swapsWithSole [.Subscript o i pos'] e pos.line X.env = pure false := by rfl) (hw : swappedStores [.Subscript o i pos'] e X.env = pure none := by rfl)
    (h1 : (assignEach [.Subscript o i pos'] X.env).map (·.2) = [assign (.Subscript o i pos') X.env] := by rfl) :
    PS X (.Assign [.Subscript o i pos'] e pos) (tS X.K CA W (stoS sp si se)) := by
  refine psI (ps_asg he (pg_sub ho hi (set_any (by omega)) ha) hs hw h1) fun De σ H ⟨A, H0, F, G, ρ, sr, h⟩ => ?_
  refine ⟨A, H0, F, G, ρ, sr, (lift h sr).imp fun x _ q vx H1 g s1 rx ox => ?_⟩
  refine ⟨A, H0, F, G, ρ, sr.same s1, (lift q (sr.same s1)).imp fun y _ q2 v H2 s2 at2 => ?_⟩
  have s12 := s1.trans s2
  refine ⟨A, H0, F, G, ρ, sr.same s12, (lift q2 (sr.same s12)).imp fun z _ q3 vi H3 fi s3 ri oi => ?_⟩
  have s13 := s12.trans s3
  have s23 := s2.trans s3
  cases hb : setB y.2.2 z.2 x with
  | none => simp only [hb] at q3; exact q3.elim
  | some d' =>
    simp only [hb] at q3
    obtain ⟨f0, r0, n0, m0, wr⟩ := (at2.same s3).open sr s13
    refine setB_ok r0 n0 m0 ri (rx.same s23) (ox.wide (Same.refl _) s23) hb fun a ob f0' ea ha' hm r' nf hf hmu => ?_
    obtain ⟨ρ', F', e1, sr'⟩ := wr a ob d' f0' ea ha' hm r' nf hf hmu
    rw [e1] at q3
    exact q3 σ _ F' sr'
end
section
variable {X : Cx} {CA : String → Addr} {W : WX} {pos pos' p1 p2 p3 : Pos} {o i e : Expr} {se si : SE} {sp : SPh} {op : Operator}
end
end Cz
set_option maxHeartbeats 2000000
namespace Cz
open PySem PySem.Spec PyProof.Rows L2
section
variable {X : Cx} {CA : String → Addr} {W : WX} {pos pos' : Pos} {c : Expr} {body : List Stmt} {t : STs} {sb : SS}
end
def subX (c D : String) : Bool := c == D || D == "CenserError"
def Out.nox : Out → Out
  | .ex _ _ => .st
  | o => o
def hanS (c : Ec) : List (String × (Ec → SS)) → SS
  | [] => fun ρ => .ex c ρ
  | (D, s) :: r => fun ρ => if subX c.nm D = true then (s c ρ).nox else hanS c r ρ
def tryS (xs : List String) (b : SS) (hs : List (String × (Ec → SS))) : SS := fun ρ => match b ρ with
  | .ex c ρ' => if xs.contains c.nm = true then hanS c hs ρ' else .st
  | o => o
inductive Hds (X : Cx) (CA : String → Addr) (xs : List String) : List ExceptHandler → List (String × (Ec → SS)) → Prop
  | nil : Hds X CA xs [] []
  | cons {D : String} {s : Ec → SS} {b₀ : Stmt} {suite : List Stmt} {np pos' : Pos} {hds : List ExceptHandler} {l : List (String × (Ec → SS))} (hc : Names X (Str.ofString D) (.ref (CA D))) (hx : ∀ c ∈ xs, PySem.W.exmOne X.K (.ref (CA c)) (.ref (CA D)) = some (subX c D))
      (hsu : ∀ (e : Ec) (a : Addr) (oe : Obj) (pn : List (Addr × Obj)), PSs (X.suite a ((a, oe) :: pn)) (b₀ :: suite) (tS X.K CA W0 (s e))) (r : Hds X CA xs hds l) : Hds X CA xs (.ExceptHandler (some (.Name (Str.ofString D) np)) none (b₀ :: suite) pos' :: hds) ((D, s) :: l)
def hdsOf (X : Cx) (CA : String → Addr) (l : List (String × (Ec → SS))) : List (Value × (Addr → Value → Option Addr → TS)) := l.map fun p => (.ref (CA p.1), fun _ _ _ D σ H => ∃ e, tS X.K CA W0 (p.2 e) D σ H)
theorem Hds.ok {X : Cx} {CA : String → Addr} {xs : List String} : ∀ {hds : List ExceptHandler} {l : List (String × (Ec → SS))}, Hds X CA xs hds l → HdsOk X hds (hdsOf X CA l)
  | _, _, .nil => .nil
  | _, _, .cons hc hx hsu r => .cons hc (fun a oe cls d pn _ _ => ⟨fun pins s σ H D I ⟨e, q⟩ => (hsu e a oe pn).run pins s σ H D I q⟩) r.ok
theorem nox_ok {K : PySem.W.Frag} {CA : String → Addr} {W : WX} {A : Addr → Prop} {H0 : Hp} {G : List (D × V)} {De : Ends} {o : Out} (h : OutOk K CA W A H0 G De o.nox) : OutOk K CA W0 A H0 G De o := by
  cases o with
  | ex c ρ => exact h.elim
  | nx ρ => exact h
  | rt k d => exact h
  | bk ρ => exact h
  | ct ρ => exact h
  | st => exact h.elim
  | ri ρ k d => exact h
section
variable {X : Cx} {CA : String → Addr} {W : WX} {pos : Pos} {xs : List String} {body : List Stmt} {h₀ : ExceptHandler} {hds : List ExceptHandler} {l : List (String × (Ec → SS))} {sb : SS}
theorem Hds.catch {A : Addr → Prop} {H0 H : Hp} {F : Nat → List Addr} {G : List (D × V)} {ρ : Env} {σ : L2.St} {D : Ends} {c : Ec} {od : Option Addr} (hcx : c.nm ∈ xs) : ∀ {hds : List ExceptHandler} {l : List (String × (Ec → SS))}, Hds X CA xs hds l → SR X.K A H0 F G ρ σ H → (hanS c l ρ = .ex c ρ → OutOk X.K CA W A H0 G D (hanS c l ρ) → W (.ref (CA c.nm)) od σ H) → OutOk X.K CA W A H0 G D (hanS c l ρ) → wMany X.K W D (hdsOf X CA l) (.ref (CA c.nm)) od σ H
  | _, _, .nil, sr, k, o => k rfl o
  | _, _, .cons (D := E) (s := s) (l := l) hc hx hsu r, sr, k, o => by
    have o : OutOk X.K CA W A H0 G D (if subX c.nm E = true then (s c ρ).nox else hanS c l ρ) := o
    have k : ((if subX c.nm E = true then (s c ρ).nox else hanS c l ρ) = .ex c ρ → OutOk X.K CA W A H0 G D (if subX c.nm E = true then (s c ρ).nox else hanS c l ρ) → W (.ref (CA c.nm)) od σ H) := k
    refine ⟨subX c.nm E, hx _ hcx, fun hy a ha => ?_, fun hn => ?_⟩
    · rw [if_pos hy] at o
      exact ⟨c, A, H0, F, G, ρ, sr, nox_ok o⟩
    · have hne : ¬ subX c.nm E = true := by rw [hn]; exact Bool.false_ne_true
      rw [if_neg hne] at o k
      exact Hds.catch hcx r sr k o
theorem s_try (tk : Takes X W) (hb : ∀ (W' : WX) (pn : List (Addr × Obj)) (xe : Value → Shared → Prop), Takes (X.tr pn xe) W' → PassesOwn (model X.prog X.w) X.A X.env xe → PSs (X.tr pn xe) body (tS X.K CA W' sb))
    (hh : Hds X CA xs (h₀ :: hds) l) (hs : X.stack = X.env :: X.outer := by rfl) (hf : X.env.frame = some X.env.locals := by rfl) : PS X (.Try body (h₀ :: hds) [] [] pos) (tS X.K CA W (tryS xs sb l)) := by
  refine psI (ps_try_many hs hf tk hb hh.ok) fun D σ H ⟨A, H0, F, G, ρ, sr, h⟩ => ?_
  refine ⟨A, H0, F, G, ρ, sr, ?_⟩
  have h : OutOk X.K CA W A H0 G D (match sb ρ with
  | .ex c ρ' => if xs.contains c.nm = true then hanS c l ρ' else .st
  | o => o) := h
  cases ho : sb ρ with
  | nx ρ' => rw [ho] at h; exact h
  | rt k d => rw [ho] at h; exact h
  | bk ρ' => rw [ho] at h; exact h
  | ct ρ' => rw [ho] at h; exact h
  | st => rw [ho] at h; exact h.elim
  | ri ρ' k d => rw [ho] at h; exact h
  | ex c ρ' =>
    rw [ho] at h
    by_cases hc : xs.contains c.nm = true
    · simp only [hc, if_true] at h
      have hc' : c.nm ∈ xs := by simpa using hc
      intro σ' H' F' sr'
      cases c with
      | n nm => exact hh.catch (c := .n nm) hc' sr' (fun e o => by rw [e] at o; exact o σ' H' F' sr') h
      | p nm fld d => exact fun dx v hdx rv => hh.catch (c := .p nm fld d) hc' sr' (fun e o => by rw [e] at o; exact o σ' H' F' sr' dx v hdx rv) h
    · simp only [hc, if_false, Bool.false_eq_true] at h
      exact h.elim
end
theorem exAll_nil {P : String → Prop} : ∀ c ∈ ([] : List String), P c := fun _ h => nomatch h
theorem exAll_cons {K : PySem.W.Frag} {CA : String → Addr} {c D : String} {b : Bool} {l : List String} (h : PySem.W.exmOne K (.ref (CA c)) (.ref (CA D)) = some b) (r : ∀ c ∈ l, PySem.W.exmOne K (.ref (CA c)) (.ref (CA D)) = some (subX c D)) (hb : subX c D = b := by decide) :
    ∀ x ∈ c :: l, PySem.W.exmOne K (.ref (CA x)) (.ref (CA D)) = some (subX x D) := fun x hx => by
  rcases List.mem_cons.mp hx with e | e
  · subst e; rw [hb]; exact h
  · exact r x e
theorem exm_of {K : PySem.W.Frag} {h : Heap} {mg : Str → Option Value} {C D : Addr} {x y : String} {b : Bool} (X : K.In h) (G : h.Ns mainGlobals mg) (a : PySem.W.nsIn K mainGlobals (Str.ofString x) = some (some (.ref C))) (a' : PySem.W.nsIn K mainGlobals (Str.ofString y) = some (some (.ref D)))
    (e : PySem.W.exmOne K (.ref C) (.ref D) = some b) : PySem.W.exmOne K (.ref (caOf mg x)) (.ref (caOf mg y)) = some b := by
  have e1 : mg (Str.ofString x) = some (.ref C) := PySem.W.mg_of X G a
  have e2 : mg (Str.ofString y) = some (.ref D) := PySem.W.mg_of X G a'
  have e3 : caOf mg x = C := by unfold caOf; rw [e1]
  have e4 : caOf mg y = D := by unfold caOf; rw [e2]
  rw [e3, e4]; exact e
theorem exm_by {K : PySem.W.Frag} {C D : Addr} {b : Bool} (h1 : PySem.W.subIn K (.ref D) (.type "BaseException") = some true) (h2 : PySem.W.isClsIn K D = true) (h3 : PySem.W.typeIn K (.ref D) = some (.type "type")) (h4 : PySem.W.subIn K (.ref C) (.ref D) = some b) :
    PySem.W.exmOne K (.ref C) (.ref D) = some b := by
  have e1 : (PySem.W.subIn K (.ref D) (.type "BaseException") == some true) = true := by rw [h1]; rfl
  have e2 : ((PySem.W.clsIn K D).isSome && PySem.W.typeIn K (.ref D) == some (.type "type")) = true := by
    have h2' : (PySem.W.clsIn K D).isSome = true := h2
    rw [h2', h3]; rfl
  show (if (PySem.W.subIn K (.ref D) (.type "BaseException") == some true) = true then (if ((PySem.W.clsIn K D).isSome && PySem.W.typeIn K (.ref D) == some (.type "type")) = true then PySem.W.subIn K (.ref C) (.ref D) else none) else none) = some b
  rw [if_pos e1, if_pos e2]
  exact h4
abbrev QOp := D → List D → Option D
section
variable {X : Cx} {CA : String → Addr} {W : WX} {p2 p3 : Pos} {e o : Expr} {es : List Expr} {se : SE} {s : SA} {op : QOp} {id : String} {name : Str} {r : V → List V → Hp → VK → Prop} {T : MT}
end
section
variable {X : Cx} {CA : String → Addr} {W : WX} {pos p p2 q : Pos} {a : Expr} {sa : SE}
end
end Cz
set_option maxHeartbeats 2000000
namespace Cz
open PySem PySem.Spec PyProof.Rows L2
section
variable {K : PySem.W.Frag} {A : Addr → Prop} {H0 H : Hp} {F : Nat → List Addr} {G : List (D × V)} {ρ : Env} {σ : L2.St}
end
section
variable {X : Cx} {CA : String → Addr} {W : WX} {pos p1 p2 : Pos}
end
section
variable {X : Cx} {CA : String → Addr} {W : WX} {pos p : Pos} {e : Expr} {r : SRg}
end
end Cz
set_option maxHeartbeats 2000000
namespace Cz
open PySem PySem.Spec PyProof.Rows L2
section
variable {X : Cx} {CA : String → Addr} {W : WX} {pos p : Pos} {x : String}
end
section
variable {X : Cx} {CA : String → Addr} {W : WX} {pos p : Pos} {y : Str} {e : Expr} {es : List Expr} {s : SA} {cs : List (String × Fn)} {k i : Nat}
end
section
variable {X : Cx} {CA : String → Addr} {k : Nat}
end
end Cz
set_option maxHeartbeats 2000000
namespace Cz
open PySem PySem.Spec PyProof.Rows L2
end Cz
namespace Cz.St
open PySem PySem.Spec PyProof.Rows L2 SrtO
section
variable {prog : Program} {w : World} {A : Around} {E : Value → Shared → Prop} {s : Shared} {Q : Bool → Shared → Prop}
end
end Cz.St
namespace Cz
open PySem PySem.Spec PyProof.Rows L2
section
variable {X : Cx}
end
end Cz
set_option maxHeartbeats 2000000
namespace Cz
open PySem PySem.Spec PyProof.Rows L2
abbrev SM := Env → Out
def FrE (o : HO) (x : Option HO) : Prop := x = some o ∨ ∃ ps, o = .tbl ps
def NoX (x : Option HO) : Prop := x = none ∨ ∃ ps, x = some (.tbl ps)
theorem FrE.eq {o : HO} {x : Option HO} (h : FrE o x) (n : ¬ ∃ ps, o = .tbl ps) : x = .some o := h.resolve_right n
theorem FrE.back {o : HO} {x : Option HO} (h : FrE o x) (n : NoX x) : NoX (.some o) := by
  rcases h with h | ⟨ps, h⟩
  · rw [← h]; exact n
  · exact .inr ⟨ps, by rw [h]⟩
theorem FrE.same {o : HO} {x y : Option HO} (h : FrE o x) (k : ∀ o1, x = .some o1 → y = .some o1) : FrE o y := h.imp (k o) id
theorem IsT.ne {o : HO} (h : IsT o) : ¬ ∃ ps, o = .tbl ps := fun ⟨_, e⟩ => by subst e; exact h
theorem NoX.no {o : HO} {x : Option HO} (h : NoX x) (e : x = .some o) (n : ¬ ∃ ps, o = .tbl ps) : False := by
  rcases h with h | ⟨ps, h⟩
  · rw [e] at h; cases h
  · rw [e] at h; exact n ⟨ps, Option.some.inj h⟩
structure Eff (n : Nat) (F F' : Nat → List Addr) (H H' : Hp) : Prop where
  hid : ∀ j, n ≤ j → F' j = F j
  fr : ∀ a o, H a = some o → (∀ j, j < n → a ∉ F j) → FrE o (H' a)
  vis : ∀ j, j < n → ∀ a ∈ F' j, (∃ i, i < n ∧ a ∈ F i) ∨ NoX (H a)
theorem Eff.of {n : Nat} {F : Nat → List Addr} {H H' : Hp} (s : Same H H') : Eff n F F H H' := ⟨fun _ _ => rfl, fun a o e _ => .inl (s a o e), fun j hj a ha => .inl ⟨j, hj, ha⟩⟩
theorem Eff.trans {n : Nat} {F F1 F2 : Nat → List Addr} {H H1 H2 : Hp} (a : Eff n F F1 H H1) (b : Eff n F1 F2 H1 H2) : Eff n F F2 H H2 where
  hid := fun j hj => (b.hid j hj).trans (a.hid j hj)
  fr := fun x o e h => by
    rcases Classical.em (∃ ps, o = HO.tbl ps) with t | t
    · exact .inr t
    · exact b.fr x o ((a.fr x o e h).eq t) fun j hj z => by
        rcases a.vis j hj x z with ⟨i, hi, w⟩ | w
        · exact h i hi w
        · exact w.no e t
  vis := fun j hj x hx => by
    rcases b.vis j hj x hx with ⟨i, hi, w⟩ | w
    · exact a.vis i hi x w
    · rcases Classical.em (∃ i, i < n ∧ x ∈ F i) with z | z
      · exact .inl z
      · right
        cases e : H x with
        | none => exact .inl rfl
        | some o => exact (a.fr x o e fun i hi q => z ⟨i, hi, q⟩).back w
theorem Eff.later {n : Nat} {F F1 : Nat → List Addr} {H H0 H1 : Hp} (s : Same H H0) (b : Eff n F F1 H0 H1) : Eff n F F1 H H1 := (Eff.of s).trans b
def MOk (K : PySem.W.Frag) (CA : String → Addr) (W : WX) (A : Addr → Prop) (H0 : Hp) (F : Nat → List Addr) (n : Nat) (G : List (D × V)) (σ : L2.St) (H : Hp) (o : Out) (Q : VK) : Prop := match o with
  | .ri ρ k d => ∀ v Hx H' F' f, SR K A H0 F' G ρ σ Hx → Eff n F F' H Hx → Same Hx H' → Rep K H' d v f → KOk A H0 F' Hx H' k f → Q v H'
  | .ex c ρ => ∀ H' F', SR K A H0 F' G ρ σ H' → WxOk K CA c (fun cls od => W cls od σ) H'
  | _ => False
def tM (K : PySem.W.Frag) (CA : String → Addr) (W : WX) (s : SM) : TE := fun σ H Q => ∃ A H0 F G ρ, SR K A H0 F G ρ σ H ∧ MOk K CA W A H0 F ρ.length G σ H (s ρ) Q
section
variable {K : PySem.W.Frag} {CA : String → Addr} {W : WX} {A : Addr → Prop} {H0 H H1 : Hp} {F : Nat → List Addr} {G : List (D × V)} {ρ : Env} {σ : L2.St} {n : Nat} {Q Q' : VK}
theorem MOk.lift {α : Type} {r : R α} {f : α → Out} (h : MOk K CA W A H0 F n G σ H (r.out ρ f) Q) (sr : SR K A H0 F G ρ σ H) : Post K CA W σ H r fun a => MOk K CA W A H0 F n G σ H (f a) Q := by
  cases r with
  | ok a => exact h
  | ex c => exact fun H' s => h H' F (sr.same s)
  | st => exact h.elim
theorem MOk.later {o : Out} (h : MOk K CA W A H0 F n G σ H o Q) (s : Same H H1) : MOk K CA W A H0 F n G σ H1 o Q := by
  cases o with
  | ri ρ k d => exact fun v Hx H' F' f sr e1 s2 r o => h v Hx H' F' f sr (e1.later s) s2 r o
  | ex c ρ => exact h
  | _ => exact h.elim
theorem MOk.imp {o : Out} (h : MOk K CA W A H0 F n G σ H o Q) (k : ∀ v H, Q v H → Q' v H) : MOk K CA W A H0 F n G σ H o Q' := by
  cases o with
  | ri ρ _ d => exact fun v Hx H' F' f sr e1 s2 r o => k _ _ (h v Hx H' F' f sr e1 s2 r o)
  | ex c ρ => exact h
  | _ => exact h.elim
end
def mE (s : SE) : SM := fun ρ => (s ρ).out ρ fun x => .ri ρ x.1 x.2
section
variable {X : Cx} {CA : String → Addr} {W : WX} {pos pos' p1 p2 p3 : Pos} {a b e o tg : Expr} {es : List Expr} {se : SE} {sp : SPh} {s : SA} {sm : SM} {op : MOp} {T : MT} {id : String} {name : Str} {r : V → List V → Hp → VK → Prop} {tt : Tgt} {sl : List Nat}
theorem m_pure (h : PE X e (tE X.K CA W se)) : PE X e (tM X.K CA W (mE se)) := by
  refine peI h fun σ H Q ⟨A, H0, F, G, ρ, sr, h⟩ => ⟨A, H0, F, G, ρ, sr, (MOk.lift h sr).imp fun ⟨k, d⟩ _ q v H' f s r o => ?_⟩
  exact q v H H' F f sr (Eff.of (Same.refl _)) s r o
def Out.thenM (o : Out) (f : Env → Kd → D → Out) : Out := match o with
  | .ri ρ k d => f ρ k d
  | .ex c ρ => .ex c ρ
  | _ => .st
def asgM (t : Tgt) (s : SM) : SS := fun ρ => (s ρ).thenM fun ρ k d => match t k d ρ with
  | some ρ' => .nx ρ'
  | none => .st
def retI (s : SM) : SS := fun ρ => (s ρ).thenM fun ρ k d => .ri ρ k d
def ifM (s : SM) (a b : SS) : SS := fun ρ => (s ρ).thenM fun ρ _ d => match d with
  | .bl true => a ρ
  | .bl false => b ρ
  | _ => .st
theorem thenM_ok {K : PySem.W.Frag} {A : Addr → Prop} {H0 H : Hp} {F : Nat → List Addr} {G : List (D × V)} {σ : L2.St} {De : Ends} {o : Out} {n : Nat} {f : Env → Kd → D → Out} {Q : VK} (h : OutOk K CA W A H0 G De (o.thenM f))
    (k : ∀ ρ' kk d v Hx H' F' g, o = .ri ρ' kk d → SR K A H0 F' G ρ' σ Hx → Same Hx H' → Rep K H' d v g → KOk A H0 F' Hx H' kk g → OutOk K CA W A H0 G De (f ρ' kk d) → Q v H') : MOk K CA W A H0 F n G σ H o Q := by
  cases o with
  | ri ρ' kk d => exact fun v Hx H' F' g sr _ s r o => k ρ' kk d v Hx H' F' g rfl sr s r o h
  | ex c ρ' => exact fun H' F' sr => h σ H' F' sr
  | _ => exact h.elim
theorem s_asgM (he : PE X e (tM X.K CA W sm)) (hg : PG X tg (tG X.K sl tt)) (hs : swapsWithSole [tg] e pos.line X.env = pure false := by rfl) (hw : swappedStores [tg] e X.env = pure none := by rfl) (h1 : (assignEach [tg] X.env).map (·.2) = [assign tg X.env] := by rfl) :
    PS X (.Assign [tg] e pos) (tS X.K CA W (asgM tt sm)) := by
  refine psI (ps_asg he hg hs hw h1) fun D σ H ⟨A, H0, F, G, ρ, sr, h⟩ => ⟨A, H0, F, G, ρ, sr, thenM_ok h fun ρ' kk d v Hx H' F' g _ sr' s r o q => ?_⟩
  refine ⟨A, H0, Hx, F', G, ρ', kk, d, g, sr', s, r, o, ?_⟩
  cases ht : tt kk d ρ' with
  | none => rw [ht] at q; exact q.elim
  | some ρ2 => rw [ht] at q; exact fun σ' F2 p => q σ' H' F2 p.sr
theorem s_retI (he : PE X e (tM X.K CA W sm)) : PS X (.Return (some e) pos) (tS X.K CA W (retI sm)) := by
  refine psI (ps_ret he) fun D σ H ⟨A, H0, F, G, ρ, sr, h⟩ => ⟨A, H0, F, G, ρ, sr, thenM_ok h fun ρ' kk d v Hx H' F' g _ sr' s r o q => ?_⟩
  exact q v σ Hx H' F' g sr' s r o
end
def bosOk (ρ : Env) : Bool := ρ.all fun s => match s with
  | .bo is _ => is.all fun j => decide (j < ρ.length)
  | _ => true
section
variable {K : PySem.W.Frag} {A : Addr → Prop} {H0 H H1 : Hp} {F : Nat → List Addr} {G : List (D × V)} {ρ : Env} {σ : L2.St} {CA : String → Addr} {Q : VK}
theorem bosOk_get {ρ : Env} (h : bosOk ρ = true) {i : Nat} {is : List Nat} {d : D} (e : ρ[i]? = some (.bo is d)) {L : Nat} (hL : ρ.length ≤ L) : L ∉ is := fun z => by
  have hm : Sl.bo is d ∈ ρ := List.mem_of_getElem? e
  have := List.all_eq_true.mp h _ hm
  simp only [List.all_eq_true, decide_eq_true_eq] at this
  have := this L z
  omega
end
section
variable {X : Cx} {CA : String → Addr} {W : WX}
end
end Cz
set_option maxHeartbeats 2000000
namespace Cz
open PySem PySem.Spec PyProof.Rows L2
theorem mkF_len {n m : Nat} {b : SS} {as : List D} (h : mkF n m b as ≠ .st) : as.length = n := by
  unfold mkF at h
  split at h
  · assumption
  · exact absurd rfl h
section
variable {P : Program} {w : World} {K : PySem.W.Frag} {mg : Str → Option Value} {base : Heap} {CA : String → Addr}
end
section
variable {K : PySem.W.Frag} {H : Hp}
end
def strsD : List D → Option (List Str)
  | [] => some []
  | .str x :: r => (strsD r).map (x :: ·)
  | _ :: _ => none
theorem strsD_eq : ∀ {ds : List D} {ys : List Str}, strsD ds = some ys → ds = ys.map D.str
  | [], _, e => by cases e; rfl
  | .str x :: r, ys, e => by
    unfold strsD at e
    cases h : strsD r with
    | none => rw [h] at e; cases e
    | some zs => rw [h] at e; cases e; rw [strsD_eq h]; rfl
  | .non :: _, _, e => by cases e
  | .bl _ :: _, _, e => by cases e
  | .int _ :: _, _, e => by cases e
  | .tup _ :: _, _, e => by cases e
  | .lst _ :: _, _, e => by cases e
  | .scr _ :: _, _, e => by cases e
  | .dic _ :: _, _, e => by cases e
  | .fn _ :: _, _, e => by cases e
  | .obj _ _ _ :: _, _, e => by cases e
  | .dtk _ :: _, _, e => by cases e
  | .sob _ _ :: _, _, e => by cases e
  | .fdc _ :: _, _, e => by cases e
  | .exv _ _ _ _ :: _, _, e => by cases e
  | .nod _ _ :: _, _, e => by cases e
  | .tg _ _ :: _, _, e => by cases e
  | .hol _ :: _, _, e => by cases e
@[simp] theorem strsD_map : ∀ ys : List Str, strsD (ys.map D.str) = some ys
  | [] => rfl
  | y :: ys => by rw [List.map_cons]; show (strsD (ys.map D.str)).map (y :: ·) = _; rw [strsD_map ys]; rfl
theorem Reps.strs_inv {K : PySem.W.Frag} {H : Hp} : ∀ {ys : List Str} {vs : List V} {f : List Addr}, Reps K H (ys.map D.str) vs f → vs = ys.map V.str
  | [], _, _, h => by cases h; rfl
  | y :: ys, _, _, h => by
    cases h with
    | cons r t => cases r; rw [Reps.strs_inv t]; rfl
theorem Reps.strs {K : PySem.W.Frag} {H : Hp} : ∀ (ys : List Str), Reps K H (ys.map D.str) (ys.map V.str) []
  | [] => .nil
  | y :: ys => .cons (f := []) (g := []) (.str y) (Reps.strs ys)
def joinB (z : Str) : D → Option KD
  | .lst ds => (strsD ds).bind fun ys => if (ys.map (·.length)).sum + ys.length * z.length ≤ 16777216 then some (.own, .str (Txt.join z ys)) else none
  | .tup ds => (strsD ds).bind fun ys => if (ys.map (·.length)).sum + ys.length * z.length ≤ 16777216 then some (.own, .str (Txt.join z ys)) else none
  | _ => none
def joinE (a b : SE) : SE := fun ρ => (a ρ).bind fun x => match x.2 with
  | .str z => (b ρ).bind fun y => R.of (joinB z y.2)
  | _ => .st
section
variable {X : Cx} {CA : String → Addr} {W : WX} {pos p1 p2 p3 apos : Pos} {a e : Expr} {sa sb : SE}
theorem e_join (ha : PE X a (tE X.K CA W sa)) (hb : PE X e (tE X.K CA W sb)) (hs : starEach [e] X.env = [(false, eval e X.env)] := by rfl) (hbase : attributeBase a "join" X.env (eval a X.env) = eval a X.env := by rfl) (hline : (apos.endLine == pos.line) = true := by rfl) :
    PE X (.Call (.Attribute a "join" apos) [e] [] pos) (tE X.K CA W (joinE sa sb)) := by
  refine peI (pe_join ha hb hs hbase hline) fun σ H Q ⟨A, H0, F, G, ρ, sr, h⟩ => ?_
  refine ⟨A, H0, F, G, ρ, sr, h.bind fun ⟨k, d⟩ h1 => ?_⟩
  intro v H1 f s r o
  cases d with
  | str z =>
    cases r
    refine ⟨⟨z, rfl⟩, A, H0, F, G, ρ, sr.same s, Post.bind (h1.later s) fun ⟨k2, d2⟩ h2 => ?_⟩
    intro v2 H2 f2 s2 r2 o2
    obtain ⟨kd, e, q⟩ := h2.of
    have key : ∀ {ds : List D} {vs : List V} {g : List Addr}, Reps X.K H2 ds vs g → ((strsD ds).bind fun ys => if (ys.map (·.length)).sum + ys.length * z.length ≤ 16777216 then some ((Kd.own, D.str (Txt.join z ys)) : KD) else none) = some kd →
        ∃ ys : List Str, vs = ys.map V.str ∧ (ys.map (·.length)).sum + ys.length * z.length ≤ 16777216 ∧ Q (.str (Txt.join z ys)) H2 := fun {ds vs g} rs e => by
      cases hy : strsD ds with
      | none => rw [hy] at e; cases e
      | some ys =>
        rw [hy] at e
        simp only [Option.bind_some] at e
        split at e
        · rename_i hz
          cases e
          have := strsD_eq hy
          subst this
          exact ⟨ys, rs.strs_inv, hz, q.atom (s.trans s2) (.str _)⟩
        · cases e
    cases d2 with
    | lst ds =>
      obtain ⟨l, vs, g, rfl, t, rs, _, _⟩ := r2.lstI
      obtain ⟨ys, e1, e2, e3⟩ := key rs e
      subst e1
      exact ⟨z, l, ys, rfl, rfl, .inl t, e2, e3⟩
    | tup ds =>
      obtain ⟨l, vs, rfl, t, rs⟩ := r2.tupI
      obtain ⟨ys, e1, e2, e3⟩ := key rs e
      subst e1
      exact ⟨z, l, ys, rfl, rfl, .inr (.of t), e2, e3⟩
    | _ => cases e
  | _ => exact h1.elim
end
end Cz
set_option maxHeartbeats 2000000
namespace Cz
open PySem PySem.Spec PyProof.Rows L2
open Classical in
noncomputable def hidH (H : Hp) (g : List Addr) : Hp := fun a => if a ∈ g then none else H a
theorem hidH_in {H : Hp} {g : List Addr} {a : Addr} (h : a ∈ g) : hidH H g a = none := if_pos h
theorem hidH_out {H : Hp} {g : List Addr} {a : Addr} (h : a ∉ g) : hidH H g a = H a := if_neg h
theorem hidH_none {H : Hp} {g : List Addr} {a : Addr} (h : hidH H g a = none) : a ∈ g ∨ H a = none := by
  by_cases q : a ∈ g
  · exact .inl q
  · rw [hidH_out q] at h; exact .inr h
theorem same_hid (H : Hp) (g : List Addr) : Same (hidH H g) H := fun a o e => by
  by_cases q : a ∈ g
  · rw [hidH_in q] at e; cases e
  · rw [hidH_out q] at e; exact e
def RepsI (K : PySem.W.Frag) (H : Hp) : Nat → List D → List V → List Addr → List Addr → Prop
  | 0, d :: ds, v :: vs, f, g => Rep K H d v g ∧ Reps K H ds vs f
  | i + 1, d :: ds, v :: vs, f, g => ∃ f1 f2, f = f1 ++ f2 ∧ Rep K H d v f1 ∧ RepsI K H i ds vs f2 g
  | _, _, _, _, _ => False
theorem RepsI.length {K : PySem.W.Frag} {H : Hp} : ∀ {i : Nat} {ds : List D} {vs : List V} {f g : List Addr}, RepsI K H i ds vs f g → ds.length = vs.length
  | 0, d :: ds, v :: vs, f, g, h => by simp [h.2.length]
  | i + 1, d :: ds, v :: vs, f, g, h => by obtain ⟨f1, f2, _, _, h⟩ := h; simp [RepsI.length h]
  | 0, [], _, _, _, h => h.elim
  | 0, _ :: _, [], _, _, h => h.elim
  | _ + 1, [], _, _, _, h => h.elim
  | _ + 1, _ :: _, [], _, _, h => h.elim
theorem RepsI.get {K : PySem.W.Frag} {H : Hp} : ∀ {i : Nat} {ds : List D} {vs : List V} {f g : List Addr}, RepsI K H i ds vs f g → ∀ {j : Nat} {d : D}, ds[j]? = some d → ∃ v, vs[j]? = some v ∧ ((j = i ∧ Rep K H d v g) ∨ (j ≠ i ∧ ∃ f', Rep K H d v f' ∧ ∀ b ∈ f', b ∈ f))
  | 0, d :: ds, v :: vs, f, g, h, 0, e, he => by simp at he; subst he; exact ⟨v, rfl, .inl ⟨rfl, h.1⟩⟩
  | 0, d :: ds, v :: vs, f, g, h, j + 1, e, he => by
    obtain ⟨w, f', h1, h2, h3, _⟩ := h.2.get (i := j) (d := e) (by simpa using he)
    exact ⟨w, by simpa using h1, .inr ⟨by omega, f', h2, h3⟩⟩
  | i + 1, d :: ds, v :: vs, f, g, h, 0, e, he => by
    obtain ⟨f1, f2, rfl, r, h⟩ := h
    simp at he; subst he
    exact ⟨v, rfl, .inr ⟨by omega, f1, r, fun b hb => List.mem_append_left _ hb⟩⟩
  | i + 1, d :: ds, v :: vs, f, g, h, j + 1, e, he => by
    obtain ⟨f1, f2, rfl, r, h⟩ := h
    obtain ⟨w, h1, h2⟩ := RepsI.get h (j := j) (d := e) (by simpa using he)
    refine ⟨w, by simpa using h1, ?_⟩
    rcases h2 with ⟨h2, h3⟩ | ⟨h2, f', h3, h4⟩
    · exact .inl ⟨by omega, h3⟩
    · exact .inr ⟨by omega, f', h3, fun b hb => List.mem_append_right _ (h4 b hb)⟩
  | 0, [], _, _, _, h, _, _, _ => h.elim
  | 0, _ :: _, [], _, _, h, _, _, _ => h.elim
  | _ + 1, [], _, _, _, h, _, _, _ => h.elim
  | _ + 1, _ :: _, [], _, _, h, _, _, _ => h.elim
def ownK : Kd → Bool
  | .own => true
  | _ => false
theorem ownK_eq {k : Kd} (h : ownK k = true) : k = .own := by cases k <;> first | rfl | cases h
section
variable {X : Cx} {CA : String → Addr} {W : WX} {e : Expr} {es : List Expr} {sa : SE} {s : SA}
end
section
variable {X : Cx} {CA : String → Addr} {W : WX} {fn : Fn} {k i : Nat} {x : String} {p pos : Pos} {e : Expr} {es : List Expr} {s : SA}
end
def slO : Nat → List D → List Sl
  | 0, d :: ds => mkS .own d :: ds.map (Sl.bo [])
  | i + 1, d :: ds => .bo [] d :: slO i ds
  | _, [] => []
theorem slO_len : ∀ (i : Nat) (ds : List D), (slO i ds).length = ds.length
  | 0, [] => rfl
  | 0, d :: ds => by simp [slO]
  | i + 1, [] => rfl
  | i + 1, d :: ds => by simp [slO, slO_len i ds]
theorem slO_at : ∀ (i : Nat) (ds : List D) (j : Nat), (slO i ds)[j]? = ds[j]?.map fun d => if j = i then mkS .own d else .bo [] d
  | 0, [], j => by simp [slO]
  | 0, d :: ds, 0 => by simp [slO]
  | 0, d :: ds, j + 1 => by simp [slO]
  | i + 1, [], j => by simp [slO]
  | i + 1, d :: ds, 0 => by simp [slO]
  | i + 1, d :: ds, j + 1 => by simp [slO, slO_at i ds j]
theorem mkS_ow {d d' : D} (h : mkS .own d = .ow d') : d' = d := by cases d <;> simp [mkS] at h <;> exact h.symm
theorem mkS_bo {d d' : D} {is : List Nat} (h : mkS .own d = .bo is d') : is = [] ∧ d' = d ∧ noL d = true := by cases d <;> simp [mkS] at h <;> (obtain ⟨rfl, rfl⟩ := h; exact ⟨rfl, rfl, by simp [noL]⟩)
theorem SR.initO {K : PySem.W.Frag} {A : Addr → Prop} {H : Hp} {i : Nat} {ds : List D} {vs : List V} {f g : List Addr} {N : List Str} (r : RepsI K H i ds vs f g) (hA : ∀ a ∈ f, A a) (hg : g.Nodup ∧ ∀ a ∈ g, Mu (H a) ∧ a ∉ f) (hN : ds.length ≤ N.length) (hi : i < ds.length) :
    ∃ F, SR K A (hidH H g) F [] (slO i ds ++ List.replicate (N.length - ds.length) Sl.no) (start N vs) H := by
  obtain ⟨di, hdi⟩ : ∃ d, ds[i]? = some d := ⟨_, List.getElem?_eq_getElem hi⟩
  have no : ∀ (j : Nat) (x : Sl), (slO i ds ++ List.replicate (N.length - ds.length) Sl.no)[j]? = some x → x = .no ∨ ∃ d, ds[j]? = some d ∧ x = if j = i then mkS .own d else .bo [] d := fun j x e => by
    by_cases hj : j < ds.length
    · rw [List.getElem?_append_left (by rw [slO_len]; exact hj), slO_at] at e
      cases hd : ds[j]? with
      | none => rw [hd] at e; cases e
      | some d => rw [hd] at e; cases e; exact .inr ⟨d, rfl, rfl⟩
    · rw [List.getElem?_append_right (by rw [slO_len]; omega), List.getElem?_replicate] at e
      split at e
      · cases e; exact .inl rfl
      · cases e
  have st : ∀ {j : Nat} {v : V}, vs[j]? = some v → (start N vs)[j]? = some (some v) := fun {j v} h1 => by
    have hj : j < vs.length := (List.getElem?_eq_some_iff.mp h1).1
    unfold L2.start
    rw [List.getElem?_append_left (by simpa using hj), List.getElem?_map, h1]
    rfl
  obtain ⟨vi, hvi, ri0⟩ := r.get hdi
  have ri : Rep K H di vi g := by
    rcases ri0 with ⟨_, q⟩ | ⟨q, _⟩
    · exact q
    · exact absurd rfl q
  have fr : ∀ {f' : List Addr}, (∀ b ∈ f', b ∈ f) → ∀ a ∈ f', Sh A (hidH H g) (fun j => if j = i then g else []) a := fun {f'} h a ha => ⟨.inl (hA a (h a ha)), fun j hj => by
    have hj : a ∈ (if j = i then g else []) := hj
    split at hj
    · exact (hg.2 a hj).2 (h a ha)
    · cases hj⟩
  refine ⟨fun j => if j = i then g else [], ?_, same_hid H g, fun j => ?_, fun j m a hj hm => ?_, fun j d e => ?_, fun j is d e => ?_, (fun p hp => nomatch hp), fun j hj hn => ?_, ⟨i + 1, fun j hj => if_neg (by omega)⟩, fun z => by
    obtain ⟨j, e⟩ := hasT_iff.mp z
    rcases no j _ e with q | ⟨d', _, q⟩
    · cases q
    · split at q
      · have := mkS_isT .own d'; rw [← q] at this; cases this
      · cases q⟩
  · unfold L2.start
    rw [List.length_append, List.length_append, List.length_map, slO_len, List.length_replicate, List.length_replicate, r.length]
  · show (if j = i then g else []).Nodup ∧ _
    by_cases e : j = i
    · simp only [e, if_true]; exact ⟨hg.1, fun a ha => ⟨hidH_in ha, (hg.2 a ha).1⟩⟩
    · simp only [e, if_false]; exact ⟨List.nodup_nil, fun a ha => nomatch ha⟩
  · have hj : a ∈ (if j = i then g else []) := hj
    have hm : a ∈ (if m = i then g else []) := hm
    split at hj
    · split at hm
      · omega
      · cases hm
    · cases hj
  · rcases no j _ e with q | ⟨d', hd, q⟩
    · cases q
    · by_cases z : j = i
      · rw [if_pos z] at q
        have := mkS_ow q.symm
        subst this
        subst z
        rw [hdi] at hd; cases hd
        refine ⟨vi, st hvi, ?_⟩
        show Rep K H _ vi (if j = j then g else [])
        rw [if_pos rfl]; exact ri
      · rw [if_neg z] at q; cases q
  · rcases no j _ e with q | ⟨d', hd, q⟩
    · cases q
    · by_cases z : j = i
      · rw [if_pos z] at q
        obtain ⟨e1, e2, e3⟩ := mkS_bo q.symm
        subst e1; subst e2; subst z
        rw [hdi] at hd; cases hd
        have := ri.noL e3
        refine ⟨vi, g, st hvi, ri, fun a ha => ?_⟩
        rw [this] at ha; cases ha
      · rw [if_neg z] at q
        cases q
        obtain ⟨v, h1, h2⟩ := r.get hd
        rcases h2 with ⟨h2, _⟩ | ⟨_, f', h3, h4⟩
        · exact absurd h2 z
        · exact ⟨v, f', st h1, h3, fun a ha => .inr (fr h4 a ha)⟩
  · have hn : (if j = i then g else []) ≠ [] := hn
    split at hn
    · rename_i z
      subst z
      refine ⟨di, ?_⟩
      rw [List.getElem?_append_left (by rw [slO_len]; exact hi), slO_at, hdi]
      simp only [Option.map_some, if_true, Option.some.injEq]
      cases q : mkS .own di with
      | ow d => rw [mkS_ow q]
      | bo is d =>
        obtain ⟨_, _, e3⟩ := mkS_bo q
        exact absurd (ri.noL e3) (by simpa using hn)
      | no => cases di <;> simp [mkS] at q
      | tb => cases di <;> simp [mkS] at q
    · exact absurd rfl hn
section
variable {P : Program} {w : World} {K : PySem.W.Frag} {mg : Str → Option Value} {base : Heap} {CA : String → Addr}
end
end Cz
set_option maxHeartbeats 2000000
namespace Cz
open PySem PySem.Spec PyProof.Rows L2
structure ClsF (K : PySem.W.Frag) (C : String) (f : Str) : Prop where
  is : ∃ Ca, PySem.W.nsIn K mainGlobals (Str.ofString C) = some (some (.ref Ca)) ∧ Cls K Ca ∧ NoAttr K Ca f
theorem ClsF.at {K : PySem.W.Frag} {C : String} {f : Str} (h : ClsF K C f) {Ca : Addr} (e : PySem.W.nsIn K mainGlobals (Str.ofString C) = some (some (.ref Ca))) : Cls K Ca ∧ NoAttr K Ca f := by
  obtain ⟨Cb, h1, h2, h3⟩ := h.is
  rw [h1] at e; cases e
  exact ⟨h2, h3⟩
theorem lookup_valV (f : Str) : ∀ fs : List (Str × V), fs.lookup f = valV fs f
  | [] => rfl
  | (g, v) :: r => by
    by_cases h : g = f
    · subst h
      rw [List.lookup_cons_self, valV_pos (p := (g, v)) rfl]
    · have : (f == g) = false := by simpa using fun e : f = g => h e.symm
      rw [List.lookup_cons, this, valV_neg (p := (g, v)) h]
      exact lookup_valV f r
theorem putF_putK (f : Str) (y : V) : ∀ {fs : List (Str × V)}, (fs.map (·.1)).Nodup → putF f y fs = putK fs f y
  | [], _ => rfl
  | (g, v) :: r, n => by
    rw [List.map_cons, List.nodup_cons] at n
    by_cases h : g = f
    · subst h
      unfold putK
      rw [if_pos (by simp), List.map_cons, map_outV n.1]
      simp [putF]
    · rw [putK_cons_ne h, ← putF_putK f y n.2]
      simp [putF, h]
def fldB (cs : List String) (f : Str) : KD → Option KD
  | (k, .obj _ C fs) => if cs.contains C = true then (valD fs f).map fun d => (k, d) else none
  | (_, .sob C fs) => if cs.contains C = true then (valD fs f).map fun d => (.own, d) else none
  | _ => none
def fldE (cs : List String) (f : Str) (a : SE) : SE := fun ρ => (a ρ).bind fun x => R.of (fldB cs f x)
def tFldR (K : PySem.W.Frag) (ta : TE) (f : Str) : TE := fun σ H Q => ta σ H fun x H1 => ∃ a C dx fs v, x = .ref a ∧ Rd H1 a (.ins C dx fs) ∧ Cls K C ∧ NoAttr K C f ∧ fs.lookup f = some v ∧ Q v H1
section
variable {X : Cx} {e : Expr} {f : Str} {pos : Pos} {ta : TE} {P : Program} {w : World} {H : Hp} {h : Heap} {a C dx : Addr} {fs : List (Str × V)}
theorem ins_getR (hok : HOk P w H h) (e : Rd H a (.ins C dx fs)) : ∃ mA, ObjM h a dx C mA ∧ (∀ f, RelO (fs.lookup f) (mA f)) := by
  obtain ⟨d, z, ne, ob, mA, n, r, q⟩ := (show ObjOk P w H h a (.ins C dx fs) from e.ok hok)
  exact ⟨mA, ⟨ob, n, ne⟩, r⟩
theorem pe_fldR (he : PE X e ta) (hb : attributeBase e f X.env (eval e X.env) = eval e X.env := by rfl) : PE X (.Attribute e f pos) (tFldR X.K ta f) := by
  refine ⟨fun pins s σ H Q I h => ?_⟩
  refine attr_of hb (thn (he.run pins s σ H _ I h) fun u s1 ⟨x, H1, I1, rx, a, C, dx, fs, v, ex, ea, c, n, l, q⟩ => ?_)
  subst ex
  obtain rfl : u = Value.ref a := rx
  obtain ⟨mA, O, r⟩ := ins_getR I1.hok ea
  obtain ⟨u, hu, ru⟩ := RelO.some_of (v := v) (o := mA f) (by rw [← l]; exact r f)
  exact get_map I1.kIn O (c.get f) c.hd n hu (handed_of ru) ⟨v, H1, I1.tok _, ru, q⟩
end
theorem RepK.getD {K : PySem.W.Frag} {H : Hp} {κ : Type} [DecidableEq κ] : ∀ {kds : List (κ × D)} {kvs : List (κ × V)} {g : List Addr} {k : κ} {d : D}, RepK K H kds kvs g → valD kds k = some d → ∃ v g', valV kvs k = some v ∧ Rep K H d v g' ∧ (∀ b ∈ g', b ∈ g) ∧ (g.Nodup → g'.Nodup)
  | _, _, _, k, d, .cons (k := k0) (d := d0) (v := v0) (f := f1) (g := g1) r t, e => by
    by_cases h : k0 = k
    · have e : d0 = d := by simpa [valD, h] using e
      subst e; subst h
      exact ⟨v0, f1, valV_pos rfl, r, fun b hb => List.mem_append_left _ hb, fun n => (List.nodup_append.mp n).1⟩
    · obtain ⟨v, g', h1, h2, h3, h4⟩ := RepK.getD (k := k) (d := d) t (by simpa [valD, h] using e)
      exact ⟨v, g', by rw [valV_neg (p := (k0, v0)) h]; exact h1, h2, fun b hb => List.mem_append_right _ (h3 b hb), fun n => h4 (List.nodup_append.mp n).2.1⟩
section
variable {X : Cx} {CA : String → Addr} {W : WX} {pos pos' : Pos} {a e o : Expr} {sa se : SE} {sp : SPh} {f : Str} {cs : List String}
theorem e_fld (hc : ∀ C ∈ cs, ClsF X.K C f) (ha : PE X a (tE X.K CA W sa)) (hb : attributeBase a f X.env (eval a X.env) = eval a X.env := by rfl) : PE X (.Attribute a f pos) (tE X.K CA W (fldE cs f sa)) := by
  refine peI (pe_fldR ha hb) fun σ H Q ⟨A, H0, F, G, ρ, sr, h⟩ => ?_
  refine ⟨A, H0, F, G, ρ, sr, h.bind fun ⟨k, d⟩ h1 => ?_⟩
  intro v H1 g s r o
  obtain ⟨kd, e, q⟩ := h1.of
  cases d with
  | obj t C fs =>
    simp only [fldB] at e
    split at e
    · rename_i hC
      cases hv : valD fs f with
      | none => rw [hv] at e; cases e
      | some d =>
        rw [hv] at e
        simp only [Option.map_some, Option.some.injEq] at e
        subst e
        cases r with
        | @obj _ _ a Ca dx fvs _ f1 hl hCa nk rs htg =>
          obtain ⟨c1, c2⟩ := (hc C (by simpa using hC)).at hCa
          obtain ⟨v, g', h1, h2, h3, h4⟩ := rs.getD hv
          exact ⟨a, Ca, dx, fvs, v, rfl, .of hl, c1, c2, by rw [lookup_valV]; exact h1, q v H1 g' s h2 (o.sub (fun b hb => List.mem_cons_of_mem _ (h3 b hb)) fun n => h4 (List.nodup_cons.mp n).2)⟩
    · cases e
  | sob C fs =>
    simp only [fldB] at e
    split at e
    · rename_i hC
      cases hv : valD fs f with
      | none => rw [hv] at e; cases e
      | some d =>
        rw [hv] at e
        simp only [Option.map_some, Option.some.injEq] at e
        subst e
        cases r with
        | @sob _ a Ca dx ob fvs _ hl hCa nk rs =>
          obtain ⟨c1, c2⟩ := (hc C (by simpa using hC)).at hCa
          obtain ⟨v, g', h1, h2, h3, h4⟩ := rs.getD hv
          have : g' = [] := List.eq_nil_iff_forall_not_mem.mpr fun b hb => nomatch h3 b hb
          subst this
          exact ⟨a, Ca, dx, fvs, v, rfl, .inr ⟨ob, hl⟩, c1, c2, by rw [lookup_valV]; exact h1, q.atom s h2⟩
    · cases e
  | _ => cases e
def fldP (cs : List String) (f : Str) (p : SPh) : SPh := fun ρ => (p ρ).bind fun x => match x.2.2 with
  | .obj _ C fs => if cs.contains C = true then (match valD fs f with
    | some d => .ok (x.1, x.2.1 ++ [.fld f], d)
    | none => .st) else .st
  | _ => .st
theorem p_fld (hc : ∀ C ∈ cs, ClsF X.K C f) (ha : PE X a (tP CA W X.K sp)) (hb : attributeBase a f X.env (eval a X.env) = eval a X.env := by rfl) : PE X (.Attribute a f pos) (tP CA W X.K (fldP cs f sp)) := by
  refine peI (pe_fldR ha hb) fun σ H Q ⟨A, H0, F, G, ρ, sr, h⟩ => ?_
  refine ⟨A, H0, F, G, ρ, sr, Post.bind h fun ⟨j, q, d0⟩ h1 => ?_⟩
  intro v1 H1 s1 at1
  obtain ⟨f0, r0, _, _, _⟩ := at1.open sr s1
  obtain ⟨dw, vj, e1, e2, e3, e4⟩ := at1
  cases d0 with
  | obj t C fs =>
    have h1 : Post X.K CA W σ H (if cs.contains C = true then (match valD fs f with
      | some d => (.ok (j, q ++ [.fld f], d) : R (Nat × List Ix × D))
      | none => .st) else .st) fun x => ∀ v H', Same H H' → PhAt ρ σ H' x v → Q v H' := h1
    by_cases hC : cs.contains C = true
    · rw [if_pos hC] at h1
      cases hv : valD fs f with
      | none => rw [hv] at h1; exact h1.elim
      | some d =>
        rw [hv] at h1
        cases r0 with
        | @obj _ _ a0 Ca dx fvs _ f1 hl hCa nk rs htg =>
          obtain ⟨c1, c2⟩ := (hc C (by simpa using hC)).at hCa
          obtain ⟨v, g', k1, _⟩ := rs.getD hv
          refine ⟨a0, Ca, dx, fvs, v, rfl, .of hl, c1, c2, by rw [lookup_valV]; exact k1, h1 v H1 s1 ⟨dw, vj, e1, e2, ?_, ?_⟩⟩
          · rw [getP_app e3]
            simp [getP, hv]
          · rw [navV_app e4]
            simp [navV, hl, k1]
    · rw [if_neg hC] at h1; exact h1.elim
  | _ => exact h1.elim
def stfS (cs : List String) (p : SPh) (f : Str) (b : SE) : SS := fun ρ => (b ρ).out ρ fun x => (p ρ).out ρ fun y => match y.2.2 with
  | .obj t C fs => if cs.contains C = true ∧ okIn x.1 [x.2] = true ∧ fs.length < 1000 then (match putAt ρ y (.obj t C (putD fs f x.2)) with
    | some ρ' => .nx ρ'
    | none => .st) else .st
  | _ => .st
theorem RepK.put {K : PySem.W.Frag} {H H' : Hp} {κ : Type} [DecidableEq κ] {fs : List (κ × D)} {fvs : List (κ × V)} {g : List Addr} (rs : RepK K H fs fvs g) (nk : (fs.map (·.1)).Nodup) {k : κ} {d : D} {v : V} {gx : List Addr}
    (ht : ∀ b o, H b = some o → IsT o → H' b = some o) (hk : ∀ b ∈ g, ∀ o, H b = some o → H' b = some o) (rx : Rep K H' d v gx) (hn : g.Nodup) (nx : gx.Nodup) (hd : ∀ b ∈ gx, b ∉ g) :
    ∃ g', RepK K H' (putD fs k d) (putK fvs k v) g' ∧ g'.Nodup ∧ ∀ b ∈ g', b ∈ g ∨ b ∈ gx := by
  cases hv : valD fs k with
  | some d0 =>
    obtain ⟨v0, p, g0, r, h1, h2, h3, h4⟩ := rs.at nk hv
    subst h2
    obtain ⟨n1, n2, n3⟩ := List.nodup_append.mp hn
    obtain ⟨n4, n5, n6⟩ := List.nodup_append.mp n1
    refine ⟨p ++ gx ++ r, h4 H' d gx v ht (fun b hb => hk b (by rcases hb with z | z <;> simp [z])) rx, ?_, fun b hb => ?_⟩
    · refine List.nodup_append.mpr ⟨List.nodup_append.mpr ⟨n4, nx, fun x hx y hy e => hd y hy (by simp [← e, hx])⟩, n2, fun x hx y hy e => ?_⟩
      rcases List.mem_append.mp hx with z | z
      · exact n3 x (List.mem_append_left _ z) y hy e
      · exact hd x z (by simp [e, hy])
    · rcases List.mem_append.mp hb with z | z
      · rcases List.mem_append.mp z with z | z
        · exact .inl (by simp [z])
        · exact .inr z
      · exact .inl (by simp [z])
  | none =>
    have hout : k ∉ fs.map (·.1) := fun z => by
      clear rs
      induction fs with
      | nil => cases z
      | cons p fs ih =>
        obtain ⟨k0, d0⟩ := p
        by_cases e : k0 = k
        · simp [valD, e] at hv
        · rw [List.map_cons, List.nodup_cons] at nk
          rcases List.mem_cons.mp z with z | z
          · exact e z.symm
          · exact ih nk.2 (by simpa [valD, e] using hv) z
    have houtV : k ∉ fvs.map (·.1) := by rw [rs.keys]; exact hout
    have e1 : putK fvs k v = fvs ++ [(k, v)] := by
      unfold putK
      rw [if_neg]
      intro z
      obtain ⟨p, hp, e⟩ := List.any_eq_true.mp z
      exact houtV (List.mem_map.mpr ⟨p, hp, of_decide_eq_true e⟩)
    rw [putD_out d hout, e1]
    have app : ∀ {κ : Type} {x : List (κ × D)} {y : List (κ × V)} {p : List Addr} {x' : List (κ × D)} {y' : List (κ × V)} {q : List Addr}, RepK K H' x y p → RepK K H' x' y' q → RepK K H' (x ++ x') (y ++ y') (p ++ q) := by
      intro κ x y p x' y' q h h'
      induction x generalizing y p with
      | nil => cases h; exact h'
      | cons z x ih =>
        cases h with
        | cons r t => rw [List.append_assoc]; exact .cons r (ih t)
    have one : RepK K H' [(k, d)] [(k, v)] gx := by
      have := RepK.cons (k := k) rx (RepK.nil (K := K) (H := H') (κ := κ))
      rw [List.append_nil] at this; exact this
    exact ⟨g ++ gx, app (rs.frame ht hk) one, List.nodup_append.mpr ⟨hn, nx, fun x hx y hy e => hd y hy (e ▸ hx)⟩, fun b hb => List.mem_append.mp hb⟩
theorem s_stf (hc : ∀ C ∈ cs, ClsF X.K C f) (he : PE X e (tE X.K CA W se)) (ho : PE X o (tP CA W X.K sp)) (hs : swapsWith e (some (.Attribute o f pos')) pos.line X.env = pure false := by rfl) : PS X (.Assign [.Attribute o f pos'] e pos) (tS X.K CA W (stfS cs sp f se)) := by
  refine psI (ps_fld ho he hs) fun De σ H ⟨A, H0, F, G, ρ, sr, h⟩ => ?_
  refine ⟨A, H0, F, G, ρ, sr, (lift h sr).imp fun x _ q vx H1 g s1 rx ox => ?_⟩
  refine ⟨A, H0, F, G, ρ, sr.same s1, (lift q (sr.same s1)).imp fun y _ q2 v H2 s2 at2 => ?_⟩
  obtain ⟨j, qq, d0⟩ := y
  have s12 := s1.trans s2
  cases d0 with
  | obj t C fs =>
    have q2 : OutOk X.K CA W A H0 G De (if cs.contains C = true ∧ okIn x.1 [x.2] = true ∧ fs.length < 1000 then (match putAt ρ (j, qq, .obj t C fs) (.obj t C (putD fs f x.2)) with
      | some ρ' => .nx ρ'
      | none => .st) else .st) := q2
    by_cases hh : cs.contains C = true ∧ okIn x.1 [x.2] = true ∧ fs.length < 1000
    · rw [if_pos hh] at q2
      obtain ⟨hC, hi, hz⟩ := hh
      obtain ⟨f0, r0, n0, m0, wr⟩ := at2.open sr s12
      cases r0 with
      | @obj _ _ a Ca dx fvs _ f1 hl hCa nk rs htg =>
        obtain ⟨c1, c2⟩ := (hc C (by simpa using hC)).at hCa
        have rxs : Reps X.K H2 [x.2] [vx] g := by
          have := Reps.cons (rx.same s2) (Reps.nil (K := X.K) (H := H2))
          rw [List.append_nil] at this; exact this
        obtain ⟨gn, gm⟩ := okIn_ok hi rxs (ox.wide (Same.refl _) s2)
        have nn := List.nodup_cons.mp n0
        have gd : ∀ b ∈ g, b ∉ a :: f1 := fun b hb z => (m0 b z).1 (gm b hb).1
        have nt : ∀ b ob, H2 b = some ob → IsT ob → (upd H2 a (.ins Ca dx (putK fvs f vx))) b = some ob := fun b ob e t => by
          have : b ≠ a := fun z => by subst z; rw [hl] at e; cases e; exact t.elim
          rw [upd_ne this]; exact e
        have kp : ∀ b ∈ f1, ∀ ob, H2 b = some ob → (upd H2 a (.ins Ca dx (putK fvs f vx))) b = some ob := fun b hb ob e => by
          have hne : b ≠ a := fun z => nn.1 (by rw [← z]; exact hb)
          rw [upd_ne hne]; exact e
        have rx' : Rep X.K (upd H2 a (.ins Ca dx (putK fvs f vx))) x.2 vx g := (rx.same s2).frame nt fun b hb ob e => by
          have hne : b ≠ a := fun z => gd b hb (by rw [z]; simp)
          rw [upd_ne hne]; exact e
        obtain ⟨g', k1, k2, k3⟩ := rs.put nk (k := f) nt kp rx' nn.2 gn fun b hb z => gd b hb (List.mem_cons_of_mem _ z)
        have ga : a ∉ g' := fun z => by
          rcases k3 a z with w | w
          · exact nn.1 w
          · exact gd a w (by simp)
        obtain ⟨ρ', F', e1, sr'⟩ := wr a (.ins Ca dx (putK fvs f vx)) (.obj t C (putD fs f x.2)) (a :: g') rfl (by simp) trivial (.obj upd_same hCa (putD_nodup nk) k1 htg) (List.nodup_cons.mpr ⟨ga, k2⟩) (fun b hb => by
          rcases List.mem_cons.mp hb with z | z
          · subst z; exact .inl (by simp)
          · rcases k3 b z with w | w
            · exact .inl (List.mem_cons_of_mem _ w)
            · exact .inr (gm b w).1) (fun b hb => by
          by_cases z : b = a
          · subst z; exact ⟨by rw [upd_same]; trivial⟩
          · rw [upd_ne z]
            rcases List.mem_cons.mp hb with w | w
            · exact absurd w z
            · rcases k3 b w with w | w
              · exact (m0 b (List.mem_cons_of_mem _ w)).2
              · exact (gm b w).2)
        rw [e1] at q2
        have nkv : (fvs.map (·.1)).Nodup := by rw [rs.keys]; exact nk
        refine ⟨a, Ca, dx, fvs, rfl, hl, c1, c2, by rw [← rs.length]; exact hz, ?_⟩
        rw [putF_putK f vx nkv]
        exact q2 σ _ F' sr'
    · rw [if_neg hh] at q2; exact q2.elim
  | _ => exact q2.elim
end
end Cz
set_option maxHeartbeats 2000000
namespace Cz
open PySem PySem.Spec PyProof.Rows L2
inductive RG where
  | ok (fs : List (Str × D)) (d : D) | ex (c : Ec) (fs : List (Str × D)) | st
abbrev GFn := Nat → List (Str × D) → List D → RG
def selfG (t : Nat) (C : String) (ρ : Env) : Option (List (Str × D)) := match (ρ[0]? : Option Sl) with
  | some (.ow (.obj t' C' fs')) => if t' = t ∧ C' = C then some fs' else none
  | _ => none
def finG (t : Nat) (C : String) (ρ : Env) (d : D) : RG := match selfG t C ρ with
  | some fs' => .ok fs' d
  | none => .st
def exG (t : Nat) (C : String) (ρ : Env) (c : Ec) : RG := match selfG t C ρ with
  | some fs' => .ex c fs'
  | none => .st
def Out.finG (o : Out) (t : Nat) (C : String) : RG := match o with
  | .nx ρ => Cz.finG t C ρ .non
  | .ri ρ k d => if ownK k = true then Cz.finG t C ρ d else .st
  | .ex c ρ => exG t C ρ c
  | _ => .st
def runG (C : String) (m : Nat) (body : SS) : GFn := fun t fs ds => (body (.ow (.obj t C fs) :: (ds.map (Sl.bo []) ++ List.replicate (m - (ds.length + 1)) .no))).finG t C
def mkG (C : String) (n m : Nat) (body : SS) : GFn := fun t fs ds => if ds.length + 1 = n then runG C m body t fs ds else .st
theorem mkG_of {C : String} {n m : Nat} {body : SS} {t : Nat} {fs : List (Str × D)} {ds : List D} (h : ds.length + 1 = n) : mkG C n m body t fs ds = runG C m body t fs ds := if_pos h
theorem mkG_len {C : String} {n m : Nat} {b : SS} {t : Nat} {fs : List (Str × D)} {ds : List D} (h : mkG C n m b t fs ds ≠ .st) : ds.length + 1 = n := by
  unfold mkG at h
  split at h
  · assumption
  · exact absurd rfl h
def spG (K : PySem.W.Frag) (CA : String → Addr) (C : String) (g : GFn) (n : Nat) : Sp := fun vs H Q E => ∃ (a0 : Addr) (fs0 : List (Str × D)) (ds : List D) (f f0 : List Addr), ds.length + 1 = n ∧ RepsI K H 0 (.obj (a0 + 1) C fs0 :: ds) vs f f0 ∧ vs.head? = some (.ref a0) ∧ f0.Nodup ∧ (∀ a ∈ f0, Mu (H a) ∧ a ∉ f) ∧
  match g (a0 + 1) fs0 ds with
  | .ok fs' d => ∀ v H' f0' g', Same (hidH H f0) H' → Rep K H' (.obj (a0 + 1) C fs') (.ref a0) f0' → Rep K H' d v g' → (f0' ++ g').Nodup → (∀ a ∈ f0' ++ g', (a ∈ f0 ∨ H a = none) ∧ Mu (H' a)) → Q v H'
  | .ex c fs' => ∀ H' f0', Same (hidH H f0) H' → Rep K H' (.obj (a0 + 1) C fs') (.ref a0) f0' → f0'.Nodup → (∀ a ∈ f0', (a ∈ f0 ∨ H a = none) ∧ Mu (H' a)) → WxOk K CA c E H'
  | .st => False
section
variable {P : Program} {w : World} {K : PySem.W.Frag} {mg : Str → Option Value} {base : Heap} {CA : String → Addr}
theorem self_rep {A : Addr → Prop} {H0 H : Hp} {F : Nat → List Addr} {G : List (D × V)} {ρ : Env} {σ : L2.St} {a0 : Addr} {C : String} {fs' : List (Str × D)} (sr : SR K A H0 F G ρ σ H) (h : selfG (a0 + 1) C ρ = some fs') : Rep K H (.obj (a0 + 1) C fs') (.ref a0) (F 0) := by
  unfold selfG at h
  split at h
  · rename_i t' C' fs2 e
    split at h
    · rename_i hz
      obtain ⟨rfl, rfl⟩ := hz
      cases h
      obtain ⟨v, _, r⟩ := sr.slo 0 _ e
      obtain ⟨f, hf⟩ : ∃ f, F 0 = f := ⟨_, rfl⟩
      rw [hf] at r ⊢
      cases r with
      | obj q c n r z =>
        rcases z with z | z
        · omega
        · have : _ = a0 := (Nat.succ.inj z).symm
          subst this
          exact .obj q c n r (.inr rfl)
    · cases h
  · cases h
theorem fn_okG {C : String} {g : GFn} {x qual : Str} {st : Stmt} {f : Addr} {fd : FuncData} {N ps : List Str} {k : Nat} {body : SS} {dvs : List V} (Fu : FunD K x qual (defArgs st) (defBody st) (defScope st) dvs [] f fd) (S : FnScope N ps (defScope st))
    (hb : ∀ (cdv : Value) (A : Around) (outer : List PySem.Env) (s : Shared) (H : Hp) (E : XK), Room k (A.deeper (envOfC qual (defScope st) s.heap.objs.size f cdv)) →
      PSs (cxOf (L2.CX P w) P w K mg base N qual (defScope st) f cdv A outer s H E) (defBody st) (tS K CA (fun cls d _ H => E cls d H) body))
    (hx : ∀ t fs ds, ds.length + 1 = ps.length → g t fs ds = runG C N.length body t fs ds)
    (hN : ps.length ≤ N.length) : FnOk P w K mg base (L2.CX P w) (k + 1) f fd ps (spG K CA C g ps.length) := by
  refine Fu.ok S (fun vs H Q E ⟨a0, fs0, ds, f, f0, h1, h2, _⟩ => by rw [← h2.length]; simpa using h1) fun cdv Ar outer s H vs Q E hr ⟨a0, fs0, ds, f, f0, h1, h2, h0, h3, h4, h5⟩ => ?_
  obtain ⟨F, sr⟩ := SR.initO (N := N) (A := fun a => a ∈ f) h2 (fun a ha => ha) ⟨h3, h4⟩ (by rw [List.length_cons, h1]; exact hN) (by simp)
  refine ⟨_, hb cdv Ar outer s H E hr, fun a => a ∈ f, hidH H f0, F, [], _, sr, ?_⟩
  have e0 : slO 0 (D.obj (a0 + 1) C fs0 :: ds) ++ List.replicate (N.length - (D.obj (a0 + 1) C fs0 :: ds).length) Sl.no = .ow (.obj (a0 + 1) C fs0) :: (ds.map (Sl.bo []) ++ List.replicate (N.length - (ds.length + 1)) .no) := rfl
  rw [e0]
  rw [hx (a0 + 1) fs0 ds h1] at h5
  unfold runG at h5
  have fr : ∀ {a : Addr}, hidH H f0 a = none → a ∈ f0 ∨ H a = none := fun {a} z => hidH_none z
  cases hbo : body (.ow (.obj (a0 + 1) C fs0) :: (ds.map (Sl.bo []) ++ List.replicate (N.length - (ds.length + 1)) .no)) with
  | nx ρ =>
    rw [hbo] at h5
    simp only [Out.finG, Cz.finG] at h5
    cases hs : selfG (a0 + 1) C ρ with
    | none => rw [hs] at h5; exact h5.elim
    | some fs' =>
      rw [hs] at h5
      refine fun σ' H' F' sr' => h5 .non H' (F' 0) [] sr'.fr (self_rep sr' hs) .non (by rw [List.append_nil]; exact (sr'.own 0).1) fun a ha => ?_
      rw [List.append_nil] at ha
      exact ⟨fr ((sr'.own 0).2 a ha).1, ((sr'.own 0).2 a ha).2⟩
  | ri ρ k d =>
    rw [hbo] at h5
    simp only [Out.finG] at h5
    by_cases hk : ownK k = true
    · rw [if_pos hk] at h5
      have := ownK_eq hk
      subst this
      simp only [Cz.finG] at h5
      cases hs : selfG (a0 + 1) C ρ with
      | none => rw [hs] at h5; exact h5.elim
      | some fs' =>
        rw [hs] at h5
        refine fun v σ Hx H' F' g' sr' s' r' o' => h5 v H' (F' 0) g' (sr'.fr.trans s') ((self_rep sr' hs).same s') r' ?_ fun a ha => ?_
        · exact List.nodup_append.mpr ⟨(sr'.own 0).1, o'.1, fun a ha b hb e => by subst e; exact ((sr'.own 0).2 a ha).2.ne (o'.2 a hb).1⟩
        · rcases List.mem_append.mp ha with z | z
          · exact ⟨fr ((sr'.own 0).2 a z).1, ((sr'.own 0).2 a z).2.same s'⟩
          · exact ⟨fr (sr'.fr.free (o'.2 a z).1), (o'.2 a z).2⟩
    · rw [if_neg hk] at h5; exact h5.elim
  | ex c ρ =>
    rw [hbo] at h5
    simp only [Out.finG, Cz.exG] at h5
    cases hs : selfG (a0 + 1) C ρ with
    | none => rw [hs] at h5; exact h5.elim
    | some fs' =>
      rw [hs] at h5
      exact fun σ' H' F' sr' => h5 H' (F' 0) sr'.fr (self_rep sr' hs) (sr'.own 0).1 fun a ha => ⟨fr ((sr'.own 0).2 a ha).1, ((sr'.own 0).2 a ha).2⟩
  | rt k d => rw [hbo] at h5; exact h5.elim
  | bk ρ => rw [hbo] at h5; exact h5.elim
  | ct ρ => rw [hbo] at h5; exact h5.elim
  | st => rw [hbo] at h5; exact h5.elim
end
open Classical in
noncomputable def allG (f : Nat → RG) : RG := if h : ∃ r, ∀ t, f t = r then h.choose else .st
theorem allG_const {f : Nat → RG} {r : RG} (h : ∀ t, f t = r) : allG f = r := by
  unfold allG
  rw [dif_pos ⟨r, h⟩]
  have : ∃ r, ∀ t, f t = r := ⟨r, h⟩
  exact (this.choose_spec 0).symm.trans (h 0)
theorem allG_at {f : Nat → RG} (h : allG f ≠ .st) (t : Nat) : f t = allG f := by
  unfold allG at h ⊢
  split
  · rename_i hz; exact hz.choose_spec t
  · rename_i hz; rw [dif_neg hz] at h; exact absurd rfl h
section
variable {K : PySem.W.Frag} {A : Addr → Prop} {H0 Hb H H' : Hp} {F : Nat → List Addr} {G : List (D × V)} {ρ : Env} {σ : L2.St}
theorem SR.mutG {j : Nat} {d d' : D} {v : V} {f' : List Addr} (sr : SR K A H0 F G ρ σ Hb) (fr : ∀ a o, Hb a = some o → a ∉ F j → H a = some o) (hs : ρ[j]? = some (.ow d)) (hv : σ[j]? = some (some v))
    (r : Rep K H d' v f') (nf : f'.Nodup) (hf : ∀ b ∈ f', b ∈ F j ∨ Hb b = none) (hmu : ∀ b ∈ f', Mu (H b)) : SR K A H0 (updF F j f') G ((inv j ρ).set j (.ow d')) σ H := by
  have hj : j < ρ.length := (List.getElem?_eq_some_iff.mp hs).1
  have nt : ∀ b ob, Hb b = some ob → IsT ob → H b = some ob := fun b ob e t => by
    refine fr b ob e fun z => ?_
    have := ((sr.own j).2 b z).2.m
    rw [e] at this
    cases ob <;> first | exact t.elim | exact this.elim
  have kp : ∀ {f : List Addr}, (∀ b ∈ f, b ∉ F j) → ∀ b ∈ f, ∀ ob, Hb b = some ob → H b = some ob := fun {f} hf b hb ob e => fr b ob e (hf b hb)
  have mu : ∀ {b : Addr}, b ∉ F j → Mu (Hb b) → Mu (H b) := fun {b} h m => by
    cases e : Hb b with
    | none => exact absurd e m.ne
    | some o => rw [fr b o e h]; rw [e] at m; exact m
  have sh : ∀ {b : Addr}, Hb b ≠ none → Sh A H0 F b → b ∉ F j ∧ Sh A H0 (updF F j f') b := fun {b} hb h => by
    refine ⟨h.2 j, h.1, fun m hm' => ?_⟩
    by_cases e : m = j
    · subst e
      rw [updF_same] at hm'
      exact (hf b hm').elim (h.2 m) hb
    · rw [updF_ne e] at hm'; exact h.2 m hm'
  refine ⟨by rw [List.length_set, inv_len]; exact sr.len, fun b ob e => ?_, fun i => ?_, fun i m b hi hm' => ?_, fun i d2 e => ?_, fun i is d2 e => ?_, fun p hp => ?_, fun i hi hn => ?_, fin_upd sr.fin, sr.tbS (fun z => hasT_inv (hasT_set rfl z)) fun b o e t => fr b o e fun z => sr.teF z e t⟩
  · exact fr b ob (sr.fr b ob e) fun z => by rw [((sr.own j).2 b z).1] at e; cases e
  · by_cases e : i = j
    · subst e
      rw [updF_same]
      exact ⟨nf, fun b hb => ⟨(hf b hb).elim (fun q => ((sr.own i).2 b q).1) fun q => sr.fr.free q, hmu b hb⟩⟩
    · rw [updF_ne e]
      exact ⟨(sr.own i).1, fun b hb => ⟨((sr.own i).2 b hb).1, mu (fun z => e (sr.dis i j b hb z)) ((sr.own i).2 b hb).2⟩⟩
  · by_cases e : i = j
    · by_cases e' : m = j
      · rw [e, e']
      · rw [e, updF_same] at hi; rw [updF_ne e'] at hm'
        rcases hf b hi with q | q
        · exact e.trans (sr.dis j m b q hm')
        · exact absurd q ((sr.own m).2 b hm').2.ne
    · by_cases e' : m = j
      · rw [e', updF_same] at hm'; rw [updF_ne e] at hi
        rcases hf b hm' with q | q
        · exact (sr.dis i j b hi q).trans e'.symm
        · exact absurd q ((sr.own i).2 b hi).2.ne
      · rw [updF_ne e] at hi; rw [updF_ne e'] at hm'; exact sr.dis i m b hi hm'
  · by_cases h : j = i
    · subst h
      rw [List.getElem?_set_self (by rw [inv_len]; exact hj)] at e
      cases e
      exact ⟨v, hv, by rw [updF_same]; exact r⟩
    · rw [List.getElem?_set_ne h] at e
      obtain ⟨v2, h1, h2⟩ := sr.slo i d2 (inv_ow.mp e)
      rw [updF_ne (Ne.symm h)]
      exact ⟨v2, h1, h2.frame nt (kp fun b hb z => h (sr.dis j i b z hb))⟩
  · by_cases h : j = i
    · subst h
      rw [List.getElem?_set_self (by rw [inv_len]; exact hj)] at e
      cases e
    · rw [List.getElem?_set_ne h] at e
      obtain ⟨e1, hji⟩ := inv_bo e
      obtain ⟨v2, g, h1, h2, h3⟩ := sr.slb i is d2 e1
      have key : ∀ b ∈ g, b ∉ F j ∧ ((∃ m ∈ is, b ∈ updF F j f' m) ∨ Sh A H0 (updF F j f') b) := fun b hb => by
        rcases h3 b hb with ⟨m, hm', q⟩ | q
        · have hmj : m ≠ j := fun z => hji (z ▸ hm')
          exact ⟨fun z => hmj (sr.dis m j b q z), .inl ⟨m, hm', by rw [updF_ne hmj]; exact q⟩⟩
        · obtain ⟨q1, q2⟩ := sh (h2.trk b hb) q
          exact ⟨q1, .inr q2⟩
      exact ⟨v2, g, h1, h2.frame nt (kp fun b z => (key b z).1), fun b hb => (key b hb).2⟩
  · obtain ⟨g, h1, h2⟩ := sr.gho p hp
    exact ⟨g, h1.frame nt (kp fun b z => (sh (h1.trk b z) (h2 b z)).1), fun b hb => (sh (h1.trk b hb) (h2 b hb)).2⟩
  · rw [List.length_set, inv_len] at hi
    by_cases h : j = i
    · subst h; exact ⟨d', by rw [List.getElem?_set_self (by rw [inv_len]; exact hi)]⟩
    · rw [updF_ne (Ne.symm h)] at hn
      obtain ⟨d2, e⟩ := sr.emp i hi hn
      exact ⟨d2, by rw [List.getElem?_set_ne h]; exact inv_ow.mpr e⟩
theorem PhAt.openG {x : Nat × List Ix × D} {v : V} (sr : SR K A H0 F G ρ σ Hb) (s : Same Hb H) (h : PhAt ρ σ H x v) : ∃ f0, Rep K H x.2.2 v f0 ∧ f0.Nodup ∧ (∀ b ∈ f0, b ∈ F x.1 ∧ Hb b ≠ none ∧ Mu (H b)) ∧
    ∀ (H' : Hp) (d0' : D) (f0' : List Addr), (∀ b o, H b = some o → b ∉ f0 → H' b = some o) → Rep K H' d0' v f0' → f0'.Nodup → (∀ b ∈ f0', b ∈ f0 ∨ Hb b = none) → (∀ b ∈ f0', Mu (H' b)) →
      ∃ ρ' F', putAt ρ x d0' = some ρ' ∧ SR K A H0 F' G ρ' σ H' ∧ Eff ρ.length F F' Hb H' := by
  obtain ⟨d, vj, h1, h2, h3, h4⟩ := h
  have hx : x.1 < ρ.length := (List.getElem?_eq_some_iff.mp h1).1
  obtain ⟨vj', h5, rjb⟩ := sr.slo _ d h1
  rw [h2] at h5; cases h5
  have rj := rjb.same s
  have own := sr.own x.1
  obtain ⟨v0, f0, k1, k2, k3, k4, k5⟩ := nav_rep rj h3
  rw [h4] at k1; cases k1
  refine ⟨f0, k2, k4 own.1, fun b hb => ⟨k3 b hb, (own.2 b (k3 b hb)).2.ne, (own.2 b (k3 b hb)).2.same s⟩, fun H' d0' f0' fr r nf hf hmu => ?_⟩
  have hnt : ∀ b o, H b = some o → IsT o → H' b = some o := fun b o e t => fr b o e fun z => by
    have := ((own.2 b (k3 b z)).2.same s).m
    rw [e] at this
    cases o <;> first | exact t.elim | exact this.elim
  obtain ⟨d', f', e1, e2, e3, e4⟩ := k5 own.1 H' d0' f0' hnt (fun b hb hn ob e => fr b ob e hn) r nf (fun b hb => (hf b hb).imp id fun z w => (own.2 b w).2.ne z)
  refine ⟨(inv x.1 ρ).set x.1 (.ow d'), updF F x.1 f', by unfold putAt; rw [h1]; simp only [slD, Option.getD_some]; rw [e1]; rfl, ?_, fun j hj => updF_ne (by omega), fun b ob eb hb => ?_, fun j hj b hb => ?_⟩
  · refine sr.mutG (fun b ob eb hb => fr b ob (s b ob eb) fun z => hb (k3 b z)) h1 h2 e2 e3 (fun b hb => ?_) fun b hb => ?_
    · rcases e4 b hb with z | z
      · exact (hf b z).imp (k3 b) id
      · exact .inl z.1
    · rcases e4 b hb with z | z
      · exact hmu b z
      · have m := (own.2 b z.1).2
        cases e : Hb b with
        | none => exact absurd e m.ne
        | some o => rw [fr b o (s b o e) z.2]; rw [e] at m; exact m
  · exact .inl <| fr b ob (s _ _ eb) fun z => hb x.1 hx (k3 b z)
  · by_cases e : j = x.1
    · subst e
      rw [updF_same] at hb
      rcases e4 b hb with z | z
      · exact (hf b z).imp (fun w => ⟨x.1, hx, k3 b w⟩) .inl
      · exact .inl ⟨x.1, hx, z.1⟩
    · rw [updF_ne e] at hb; exact .inl ⟨j, hj, hb⟩
end
end Cz
set_option maxHeartbeats 2000000
namespace Cz
open PySem PySem.Spec PyProof.Rows L2
def tMethSD (C : Addr) (m : Str) (sp : Sp) (E : L2.St → XK) (ta : TE) (t : TA) : TE := fun σ H Q => ta σ H fun x H1 => ∃ a dx fs, x = .ref a ∧ Rd H1 a (.ins C dx fs) ∧ fs.lookup m = none ∧ t σ H1 fun vs H2 => sp (x :: vs) H2 Q (E σ)
def tMakeSD (C : Addr) (sp : Sp) (E : L2.St → XK) (t : TA) : TE := fun σ H Q => t σ H fun vs H1 => ∀ x dx, H1 x = none → H1 dx = none → dx ≠ x →
  sp (.ref x :: vs) (upd (upd H1 dx (.own x)) x (.ins C dx [])) (fun v H2 => v = .non ∧ Q (.ref x) H2) (E σ)
section
variable {X : Cx} {CXx : CXT} {k : Nat} {f C : Addr} {fd : FuncData} {ps : List Str} {sp : Sp} {E : L2.St → XK} {x m : Str} {p pos apos : Pos} {e o : Expr} {es : List Expr} {ta : TE} {t : TA}
theorem getmeth_okR {pins : List (Addr × Obj)} {σ : L2.St} {H : Hp} {s : Shared} {A : Around} {E : Value → Shared → Prop} {a dx : Addr} {fs : List (Str × V)} {m : Str} {g : Addr} {pl : Sem Bool} {Q : Value × List Value → Shared → Prop} (I : Inv X pins σ H s) (e : Rd H a (.ins C dx fs)) (c : Cls X.K C) (k : Meth X.K C m g) (l : fs.lookup m = none)
    (h : Q (.ref g, [.ref a]) s) : wpAny (model X.prog X.w) A (getMethod (.ref a) m pl) Q E s := by
  obtain ⟨mA, O, r⟩ := ins_getR I.hok e
  have hn : mA m = none := RelO.none_of (by rw [← l]; exact r m)
  exact get_meth I.kIn O (c.get m) k.at_ k.fn hn h
theorem pe_methSD {pl : Sem Bool} (he : PE X o ta) (c : Cls X.K C) (hm : Meth X.K C m f) (F : FnOk X.prog X.w X.K X.mg X.base CXx k f fd ps sp) (hr : Room k X.A) (hb : Binds X.K fd ps []) (hx : ∀ σ, PassesAt CXx X σ (E σ)) (ha : PA X (e :: es) t)
    (hst : starEach (e :: es) X.env = (false, eval e X.env) :: starEach es X.env := by rfl) (hpl : (backTo pos (starEach es X.env)).any (·.1) = false := by rfl)
    (ht : eval (.Call (.Attribute o m apos) (e :: es) [] pos) X.env = (do
      let ov ← eval o X.env
      standAt apos.atName
      let (f, first) ← holding [ov] (getMethod ov m pl)
      callWith pos f first (backTo pos (starEach (e :: es) X.env)) (backToKw pos (keywordEach [] X.env))) := by rfl) :
    PE X (.Call (.Attribute o m apos) (e :: es) [] pos) (tMethSD C m sp E ta t) := by
  refine ⟨fun pins s σ H Q I h => ?_⟩
  refine PySem.W.methodCall_KW (pl := pl) (thn (he.run pins s σ H _ I h) fun u s1 ⟨x, H1, I1, rx, a, dx, fs, ex, ea, l, q⟩ => ?_) ht
  subst ex
  obtain rfl : u = Value.ref a := rx
  refine getmeth_okR I1 ea c hm l ?_
  refine PySem.W.callWith_K (first := [.ref a]) (h₀ := X.base) I.ok.mod.kin hm.kp (thn (ha.run pos pins s1 σ H1 _ I1 q) fun us s2 ⟨vs, H2, I2, r, q2⟩ => ⟨I2.kIn, ?_⟩) hst hpl
  exact run_fnSD (us := .ref a :: us) (vs := .ref a :: vs) (dvs := []) F hr hb .nil (hx σ) I2 (.cons rfl r) (by rw [List.append_nil]; exact q2)
theorem pe_methSD0 {pl : Sem Bool} (he : PE X o ta) (c : Cls X.K C) (hm : Meth X.K C m f) (F : FnOk X.prog X.w X.K X.mg X.base CXx k f fd ps sp) (hr : Room k X.A) (hb : Binds X.K fd ps []) (hx : ∀ σ, PassesAt CXx X σ (E σ))
    (ht : eval (.Call (.Attribute o m apos) [] [] pos) X.env = (do
      let ov ← eval o X.env
      standAt apos.atName
      let (f, first) ← holding [ov] (getMethod ov m pl)
      callWith pos f first (backTo pos (starEach [] X.env)) (backToKw pos (keywordEach [] X.env))) := by rfl) :
    PE X (.Call (.Attribute o m apos) [] [] pos) (tMethSD C m sp E ta tNil) := by
  refine ⟨fun pins s σ H Q I h => ?_⟩
  refine PySem.W.methodCall_KW (pl := pl) (thn (he.run pins s σ H _ I h) fun u s1 ⟨x, H1, I1, rx, a, dx, fs, ex, ea, l, q⟩ => ?_) ht
  subst ex
  obtain rfl : u = Value.ref a := rx
  refine getmeth_okR I1 ea c hm l ?_
  exact PySem.W.callWith_K0 (first := [.ref a]) I1.kIn hm.kp (run_fnSD (us := [.ref a]) (vs := [.ref a]) (dvs := []) F hr hb .nil (hx σ) I1 (.cons rfl .nil) q)
theorem run_makeSD {pins : List (Addr × Obj)} {σ : L2.St} {H : Hp} {s : Shared} {Q : VK} {us : List Value} {vs : List V} (M : Mk X.K C f) (F : FnOk X.prog X.w X.K X.mg X.base CXx k f fd ps sp) (hr : Room (k + 1) X.A) (hb : Binds X.K fd ps [])
    (hx : PassesAt CXx X σ (E σ)) (I : Inv X pins σ H s) (r : Vals vs us)
    (h : ∀ x dx, H x = none → H dx = none → dx ≠ x → sp (.ref x :: vs) (upd (upd H dx (.own x)) x (.ins C dx [])) (fun v H2 => v = .non ∧ Q (.ref x) H2) (E σ)) :
    wpAny (model X.prog X.w) X.A (call (.ref C) us) (EP X pins σ Q) X.xe s := by
  have hq := h (s.heap.objs.size + 1) s.heap.objs.size (I.hok.fresh (Nat.le_succ _)) (I.hok.fresh (Nat.le_refl _)) (Nat.ne_of_lt (Nat.lt_succ_self _))
  have I2 := Inv.made (C := C) I
  have r2 : Vals (V.ref (s.heap.objs.size + 1) :: vs) (Value.ref (s.heap.objs.size + 1) :: us) := .cons rfl r
  have hl : (Value.ref (s.heap.objs.size + 1) :: us ++ []).length = ps.length := by
    have e := r2.length
    rw [F.len _ _ _ _ hq] at e
    rw [List.append_nil]; exact e.symm
  refine wpAny_call (make_map (f := f) I.kIn M.makes M.init (beq_iff_eq.mp M.fn) (codeAny_mono (F.run _ X.stack _ _ ⟨Value.ref (s.heap.objs.size + 1) :: us, []⟩ (Value.ref (s.heap.objs.size + 1) :: us) _ _ (E σ) (hr.make C us [])
    (I2.env0.make C us []) (by have := hb _ (Value.ref (s.heap.objs.size + 1) :: us) I2.kIn hl; rw [List.append_nil] at this; exact this) r2 hq) fun r s' hq' => ?_))
  cases r with
  | error e => exact hx pins _ _ e s' I2 hq'
  | ok fl =>
    cases fl with
    | ret u =>
      obtain ⟨v, H', I3, rv, ev, q3⟩ := I2.after hq'
      subst ev
      exact ⟨rv, ⟨V.ref (s.heap.objs.size + 1), H', I3, rfl, q3⟩⟩
    | next => exact False.elim hq'
    | brk => exact False.elim hq'
    | cont => exact False.elim hq'
theorem pe_makeSD (M : Mk X.K C f) (F : FnOk X.prog X.w X.K X.mg X.base CXx k f fd ps sp) (hr : Room (k + 1) X.A) (hg : Gl X x) (hm : X.mg x = some (.ref C)) (hb : Binds X.K fd ps []) (hx : ∀ σ, PassesAt CXx X σ (E σ))
    (ha : PA X (e :: es) t) (hdb : (x == ("__debug__" : Str)) = false) (he : starEach (e :: es) X.env = (false, eval e X.env) :: starEach es X.env) (hpl : (backTo pos (starEach es X.env)).any (·.1) = false) :
    PE X (.Call (.Name x p) (e :: es) [] pos) (tMakeSD C sp E t) := by
  refine ⟨fun pins s σ H Q I h => ?_⟩
  refine wpAny_Call_Name_kw (ld_glob I hg hm ?_ hdb)
  refine PySem.W.callWith_K (h₀ := X.base) I.ok.mod.kin M.kp (thn (ha.run pos pins s σ H _ I h) fun us s1 ⟨vs, H1, I1, r, q⟩ => ⟨I1.kIn, ?_⟩) he hpl
  exact run_makeSD M F hr hb (hx σ) I1 r q
end
structure MtC (P : Program) (w : World) (K : PySem.W.Frag) (mg : Str → Option Value) (base : Heap) (CA : String → Addr) (C m : String) (g : GFn) (k : Nat) : Prop where
  is : ∃ (Ca f : Addr) (fd : FuncData) (ps : List Str), PySem.W.nsIn K mainGlobals (Str.ofString C) = some (some (.ref Ca)) ∧ Cls K Ca ∧ Meth K Ca (Str.ofString m) f ∧ FnOk P w K mg base (L2.CX P w) k f fd ps (spG K CA C g ps.length) ∧ Binds K fd ps [] ∧ ∀ t fs ds, g t fs ds ≠ .st → ds.length + 1 = ps.length
structure MtR (P : Program) (w : World) (K : PySem.W.Frag) (mg : Str → Option Value) (base : Heap) (CA : String → Addr) (C m : String) (fn : Fn) (k : Nat) : Prop where
  is : ∃ (Ca f : Addr) (fd : FuncData) (ps : List Str), PySem.W.nsIn K mainGlobals (Str.ofString C) = some (some (.ref Ca)) ∧ Cls K Ca ∧ Meth K Ca (Str.ofString m) f ∧ FnOk P w K mg base (L2.CX P w) k f fd ps (spF K CA fn ps.length) ∧ Binds K fd ps [] ∧ ∀ as, fn as ≠ .st → as.length = ps.length
structure MtI (P : Program) (w : World) (K : PySem.W.Frag) (mg : Str → Option Value) (base : Heap) (CA : String → Addr) (C : String) (g : GFn) (k : Nat) : Prop where
  is : ∃ (Ca f : Addr) (fd : FuncData) (ps : List Str), PySem.W.nsIn K mainGlobals (Str.ofString C) = some (some (.ref Ca)) ∧ mg (Str.ofString C) = some (.ref Ca) ∧ Mk K Ca f ∧ FnOk P w K mg base (L2.CX P w) k f fd ps (spG K CA C g ps.length) ∧ Binds K fd ps [] ∧ ∀ t fs ds, g t fs ds ≠ .st → ds.length + 1 = ps.length
def noKey (fs : List (Str × D)) (m : Str) : Bool := fs.all fun p => decide (p.1 ≠ m)
theorem noKey_ok {K : PySem.W.Frag} {H : Hp} {fs : List (Str × D)} {fvs : List (Str × V)} {g : List Addr} {m : Str} (r : RepK K H fs fvs g) (h : noKey fs m = true) : fvs.lookup m = none := by
  have hk : m ∉ fvs.map (·.1) := by
    rw [r.keys]
    intro z
    obtain ⟨p, hp, e⟩ := List.mem_map.mp z
    have := List.all_eq_true.mp h p hp
    simp at this
    exact this e
  clear r h
  induction fvs with
  | nil => rfl
  | cons p r ih =>
    obtain ⟨k0, v⟩ := p
    have : (m == k0) = false := by simpa using fun e : m = k0 => hk (by simp [e])
    rw [List.lookup_cons, this]
    exact ih fun z => hk (by simp at z ⊢; exact .inr z)
noncomputable def mcM (C m : String) (g : GFn) (p : SPh) (s : SA) : SM := fun ρ => (p ρ).out ρ fun x => match x.2.2 with
  | .obj t C' fs => if C' = C ∧ noKey fs (Str.ofString m) = true then (s ρ).out ρ fun xs => if x.1 ∈ (jn xs).is then .st else match allG fun t => g t fs (xs.map (·.2)) with
    | .ok fs' d => (match putAt ρ x (.obj t C fs') with
      | some ρ' => .ri ρ' .own d
      | none => .st)
    | .ex c fs' => (match putAt ρ x (.obj t C fs') with
      | some ρ' => .ex c ρ'
      | none => .st)
    | .st => .st else .st
  | _ => .st
section
variable {X : Cx} {CA : String → Addr} {W : WX} {C m : String} {g : GFn} {k : Nat} {p pos apos : Pos} {e o : Expr} {es : List Expr} {s : SA} {sp : SPh}
theorem mc_core {A : Addr → Prop} {H0 H H2 : Hp} {F : Nat → List Addr} {G : List (D × V)} {ρ : Env} {σ : L2.St} {Q : VK} {x : Nat × List Ix × D} {v : V} {t : Nat} {fs : List (Str × D)} {xs : List KD} {vs : List V} {gx : List Addr} {n : Nat} {a : Addr}
    (sr : SR X.K A H0 F G ρ σ H) (s2 : Same H H2) (at2 : PhAt ρ σ H2 x v) (ex : x.2.2 = .obj t C fs) (ev : v = .ref a) (rs : Reps X.K H2 (xs.map (·.2)) vs gx) (bo : BOk A H0 F (jn xs).is gx) (hj : x.1 ∉ (jn xs).is) (hn : (xs.map (·.2)).length + 1 = n)
    (h : MOk X.K CA W A H0 F ρ.length G σ H (match allG fun t => g t fs (xs.map (·.2)) with
      | .ok fs' d => (match putAt ρ x (.obj t C fs') with
        | some ρ' => .ri ρ' .own d
        | none => .st)
      | .ex c fs' => (match putAt ρ x (.obj t C fs') with
        | some ρ' => .ex c ρ'
        | none => .st)
      | .st => .st) Q) : spG X.K CA C g n (.ref a :: vs) H2 Q (WE W σ) := by
  obtain ⟨f0, r0, n0, m0, wr⟩ := at2.openG sr s2
  rw [ex, ev] at r0
  have htag : t = 0 ∨ t = a + 1 := by cases r0 with | obj q c n r z => exact z
  have hca : ∃ Ca, PySem.W.nsIn X.K mainGlobals (Str.ofString C) = some (some (.ref Ca)) := by cases r0 with | obj q c n r z => exact ⟨_, c⟩
  have r1 : Rep X.K H2 (.obj (a + 1) C fs) (.ref a) f0 := by cases r0 with | obj q c n r z => exact .obj q c n r (.inr rfl)
  have retag : ∀ {H' : Hp} {fs' : List (Str × D)} {f' : List Addr}, Rep X.K H' (.obj (a + 1) C fs') (.ref a) f' → Rep X.K H' (.obj t C fs') v f' := fun {H' fs' f'} r => by
    rw [ev]; cases r with | obj q c n r z => exact .obj q c n r htag
  refine ⟨a, fs, xs.map (·.2), gx, f0, hn, ⟨r1, rs⟩, rfl, n0, fun b hb => ⟨(m0 b hb).2.2, fun z => ?_⟩, ?_⟩
  · rcases bo b z with ⟨j', hj', q⟩ | q
    · exact hj (sr.dis j' x.1 b q (m0 b hb).1 ▸ hj')
    · exact q.2 x.1 (m0 b hb).1
  · cases hall : allG fun t => g t fs (xs.map (·.2)) with
    | st => rw [hall] at h; exact h.elim
    | ok fs' d =>
      have hg := allG_at (f := fun t => g t fs (xs.map (·.2))) (by rw [hall]; simp) (a + 1)
      simp only [hall] at hg h
      rw [hg]
      intro w H' f0' g' sH r' rv nd cond
      obtain ⟨nd1, nd2, nd3⟩ := List.nodup_append.mp nd
      have mg : ∀ b ∈ g', Mu (H' b) := fun b hb => (cond b (List.mem_append_right _ hb)).2
      have rx : Rep X.K (hidH H' g') (.obj t C fs') v f0' := (retag r').frame (fun b ob e tt => by
        have : b ∉ g' := fun z => by
          have := (mg b z).m
          rw [e] at this
          cases ob <;> first | exact tt.elim | exact this.elim
        rw [hidH_out this]; exact e) fun b hb ob e => by rw [hidH_out fun z => nd3 b hb b z rfl]; exact e
      obtain ⟨ρ', F', e1, sr', eff⟩ := wr (hidH H' g') (.obj t C fs') f0' (fun b ob e hb => by
        have hh : H' b = some ob := sH b ob (by rw [hidH_out hb]; exact e)
        rw [hidH_out fun z => ?_]; exact hh
        rcases (cond b (List.mem_append_right _ z)).1 with w | w
        · exact hb w
        · rw [w] at e; cases e) rx nd1 (fun b hb => (cond b (List.mem_append_left _ hb)).1.imp id fun z => s2.free z) (fun b hb => by
        rw [hidH_out fun z => nd3 b hb b z rfl]; exact (cond b (List.mem_append_left _ hb)).2)
      simp only [e1] at h
      exact h w (hidH H' g') H' F' g' sr' eff (same_hid H' g') rv ⟨nd2, fun b hb => ⟨hidH_in hb, mg b hb⟩⟩
    | ex c fs' =>
      have hg := allG_at (f := fun t => g t fs (xs.map (·.2))) (by rw [hall]; simp) (a + 1)
      simp only [hall] at hg h
      rw [hg]
      intro H' f0' sH r' nd cond
      obtain ⟨ρ', F', e1, sr', eff⟩ := wr H' (.obj t C fs') f0' (fun b ob e hb => sH b ob (by rw [hidH_out hb]; exact e)) (retag r') nd (fun b hb => (cond b hb).1.imp id fun z => s2.free z) (fun b hb => (cond b hb).2)
      simp only [e1] at h
      exact h H' F' sr'
theorem m_meth (tk : Takes X W) (hr : Room k X.A) (hm : MtC X.prog X.w X.K X.mg X.base CA C m g k) (ho : PE X o (tP CA W X.K sp)) (ha : PA X (e :: es) (tA X.K CA W s)) {pl : Sem Bool}
    (hst : starEach (e :: es) X.env = (false, eval e X.env) :: starEach es X.env := by rfl) (hpl : (backTo pos (starEach es X.env)).any (·.1) = false := by rfl)
    (ht : eval (.Call (.Attribute o (Str.ofString m) apos) (e :: es) [] pos) X.env = (do
      let ov ← eval o X.env
      standAt apos.atName
      let (f, first) ← holding [ov] (getMethod ov (Str.ofString m) pl)
      callWith pos f first (backTo pos (starEach (e :: es) X.env)) (backToKw pos (keywordEach [] X.env))) := by rfl) :
    PE X (.Call (.Attribute o (Str.ofString m) apos) (e :: es) [] pos) (tM X.K CA W (mcM C m g sp s)) := by
  obtain ⟨Ca, f, fd, ps, hC, c, mt, Fn, hb, hz⟩ := hm.is
  refine peI (pe_methSD ho c mt Fn hr hb (fun σ => passAt tk σ) ha hst hpl ht) fun σ H Q ⟨A, H0, F, G, ρ, sr, h⟩ => ?_
  refine ⟨A, H0, F, G, ρ, sr, (MOk.lift h sr).imp fun x _ q v H1 s1 at1 => ?_⟩
  obtain ⟨f0, r0, _, _, _⟩ := at1.openG sr s1
  obtain ⟨j, qq, d0⟩ := x
  cases d0 with
  | obj t C' fs =>
    simp only at q
    by_cases hh : C' = C ∧ noKey fs (Str.ofString m) = true
    · rw [if_pos hh] at q
      obtain ⟨rfl, hk⟩ := hh
      cases r0 with
      | @obj _ _ a Ca' dx fvs _ f1 hl hCa nk rs0 htg =>
        rw [hC] at hCa; cases hCa
        refine ⟨a, dx, fvs, rfl, .of hl, noKey_ok rs0 hk, A, H0, F, G, ρ, sr.same s1, (MOk.lift (q.later s1) (sr.same s1)).imp fun xs _ q3 vs H2 gx s2 rs os => ?_⟩
        by_cases hj : j ∈ (jn xs).is
        · rw [if_pos hj] at q3; exact q3.elim
        · rw [if_neg hj] at q3
          have hl : (xs.map (·.2)).length + 1 = ps.length := by
            cases hall : allG fun t => g t fs (xs.map (·.2)) with
            | st => rw [hall] at q3; exact q3.elim
            | ok fs' d => exact hz 0 fs _ (by rw [allG_at (f := fun t => g t fs (xs.map (·.2))) (by rw [hall]; simp) 0, hall]; simp)
            | ex c fs' => exact hz 0 fs _ (by rw [allG_at (f := fun t => g t fs (xs.map (·.2))) (by rw [hall]; simp) 0, hall]; simp)
          exact mc_core (x := (j, qq, .obj t C' fs)) (sr.same s1) s2 (at1.same s2) rfl rfl rs (os.bok (sr.same s1)) hj hl q3
    · rw [if_neg hh] at q; exact q.elim
  | _ => exact q.elim
end
end Cz
set_option maxHeartbeats 2000000
namespace Cz
open PySem PySem.Spec PyProof.Rows L2
def rmK (C m : String) (fn : Fn) (x : KD) (xs : List KD) : R KD := (fn (x.2 :: xs.map (·.2))).bind fun kd => .ok (retK kd.1 (jn (x :: xs)), kd.2)
def rmE (C m : String) (fn : Fn) (a : SE) (s : SA) : SE := fun ρ => (a ρ).bind fun x => match x.2 with
  | .obj _ C' fs => if C' = C ∧ noKey fs (Str.ofString m) = true then (s ρ).bind fun xs => rmK C m fn x xs else .st
  | .sob C' fs => if C' = C ∧ noKey fs (Str.ofString m) = true then (s ρ).bind fun xs => rmK C m fn x xs else .st
  | _ => .st
section
variable {X : Cx} {CA : String → Addr} {W : WX} {C m : String} {fn : Fn} {k : Nat} {p pos apos : Pos} {e o : Expr} {es : List Expr} {s : SA} {so : SE}
theorem rm_obj {K : PySem.W.Frag} {H : Hp} {x : KD} {v : V} {f : List Addr} {Ca : Addr} {ok : KD → Prop} {W : WX} {σ : L2.St} {Hs : Hp} {s : SA} {ρ : Env} (r0 : Rep K H x.2 v f) (hC : PySem.W.nsIn K mainGlobals (Str.ofString C) = some (some (.ref Ca)))
    (h : Post K CA W σ Hs (match x.2 with
      | .obj _ C' fs => if C' = C ∧ noKey fs (Str.ofString m) = true then (s ρ).bind fun xs => rmK C m fn x xs else .st
      | .sob C' fs => if C' = C ∧ noKey fs (Str.ofString m) = true then (s ρ).bind fun xs => rmK C m fn x xs else .st
      | _ => .st) ok) : (∃ a dx fvs, v = .ref a ∧ Rd H a (.ins Ca dx fvs) ∧ fvs.lookup (Str.ofString m) = none) ∧ Post K CA W σ Hs ((s ρ).bind fun xs => rmK C m fn x xs) ok := by
  obtain ⟨kx, d⟩ := x
  cases d with
  | obj t C' fs =>
    simp only at h
    by_cases hh : C' = C ∧ noKey fs (Str.ofString m) = true
    · rw [if_pos hh] at h
      obtain ⟨rfl, hk⟩ := hh
      cases r0 with
      | @obj _ _ a Ca' dx fvs _ f1 hl hCa nk rs0 htg =>
        rw [hC] at hCa; cases hCa
        exact ⟨⟨a, dx, fvs, rfl, .of hl, noKey_ok rs0 hk⟩, h⟩
    · rw [if_neg hh] at h; exact h.elim
  | sob C' fs =>
    simp only at h
    by_cases hh : C' = C ∧ noKey fs (Str.ofString m) = true
    · rw [if_pos hh] at h
      obtain ⟨rfl, hk⟩ := hh
      cases r0 with
      | @sob _ a Ca' dx ob fvs _ hl hCa nk rs0 =>
        rw [hC] at hCa; cases hCa
        exact ⟨⟨a, dx, fvs, rfl, .inr ⟨ob, hl⟩, noKey_ok rs0 hk⟩, h⟩
    · rw [if_neg hh] at h; exact h.elim
  | _ => exact h.elim
theorem e_rm (tk : Takes X W) (hr : Room k X.A) (hm : MtR X.prog X.w X.K X.mg X.base CA C m fn k) (ho : PE X o (tE X.K CA W so)) (ha : PA X (e :: es) (tA X.K CA W s)) {pl : Sem Bool}
    (hst : starEach (e :: es) X.env = (false, eval e X.env) :: starEach es X.env := by rfl) (hpl : (backTo pos (starEach es X.env)).any (·.1) = false := by rfl)
    (ht : eval (.Call (.Attribute o (Str.ofString m) apos) (e :: es) [] pos) X.env = (do
      let ov ← eval o X.env
      standAt apos.atName
      let (f, first) ← holding [ov] (getMethod ov (Str.ofString m) pl)
      callWith pos f first (backTo pos (starEach (e :: es) X.env)) (backToKw pos (keywordEach [] X.env))) := by rfl) :
    PE X (.Call (.Attribute o (Str.ofString m) apos) (e :: es) [] pos) (tE X.K CA W (rmE C m fn so s)) := by
  obtain ⟨Ca, f, fd, ps, hC, c, mt, Fn, hb, hz⟩ := hm.is
  refine peI (pe_methSD ho c mt Fn hr hb (fun σ => passAt tk σ) ha hst hpl ht) fun σ H Q ⟨A, H0, F, G, ρ, sr, h⟩ => ?_
  refine ⟨A, H0, F, G, ρ, sr, Post.bind h fun x h1 => ?_⟩
  intro v H1 f1 s1 r1 o1
  obtain ⟨⟨a, dx, fvs, ev, hR, hL⟩, h2⟩ := rm_obj (x := x) r1 hC h1
  refine ⟨a, dx, fvs, ev, hR, hL, A, H0, F, G, ρ, sr.same s1, Post.bind (h2.later s1) fun xs h3 => ?_⟩
  intro vs H2 f2 s2 rs os
  have rr : Reps X.K H2 ((x :: xs).map (·.2)) (v :: vs) (f1 ++ f2) := .cons (r1.same s2) rs
  have oo : KOk A H0 F H H2 (jn (x :: xs)) (f1 ++ f2) := KOk.join sr s1 s2 r1.trk (KOk.nk r1 o1) os
  have hl : ((x :: xs).map (·.2)).length = ps.length := hz _ fun z => by
    have h3 : Post X.K CA W σ H1 (rmK C m fn x xs) _ := h3
    unfold rmK at h3
    rw [List.map_cons] at z
    rw [z] at h3; exact h3
  have := call_ok (CA := CA) (W := W) (fn := fn) (dvs := []) (dd := []) sr (s1.trans s2) rr oo .nil (n := ps.length) (by rw [List.append_nil, ← rr.length]; exact hl) (Q := Q) (by
    rw [List.append_nil]; exact h3.later s2)
  rw [List.append_nil] at this
  exact this
theorem e_rm0 (tk : Takes X W) (hr : Room k X.A) (hm : MtR X.prog X.w X.K X.mg X.base CA C m fn k) (ho : PE X o (tE X.K CA W so)) {pl : Sem Bool}
    (ht : eval (.Call (.Attribute o (Str.ofString m) apos) [] [] pos) X.env = (do
      let ov ← eval o X.env
      standAt apos.atName
      let (f, first) ← holding [ov] (getMethod ov (Str.ofString m) pl)
      callWith pos f first (backTo pos (starEach [] X.env)) (backToKw pos (keywordEach [] X.env))) := by rfl) :
    PE X (.Call (.Attribute o (Str.ofString m) apos) [] [] pos) (tE X.K CA W (rmE C m fn so nilA)) := by
  obtain ⟨Ca, f, fd, ps, hC, c, mt, Fn, hb, hz⟩ := hm.is
  refine peI (pe_methSD0 ho c mt Fn hr hb (fun σ => passAt tk σ) ht) fun σ H Q ⟨A, H0, F, G, ρ, sr, h⟩ => ?_
  refine ⟨A, H0, F, G, ρ, sr, Post.bind h fun x h1 => ?_⟩
  intro v H1 f1 s1 r1 o1
  obtain ⟨⟨a, dx, fvs, ev, hR, hL⟩, h2⟩ := rm_obj (x := x) r1 hC h1
  have h3 : Post X.K CA W σ H (rmK C m fn x []) fun kd => Cont X.K A H0 F H kd Q := h2
  refine ⟨a, dx, fvs, ev, hR, hL, ?_⟩
  have rr : Reps X.K H1 (([x] : List KD).map (·.2)) [v] (f1 ++ []) := .cons r1 .nil
  have oo : KOk A H0 F H H1 (jn [x]) (f1 ++ []) := KOk.join (k' := .own) sr s1 (Same.refl _) r1.trk (KOk.nk r1 o1) (KOk.nil _)
  have hl : (([x] : List KD).map (·.2)).length = ps.length := hz _ fun z => by
    unfold rmK at h3
    have z' : fn (x.2 :: ([] : List KD).map (·.2)) = .st := z
    rw [z'] at h3; exact h3
  have := call_ok (CA := CA) (W := W) (fn := fn) (dvs := []) (dd := []) sr s1 rr oo .nil (n := ps.length) (by rw [List.append_nil, ← rr.length]; exact hl) (Q := Q) (by
    rw [List.append_nil]; exact h3.later s1)
  rw [List.append_nil] at this
  exact this
noncomputable def mkE (C : String) (g : GFn) (s : SA) : SE := fun ρ => (s ρ).bind fun xs => match allG fun t => g t [] (xs.map (·.2)) with
  | .ok fs' .non => .ok (.own, .obj 0 C fs')
  | .ex c _ => .ex c
  | _ => .st
theorem mk_core {A : Addr → Prop} {H0 H H1 : Hp} {F : Nat → List Addr} {G : List (D × V)} {ρ : Env} {σ : L2.St} {Q : VK} {xs : List KD} {vs : List V} {gx : List Addr} {n : Nat} {Ca x dx : Addr} {ok : List (Str × D) → Prop}
    (sr : SR X.K A H0 F G ρ σ H) (s1 : Same H H1) (hC : PySem.W.nsIn X.K mainGlobals (Str.ofString C) = some (some (.ref Ca))) (rs : Reps X.K H1 (xs.map (·.2)) vs gx) (hn : (xs.map (·.2)).length + 1 = n) (nx : H1 x = none) (nd : H1 dx = none) (ne : dx ≠ x) {g : GFn}
    (h : Post X.K CA W σ H (match allG fun t => g t [] (xs.map (·.2)) with
      | .ok fs' .non => (.ok fs' : R (List (Str × D)))
      | .ex c _ => .ex c
      | _ => .st) ok)
    (hq : ∀ fs', ok fs' → ∀ H' f', Same H H' → Rep X.K H' (.obj 0 C fs') (.ref x) f' → f'.Nodup → (∀ a ∈ f', H a = none ∧ Mu (H' a)) → Q (.ref x) H') :
    spG X.K CA C g n (.ref x :: vs) (upd (upd H1 dx (.own x)) x (.ins Ca dx [])) (fun v H2 => v = .non ∧ Q (.ref x) H2) (WE W σ) := by
  have sH : Same H1 (upd (upd H1 dx (.own x)) x (.ins Ca dx [])) := fun b o e => by
    rw [upd_ne (ne_of_none e nx), upd_ne (ne_of_none e nd)]; exact e
  have sH2 : ∀ {H' : Hp}, Same (hidH (upd (upd H1 dx (.own x)) x (.ins Ca dx [])) [x]) H' → Same H H' := fun {H'} s b o e => by
    have e1 := s1 b o e
    have hb : b ∉ [x] := fun z => by rw [List.mem_singleton.mp z] at e1; rw [nx] at e1; cases e1
    exact s b o (by rw [hidH_out hb]; exact sH b o e1)
  have mu : Mu ((upd (upd H1 dx (.own x)) x (.ins Ca dx [])) x) := ⟨by rw [upd_same]; trivial⟩
  refine ⟨x, [], xs.map (·.2), gx, [x], hn, ⟨.obj upd_same hC List.nodup_nil .nil (.inr rfl), rs.same sH⟩, rfl, by simp, fun b hb => ?_, ?_⟩
  · rw [List.mem_singleton.mp hb]
    exact ⟨mu, fun z => rs.trk x z nx⟩
  · have fr : ∀ {a : Addr} {H' : Hp}, (a ∈ [x] ∨ (upd (upd H1 dx (.own x)) x (.ins Ca dx [])) a = none) → H a = none := fun {a H'} z => by
      rcases z with z | z
      · rw [List.mem_singleton.mp z]; exact s1.free nx
      · exact s1.free (sH.free z)
    cases hall : allG fun t => g t [] (xs.map (·.2)) with
    | st => rw [hall] at h; exact h.elim
    | ok fs' d =>
      have hg := allG_at (f := fun t => g t [] (xs.map (·.2))) (by rw [hall]; simp) (x + 1)
      simp only [hall] at hg h
      rw [hg]
      intro v H' f0' g' s' r' rv nd' cond
      cases d with
      | non =>
        cases rv
        refine ⟨rfl, hq fs' h H' f0' (sH2 s') (by cases r' with | obj q c n r z => exact .obj q c n r (.inl rfl)) (by simpa using nd') fun a ha => ?_⟩
        have := cond a (List.mem_append_left _ ha)
        exact ⟨fr (H' := H') this.1, this.2⟩
      | _ => exact h.elim
    | ex c fs' =>
      have hg := allG_at (f := fun t => g t [] (xs.map (·.2))) (by rw [hall]; simp) (x + 1)
      simp only [hall] at hg h
      rw [hg]
      intro H' f0' s' r' nd' cond
      exact h H' (sH2 s')
theorem mk_len {g : GFn} {n : Nat} {ds : List D} {ok : List (Str × D) → Prop} {K : PySem.W.Frag} {σ : L2.St} {H : Hp} (hz : ∀ t fs ds, g t fs ds ≠ .st → ds.length + 1 = n)
    (h : Post K CA W σ H (match allG fun t => g t [] ds with
      | .ok fs' .non => (.ok fs' : R (List (Str × D)))
      | .ex c _ => .ex c
      | _ => .st) ok) : ds.length + 1 = n := by
  cases hall : allG fun t => g t [] ds with
  | st => rw [hall] at h; exact h.elim
  | ok fs' d => exact hz 0 [] _ (by rw [allG_at (f := fun t => g t [] ds) (by rw [hall]; simp) 0, hall]; simp)
  | ex c fs' => exact hz 0 [] _ (by rw [allG_at (f := fun t => g t [] ds) (by rw [hall]; simp) 0, hall]; simp)
theorem mk_split {g : GFn} {ds : List D} {K : PySem.W.Frag} {σ : L2.St} {H : Hp} {ok : KD → Prop} {f : List (Str × D) → R KD} (h : Post K CA W σ H (match allG fun t => g t [] ds with
      | .ok fs' .non => f fs'
      | .ex c _ => .ex c
      | _ => .st) ok) : Post K CA W σ H (match allG fun t => g t [] ds with
      | .ok fs' .non => (.ok fs' : R (List (Str × D)))
      | .ex c _ => .ex c
      | _ => .st) fun fs' => Post K CA W σ H (f fs') ok := by
  cases hall : allG fun t => g t [] ds with
  | st => rw [hall] at h; exact h.elim
  | ok fs' d => rw [hall] at h; cases d <;> first | exact h | exact h.elim
  | ex c fs' => rw [hall] at h; exact h
theorem e_mk {g : GFn} (tk : Takes X W) (hr : Room (k + 1) X.A) (hm : MtI X.prog X.w X.K X.mg X.base CA C g k) (ha : PA X (e :: es) (tA X.K CA W s)) (hg : Gl X (Str.ofString C) := by rfl) (hdb : (Str.ofString C == ("__debug__" : Str)) = false := by decide)
    (he : starEach (e :: es) X.env = (false, eval e X.env) :: starEach es X.env := by rfl) (hpl : (backTo pos (starEach es X.env)).any (·.1) = false := by rfl) : PE X (.Call (.Name (Str.ofString C) p) (e :: es) [] pos) (tE X.K CA W (mkE C g s)) := by
  obtain ⟨Ca, f, fd, ps, hC, hmg, M, Fn, hb, hz⟩ := hm.is
  refine peI (pe_makeSD M Fn hr hg hmg hb (fun σ => passAt tk σ) ha hdb he hpl) fun σ H Q ⟨A, H0, F, G, ρ, sr, h⟩ => ?_
  refine ⟨A, H0, F, G, ρ, sr, Post.bind h fun xs h1 => ?_⟩
  intro vs H1 gx s1 rs os x dx nx nd ne
  have h2 := mk_split h1
  exact mk_core sr s1 hC rs (mk_len hz h2) nx nd ne h2 fun fs' hk H' f' s' r n m => hk (.ref x) H' f' s' r ⟨n, m⟩
end
open Classical in
noncomputable def frzH (H : Hp) (L : List Addr) (os : Addr → Obj) : Hp := fun a => if a ∈ L then (H a).map fun u => .frz (os a) u else H a
theorem frzH_in {H : Hp} {L : List Addr} {os : Addr → Obj} {a : Addr} {u : HO} (h : a ∈ L) (e : H a = some u) : frzH H L os a = some (.frz (os a) u) := by unfold frzH; rw [if_pos h, e]; rfl
theorem frzH_out {H : Hp} {L : List Addr} {os : Addr → Obj} {a : Addr} (h : a ∉ L) : frzH H L os a = H a := if_neg h
section
variable {X : Cx} {pins : List (Addr × Obj)} {σ : L2.St} {H : Hp} {s : Shared}
theorem Inv.frzL (I : Inv X pins σ H s) (L : List Addr) (hL : ∀ a ∈ L, L2.Mut (H a)) : ∃ os, Inv X pins σ (frzH H L os) s := by
  have hex : ∀ a, a ∈ L → ∃ o, s.heap.get? a = some o := fun a ha => by
    have m := hL a ha
    cases e : H a with
    | none => rw [e] at m; exact m.elim
    | some u =>
      have := I.hok a u e
      cases u with
      | lst xs => obtain ⟨_, _, _, _, q⟩ := this; exact ⟨_, q⟩
      | dK kvs => obtain ⟨_, _, _, _, o, _, _, q, _⟩ := this; exact ⟨o, q⟩
      | dT kvs => obtain ⟨_, _, _, _, o, _, _, q, _⟩ := this; exact ⟨o, q⟩
      | set S n => obtain ⟨o, _, _, _, q, _⟩ := this; exact ⟨o, q⟩
      | ins C dx fs => obtain ⟨_, _, _, q, _⟩ := this; exact ⟨_, q⟩
      | ext φ => obtain ⟨_, ⟨o, q⟩, _⟩ := this; exact ⟨o, q⟩
      | _ => rw [e] at m; exact m.elim
  refine ⟨fun a => ((s.heap.get? a).getD default), ?_⟩
  have nL : ∀ {a : Addr} {u : HO}, H a = some u → ¬ L2.Mut (some u) → a ∉ L := fun {a u} e n z => by
    have := hL a z
    rw [e] at this; exact n this
  have stay : ∀ {a : Addr} {u : HO}, ObjOk X.prog X.w H s.heap a u → ObjOk X.prog X.w (frzH H L fun a => ((s.heap.get? a).getD default)) s.heap a u := fun {a u} x =>
    x.stay (fun _ _ _ q => q) (fun b e => by rw [frzH_out (nL e fun z => z)]; exact e) fun b xs e => by rw [frzH_out (nL e fun z => z)]; exact e
  refine I.un (t' := s.toks) ⟨fun b o q _ _ _ => q, fun b o q _ _ _ => ⟨o.slots, q⟩, fun b o q n _ => ?_, fun b o q _ => ⟨o, q⟩, fun b xs e => ?_, fun b o u e => ?_, fun b ps e => ⟨#[], ?_⟩⟩ fun a u e => ?_
  · by_cases h : b ∈ L
    · have := hL b h
      rw [n] at this; exact this.elim
    · rw [frzH_out h]; exact n
  · rw [frzH_out (nL e fun z => z)]; exact e
  · rw [frzH_out (nL e fun z => z)]; exact e
  · rw [frzH_out (nL e fun z => z), e]; simp
  · by_cases h : a ∈ L
    · obtain ⟨o, ho⟩ := hex a h
      cases eu : H a with
      | none => unfold frzH at e; rw [if_pos h, eu] at e; cases e
      | some u0 =>
        rw [frzH_in h eu] at e
        cases e
        refine ⟨?_, stay (I.hok a u0 eu)⟩
        show s.heap.get? a = some ((s.heap.get? a).getD default)
        rw [ho]; rfl
    · rw [frzH_out h] at e
      exact stay (I.hok a u e)
end
theorem pe_frz {X : Cx} {e : Expr} {t : TE} (h : PE X e t) : PE X e (fun σ H Q => t σ H fun v H1 => ∃ L : List Addr, (∀ a ∈ L, L2.Mut (H1 a)) ∧ ∀ os, Q v (frzH H1 L os)) := by
  refine ⟨fun pins s σ H Q I q => ?_⟩
  refine thn (h.run pins s σ H _ I q) fun u s1 ⟨v, H1, I1, r1, L, hL, k⟩ => ?_
  obtain ⟨os, I2⟩ := Inv.frzL I1 L hL
  exact ⟨v, _, I2, r1, k os⟩
def sealV : D → Option D
  | .dic kvs => if noLs (kvs.map (·.2)) = true then some (.fdc kvs) else none
  | d => if noL d = true then some d else none
def sealF : List (Str × D) → Option (List (Str × D))
  | [] => some []
  | (f, d) :: r => match sealV d, sealF r with
    | some d', some r' => some ((f, d') :: r')
    | _, _ => none
section
variable {K : PySem.W.Frag} {H : Hp}
theorem RepK.noLs' {κ : Type} : ∀ {kds : List (κ × D)} {kvs : List (κ × V)} {f : List Addr}, RepK K H kds kvs f → noLs (kds.map (·.2)) = true → f = []
  | _, _, _, .nil, _ => rfl
  | _, _, _, .cons (f := f1) (g := g1) r t, h => by
    simp only [List.map_cons, noLs, Bool.and_eq_true] at h
    rw [r.noL h.1, RepK.noLs' t h.2]; rfl
theorem sealV_rep {H' : Hp} {d d' : D} {v : V} {f : List Addr} (r : Rep K H d v f) (e : sealV d = some d') (ht : ∀ b o, H b = some o → IsT o → H' b = some o) (hz : ∀ a ∈ f, ∀ u, H a = some u → ∃ o, H' a = some (.frz o u)) : Rep K H' d' v [] := by
  have plain : noL d = true → d' = d → Rep K H' d' v [] := fun h1 h2 => by
    subst h2
    have := r.noL h1
    subst this
    exact r.frame ht fun a ha => nomatch ha
  cases d with
  | dic kvs =>
    simp only [sealV] at e
    split at e
    · rename_i hn
      cases e
      cases r with
      | @dic a kv _ f1 hl nk rs =>
        have := rs.noLs' hn
        subst this
        obtain ⟨o, ho⟩ := hz a (by simp) _ hl
        exact .fdc ho nk (rs.frame ht fun a ha => nomatch ha)
    · cases e
  | _ =>
    simp only [sealV] at e
    split at e
    · rename_i hn; exact plain hn (Option.some.inj e).symm
    · cases e
theorem sealF_rep {H' : Hp} : ∀ {fs fs' : List (Str × D)} {fvs : List (Str × V)} {f : List Addr}, RepK K H fs fvs f → sealF fs = some fs' → (∀ b o, H b = some o → IsT o → H' b = some o) → (∀ a ∈ f, ∀ u, H a = some u → ∃ o, H' a = some (.frz o u)) → RepK K H' fs' fvs [] ∧ fs'.map (·.1) = fs.map (·.1)
  | _, _, _, _, .nil, e, _, _ => by cases e; exact ⟨.nil, rfl⟩
  | _, fs', _, _, .cons (k := k) (d := d) (ds := ds) (f := f1) (g := g1) r t, e, ht, hz => by
    unfold sealF at e
    cases h1 : sealV d with
    | none => rw [h1] at e; cases e
    | some d' =>
      cases h2 : sealF ds with
      | none => rw [h1, h2] at e; cases e
      | some r' =>
        rw [h1, h2] at e
        cases e
        obtain ⟨q1, q2⟩ := sealF_rep t h2 ht fun a ha => hz a (List.mem_append_right _ ha)
        exact ⟨.cons (f := []) (g := []) (sealV_rep r h1 ht fun a ha => hz a (List.mem_append_left _ ha)) q1, by simp [q2]⟩
end
noncomputable def mkzE (C : String) (g : GFn) (s : SA) : SE := fun ρ => (s ρ).bind fun xs => match allG fun t => g t [] (xs.map (·.2)) with
  | .ok fs' .non => R.of ((sealF fs').map fun fs2 => (Kd.own, D.sob C fs2))
  | .ex c _ => .ex c
  | _ => .st
section
variable {X : Cx} {CA : String → Addr} {W : WX} {C m : String} {fn : Fn} {k : Nat} {p pos apos : Pos} {e o : Expr} {es : List Expr} {s : SA} {so : SE}
theorem e_mkz {g : GFn} (tk : Takes X W) (hr : Room (k + 1) X.A) (hm : MtI X.prog X.w X.K X.mg X.base CA C g k) (ha : PA X (e :: es) (tA X.K CA W s)) (hg : Gl X (Str.ofString C) := by rfl) (hdb : (Str.ofString C == ("__debug__" : Str)) = false := by decide)
    (he : starEach (e :: es) X.env = (false, eval e X.env) :: starEach es X.env := by rfl) (hpl : (backTo pos (starEach es X.env)).any (·.1) = false := by rfl) : PE X (.Call (.Name (Str.ofString C) p) (e :: es) [] pos) (tE X.K CA W (mkzE C g s)) := by
  obtain ⟨Ca, f, fd, ps, hC, hmg, M, Fn, hb, hz⟩ := hm.is
  refine peI (pe_frz (pe_makeSD M Fn hr hg hmg hb (fun σ => passAt tk σ) ha hdb he hpl)) fun σ H Q ⟨A, H0, F, G, ρ, sr, h⟩ => ?_
  refine ⟨A, H0, F, G, ρ, sr, Post.bind h fun xs h1 => ?_⟩
  intro vs H1 gx s1 rs os x dx nx nd ne
  have h2 := mk_split h1
  refine mk_core (Q := fun v H1 => ∃ L : List Addr, (∀ a ∈ L, L2.Mut (H1 a)) ∧ ∀ os, Q v (frzH H1 L os)) sr s1 hC rs (mk_len hz h2) nx nd ne h2 fun fs' hk H' f' s' r n m => ?_
  obtain ⟨fs2, e1, hk⟩ := hk.of
  cases e2 : sealF fs' with
  | none => rw [e2] at e1; cases e1
  | some fs3 =>
    rw [e2] at e1
    cases e1
    refine ⟨f', fun a ha => (m a ha).2.m, fun os => ?_⟩
    have ht : ∀ b o, H' b = some o → IsT o → frzH H' f' os b = some o := fun b ob e t => by
      have : b ∉ f' := fun z => by
        have := (m b z).2.m
        rw [e] at this
        cases ob <;> first | exact t.elim | exact this.elim
      rw [frzH_out this]; exact e
    have sF : Same H (frzH H' f' os) := fun b ob e => by
      have : b ∉ f' := fun z => by rw [(m b z).1] at e; cases e
      rw [frzH_out this]; exact s' b ob e
    cases r with
    | @obj _ _ a Ca' dx' fvs _ f1 hl hCa nk rs0 htg =>
      obtain ⟨q1, q2⟩ := sealF_rep rs0 e2 ht fun b hb u eu => ⟨_, frzH_in (List.mem_cons_of_mem _ hb) eu⟩
      exact hk (.ref x) _ [] sF (.sob (frzH_in (by simp) hl) hCa (by rw [q2]; exact nk) q1) (KOk.nil _)
end
end Cz
set_option maxHeartbeats 2000000
namespace Cz
open PySem PySem.Spec PyProof.Rows L2
section
variable {K : PySem.W.Frag}
end
section
variable {X : Cx} {CA : String → Addr} {W : WX} {pos p tpos apos cpos : Pos} {tg e : Expr} {sa : SE} {elts : List Expr} {kk : Nat}
end
section
variable {X : Cx} {e : Expr} {te : TE} {p apos cpos pos : Pos}
end
section
variable {X : Cx} {CA : String → Addr} {W : WX} {pos p apos cpos : Pos} {e : Expr} {sa : SE}
theorem RepK.ints {K : PySem.W.Frag} {H : Hp} {κ : Type} : ∀ {kds : List (κ × D)} {kvs : List (κ × V)} {f : List Addr} {is : List Int}, RepK K H kds kvs f → kds.map (·.2) = is.map D.int → kvs.map (·.2) = is.map V.int := by
  intro kds
  induction kds with
  | nil =>
    intro kvs f is r e
    cases r
    cases is with | nil => rfl | cons a b => cases e
  | cons p kds ih =>
    intro kvs f is r e
    cases r with
    | cons r t =>
      cases is with
      | nil => cases e
      | cons a b =>
        rw [List.map_cons, List.map_cons] at e
        injection e with h1 h2
        simp only at h1
        subst h1
        cases r
        rw [List.map_cons, List.map_cons, ih t h2]
end
def retP (a : SE) : SS := fun ρ => (a ρ).out ρ fun x => .ri ρ (nk x.1 x.2) x.2
section
variable {X : Cx} {CA : String → Addr} {W : WX} {pos pos' p1 p2 p3 : Pos} {e o : Expr} {se so : SE}
theorem s_retP (he : PE X e (tE X.K CA W se)) : PS X (.Return (some e) pos) (tS X.K CA W (retP se)) := by
  refine psI (ps_ret he) fun D σ H ⟨A, H0, F, G, ρ, sr, h⟩ => ?_
  refine ⟨A, H0, F, G, ρ, sr, (lift h sr).imp fun ⟨k, d⟩ _ q v H' f s r o => ?_⟩
  exact q v σ H H' F f sr s r (KOk.nk r o)
end
section
variable {K : PySem.W.Frag} {A : Addr → Prop} {H0 H : Hp} {F : Nat → List Addr} {G : List (D × V)} {ρ : Env} {σ : L2.St}
end
section
variable {X : Cx} {CA : String → Addr} {W : WX} {pos pos' p1 p2 p3 : Pos} {e o : Expr} {se so : SE}
def tapS (a b : SE) : SS := fun ρ => (a ρ).out ρ fun x => match x with
  | (.own, .lst ds) => (b ρ).out ρ fun y => if okIn y.1 [y.2] = true ∧ ds.length < LIM then .nx ρ else .st
  | _ => .st
theorem s_tap (ho : PE X o (tE X.K CA W so)) (he : PE X e (tE X.K CA W se)) (hst : starEach [e] X.env = [(false, eval e X.env)] := by rfl) (hs : swapsWith (.Call (.Attribute o "append" p2) [e] [] p3) none pos.line X.env = pure false := by rfl)
    (hline : (p2.endLine == p3.line) = true := by rfl) (hbase : attributeBase o "append" X.env (eval o X.env) = eval o X.env := by rfl) (hfew : ((backTo p3 (starEach [e] X.env)).all (fun x => !x.1) && (backToKw p3 (keywordEach [] X.env)).all (fun x => x.1.isSome) && decide (([e] : List Expr).length + ([] : List Keyword).length + (if ([] : List Keyword).isEmpty then 0 else 1) < 30)) = true := by rfl) :
    PS X (.Expr (.Call (.Attribute o "append" p2) [e] [] p3) pos) (tS X.K CA W (tapS so se)) := by
  refine psI (ps_expr (pe_bm PySem.F.plainAttrs_list PySem.F.slot_list_append PySem.F.type_list_append mt_append ho (pa_cons he pa_nil hst) hbase hfew hline hst rfl) hs) fun D σ H ⟨A, H0, F, G, ρ, sr, h⟩ => ?_
  refine ⟨A, H0, F, G, ρ, sr, (lift h sr).imp fun ⟨k, d⟩ _ q v H1 f s1 r1 o1 => ?_⟩
  cases k with
  | bor is => exact q.elim
  | own =>
    cases d with
    | lst ds =>
      cases r1 with
      | @lst a vs _ f0 hl q0 =>
        refine ⟨.inl ⟨rfl, _, .of hl⟩, A, H0, F, G, ρ, sr.same s1, (lift q (sr.same s1)).imp fun ⟨k2, d2⟩ _ q2 y H2 f2 s2 r2 o2 => ?_⟩
        have q2 : OutOk X.K CA W A H0 G D (if okIn k2 [d2] = true ∧ ds.length < LIM then .nx ρ else .st) := q2
        by_cases hc : okIn k2 [d2] = true ∧ ds.length < LIM
        · rw [if_pos hc] at q2
          have hl2 := s2 _ _ hl
          have aF := (o1.2 a (by simp)).1
          refine ⟨a, vs, y, rfl, rfl, hl2, by rw [← lim_eq, ← q0.length]; exact hc.2, ?_⟩
          refine q2 σ _ F (sr.same fun b ob e => ?_)
          have : b ≠ a := fun z => by subst z; rw [aF] at e; cases e
          rw [upd_ne this]; exact s2 _ _ (s1 _ _ e)
        · rw [if_neg hc] at q2; exact q2.elim
    | _ => exact q.elim
end
end Cz
set_option maxHeartbeats 3200000
namespace Cz
open PySem PySem.Spec PyProof.Rows L2
section
variable {κ : Type} [DecidableEq κ]
end
section
variable {prog : Program} {w : World} {κ : Type} [DecidableEq κ] (knd : KeyKind prog w κ) (val : Nat → κ) {A : Around} {R : Result → Shared → Prop} {I : Addr} {fp wr : List Addr} {G : Array GenState → Array GenState → Prop} {n : Nat} {P : Nat → Value → Prop} {St : Nat → Shared → Prop}
end
end Cz
namespace PySem
open PySem.Spec PyProof.Rows Cz
section
variable {prog : Program} {w : World} {A : Around} {E : Value → Shared → Prop} {s : Shared}
end
end PySem
namespace Cz
open PySem PySem.Spec PyProof.Rows L2
section
variable {X : Cx} {CA : String → Addr} {W : WX} {pos p p2 q : Pos} {a : Expr} {sa : SE}
end
end Cz
set_option maxHeartbeats 2000000
namespace Cz
open PySem PySem.Spec PyProof.Rows L2
section
variable {X : Cx} {CA : String → Addr} {W : WX} {pos p : Pos} {g e : Expr} {es : List Expr} {b : SE} {s : SA} {cs : List (String × Fn)} {k : Nat}
end
end Cz
set_option maxHeartbeats 2000000
namespace Cz
open PySem PySem.Spec PyProof.Rows L2
section
variable {X : Cx} {pos : Pos}
end
end Cz
set_option maxHeartbeats 2000000
namespace Cz
open PySem PySem.Spec PyProof.Rows L2
def eqkS (k : Str) (v : Value) : Bool := match v with
  | .str y _ => y.cps.toList == k.cps.toList
  | _ => false
theorem eqkS_gives {k : Str} {t : Tok} : ∀ {us : List Value} {ys : List Str}, Vals (ys.map V.str) us → ∀ y ∈ us, MeetsSeq.EqGives y (.str k t) (eqkS k y)
  | _, [], .nil => fun y hy => by cases hy
  | _, z :: ys, .cons r h => fun y hy => by
    obtain ⟨t', rfl⟩ := r
    rcases List.mem_cons.mp hy with e | e
    · rw [e]; exact SeqRoads2.EqGives.str z k t' t
    · exact eqkS_gives h y e
theorem str_bq (a b : Str) : (a.cps.toList == b.cps.toList) = (a == b) := by
  have h : a.cps.toList = b.cps.toList ↔ a = b := ⟨fun h => by cases a; cases b; simpa using h, fun h => by rw [h]⟩
  by_cases q : a = b
  · rw [beq_iff_eq.mpr q, beq_iff_eq.mpr (h.mpr q)]
  · rw [beq_eq_false_iff_ne.mpr q, beq_eq_false_iff_ne.mpr fun z => q (h.mp z)]
end Cz
set_option maxHeartbeats 2000000
namespace Cz
open PySem PySem.Spec PyProof.Rows L2
section
variable {X : Cx} {CA : String → Addr} {W : WX} {pos : Pos} {s : SA}
end
end Cz
set_option maxHeartbeats 2000000
namespace Cz
open PySem PySem.Spec PyProof.Rows L2
section
variable {X : Cx} {CA : String → Addr} {W : WX} {pos p : Pos} {x : String} {kvs : List (String × Int)} {a : Expr} {sa : SE}
end
end Cz
set_option maxHeartbeats 2000000
namespace Cz
open PySem PySem.Spec PyProof.Rows L2
section
variable {X : Cx} {CA : String → Addr} {W : WX} {e : Expr} {a : SE}
end
end Cz
set_option maxHeartbeats 2000000
namespace Cz
open PySem PySem.Spec PyProof.Rows L2
end Cz
set_option maxHeartbeats 2000000
namespace Cz
open PySem PySem.Spec PyProof.Rows L2
section
variable {X : Cx} {e : Expr} {es : List Expr} {ta : TA} {p1 p2 pos : Pos} {B : Str} {CB : Addr}
end
section
variable {P : Program} {w : World} {K : PySem.W.Frag} {mg : Str → Option Value} {base : Heap} {CA : String → Addr}
end
section
variable {X : Cx} {CA : String → Addr} {W : WX} {e : Expr} {a : SE} {C fld : String} {k : Nat} {p pos pos' : Pos}
end
end Cz
set_option maxHeartbeats 4000000
namespace Cz
open PySem PySem.Spec PyProof.Rows L2
abbrev NmL := List (Value × Nat × (Addr → Value → Option Addr → TS))
def wNm (K : PySem.W.Frag) (Wout : WX) (D : Ends) : NmL → WX
  | [] => Wout
  | (c, i, ts) :: r => fun cls d σ H => ∃ b, PySem.W.exmOne K cls c = some b ∧
      (b = true → ∀ a, H a = none → ts a cls d { nx := fun σ' H' => D.nx (σ'.set i none) H', rt := D.rt, bk := fun σ' H' => D.bk (σ'.set i none) H', ct := fun σ' H' => D.ct (σ'.set i none) H' } (σ.set i (some (.ref a))) H) ∧
      (b = false → wNm K Wout D r cls d σ H)
inductive NmOk (X : Cx) : List ExceptHandler → NmL → Prop
  | nil : NmOk X [] []
  | cons {x n : Str} {c : Value} {i : Nat} {ts : Addr → Value → Option Addr → TS} {b₀ : Stmt} {suite : List Stmt} {np pos' : Pos} {hds : List ExceptHandler} {l : NmL} (hc : Names X x c) (hi : X.N[i]? = some n) (hln : X.env.kindOf n = some .local)
      (hsu : ∀ (a : Addr) (oe : Obj) (cls : Value) (d : Option Addr) (pn : List (Addr × Obj)), Zc cls d oe → (∃ vs, oe.data = .fields vs) → PSs (X.suite a ((a, oe) :: pn)) (b₀ :: suite) (ts a cls d)) (r : NmOk X hds l) :
      NmOk X (.ExceptHandler (some (.Name x np)) (some n) (b₀ :: suite) pos' :: hds) ((c, i, ts) :: l)
section
variable {X : Cx} {body : List Stmt} {h₀ : ExceptHandler} {hds : List ExceptHandler} {l : NmL} {pos : Pos} {tb : WX → TS} {Wout : WX}
end
open Classical in
noncomputable def allA (f : Addr → Addr → Out) : Out := if h : ∃ o, ∀ a dx, f a dx = o then h.choose else .st
theorem allA_at {f : Addr → Addr → Out} (h : allA f ≠ .st) (a dx : Addr) : f a dx = allA f := by
  unfold allA at h ⊢
  split
  · rename_i hz; exact hz.choose_spec a dx
  · rename_i hz; rw [dif_neg hz] at h; exact absurd rfl h
def Out.rtO (i : Nat) : Out → Out
  | .rt k d => .rt k d
  | .ri ρ k d => if notOw ρ i = true then .ri (ρ.set i .no) k d else .st
  | _ => .st
abbrev NmS := List (String × Nat × (Addr → Addr → SS))
noncomputable def hanC (i : Nat) (s : Addr → Addr → SS) (ρ : Env) : Ec → Out
  | .p _ fld d => allA fun a dx => (s a dx (ρ.set i (.bo [] (.exv a dx fld d)))).rtO i
  | .n _ => .st
noncomputable def hanN (c : Ec) : NmS → SS
  | [] => fun ρ => .ex c ρ
  | (D, i, s) :: r => fun ρ => if c.nm = D then hanC i s ρ c else if subX c.nm D = true then .st else hanN c r ρ
inductive HdN (X : Cx) (CA : String → Addr) (xs : List String) : List ExceptHandler → NmS → Prop
  | nil : HdN X CA xs [] []
  | cons {D : String} {i : Nat} {n : Str} {s : Addr → Addr → SS} {b₀ : Stmt} {suite : List Stmt} {np pos' : Pos} {hds : List ExceptHandler} {l : NmS} (hc : Names X (Str.ofString D) (.ref (CA D))) (hi : X.N[i]? = some n) (hln : X.env.kindOf n = some .local)
      (hx : ∀ c ∈ xs, PySem.W.exmOne X.K (.ref (CA c)) (.ref (CA D)) = some (subX c D))
      (hsu : ∀ (a dx : Addr) (oe : Obj) (pn : List (Addr × Obj)), Zc (.ref (CA D)) (some dx) oe → (∃ vs, oe.data = .fields vs) → PSs (X.suite a ((a, oe) :: pn)) (b₀ :: suite) (tS X.K CA W0 (s a dx))) (r : HdN X CA xs hds l) :
      HdN X CA xs (.ExceptHandler (some (.Name (Str.ofString D) np)) (some n) (b₀ :: suite) pos' :: hds) ((D, i, s) :: l)
def nmOf (X : Cx) (CA : String → Addr) (l : NmS) : NmL := l.map fun p => (.ref (CA p.1), p.2.1, fun a cls od D σ H => ∃ dx, od = some dx ∧ cls = .ref (CA p.1) ∧ tS X.K CA W0 (p.2.2 a dx) D σ H)
theorem HdN.ok {X : Cx} {CA : String → Addr} {xs : List String} : ∀ {hds : List ExceptHandler} {l : NmS}, HdN X CA xs hds l → NmOk X hds (nmOf X CA l)
  | _, _, .nil => .nil
  | _, _, .cons hc hi hln hx hsu r => .cons hc hi hln (fun a oe cls d pn hz hd => ⟨fun pins s σ H D I ⟨dx, e1, e2, q⟩ => by subst e1; subst e2; exact (hsu a dx oe pn hz hd).run pins s σ H D I q⟩) r.ok
section
variable {X : Cx} {CA : String → Addr} {W : WX} {pos : Pos} {xs : List String} {body : List Stmt} {h₀ : ExceptHandler} {hds : List ExceptHandler} {l : NmS} {sb : SS}
theorem HdN.catch {A : Addr → Prop} {H0 H : Hp} {F : Nat → List Addr} {G : List (D × V)} {ρ : Env} {σ : L2.St} {D : Ends} {c : Ec} {od : Option Addr} (hcx : c.nm ∈ xs)
    (hod : ∀ nm fld d, c = .p nm fld d → ∃ dx v, od = some dx ∧ H dx = some (.xd [(Str.ofString fld, v)]) ∧ Rep X.K H d v []) : ∀ {hds : List ExceptHandler} {l : NmS}, HdN X CA xs hds l → SR X.K A H0 F G ρ σ H →
    (hanN c l ρ = .ex c ρ → OutOk X.K CA W A H0 G D (hanN c l ρ) → W (.ref (CA c.nm)) od σ H) → OutOk X.K CA W A H0 G D (hanN c l ρ) → wNm X.K W D (nmOf X CA l) (.ref (CA c.nm)) od σ H
  | _, _, .nil, sr, k, o => k rfl o
  | _, _, .cons (D := E) (i := i) (s := s) (l := l) hc hi hln hx hsu r, sr, k, o => by
    have o : OutOk X.K CA W A H0 G D (if c.nm = E then hanC i s ρ c else if subX c.nm E = true then .st else hanN c l ρ) := o
    have k : ((if c.nm = E then hanC i s ρ c else if subX c.nm E = true then .st else hanN c l ρ) = .ex c ρ → OutOk X.K CA W A H0 G D (if c.nm = E then hanC i s ρ c else if subX c.nm E = true then .st else hanN c l ρ) → W (.ref (CA c.nm)) od σ H) := k
    refine ⟨subX c.nm E, hx _ hcx, fun hy a ha => ?_, fun hn => ?_⟩
    · by_cases hE : c.nm = E
      · rw [if_pos hE] at o
        cases c with
        | n nm => exact o.elim
        | p nm fld d =>
          obtain ⟨dx, v, e1, e2, rv⟩ := hod nm fld d rfl
          subst e1
          have o : OutOk X.K CA W A H0 G D (allA fun a dx => (s a dx (ρ.set i (.bo [] (.exv a dx fld d)))).rtO i) := o
          have hne : (allA fun a dx => (s a dx (ρ.set i (.bo [] (.exv a dx fld d)))).rtO i) ≠ .st := fun z => by rw [z] at o; exact o.elim
          have hat := allA_at hne a dx
          rw [← hat] at o
          have rx : Rep X.K H (.exv a dx fld d) (.ref a) [] := .exv e2 rv
          obtain ⟨f', sr', _⟩ := sr.set (k := .bor []) (Same.refl H) rx (KOk.nil _) i
          refine ⟨dx, rfl, by rw [← hE], A, H0, _, G, _, sr', ?_⟩
          show OutOk X.K CA W0 A H0 G _ (s a dx (ρ.set i (.bo [] (.exv a dx fld d))))
          cases ho : s a dx (ρ.set i (.bo [] (.exv a dx fld d))) with
          | rt k' d' => rw [ho] at o; exact o
          | nx ρ' => rw [ho] at o; exact o.elim
          | bk ρ' => rw [ho] at o; exact o.elim
          | ct ρ' => rw [ho] at o; exact o.elim
          | ex c' ρ' => rw [ho] at o; exact o.elim
          | st => rw [ho] at o; exact o.elim
          | ri ρ' k' d' =>
            rw [ho] at o
            have o : OutOk X.K CA W A H0 G D (if notOw ρ' i = true then .ri (ρ'.set i .no) k' d' else .st) := o
            split at o
            · rename_i hno
              exact fun v2 σ2 Hx H2 F2 f2 sr2 s2 r2 k2 => o v2 _ Hx H2 F2 f2 (sr2.wip [i] (by simpa using hno)) s2 r2 k2
            · exact o.elim
      · rw [if_neg hE, if_pos hy] at o
        exact o.elim
    · have hE : ¬ c.nm = E := fun z => by
        rw [z] at hn
        simp [subX] at hn
      have hne : ¬ subX c.nm E = true := by rw [hn]; exact Bool.false_ne_true
      rw [if_neg hE, if_neg hne] at o k
      exact HdN.catch hcx hod r sr k o
end
end Cz
set_option maxHeartbeats 2000000
namespace Cz
open PySem PySem.Spec PyProof.Rows L2
end Cz
set_option maxHeartbeats 2000000
namespace Cz
open PySem PySem.Spec PyProof.Rows L2
def locQ (i : Nat) : SE := fun ρ => match ρ[i]? with
  | some (.ow (.tg _ d)) => .ok (.bor [i], d)
  | _ => .st
def locQP (i : Nat) : SPh := fun ρ => match ρ[i]? with
  | some (.ow (.tg _ d)) => .ok (i, [.un], d)
  | _ => .st
theorem Rep.tgI {K : PySem.W.Frag} {H : Hp} {t : Nat} {d : D} {v : V} {f : List Addr} (r : Rep K H (.tg t d) v f) : Rep K H d v f ∧ ∃ a, v = .ref a ∧ t = a + 1 := by
  cases r with
  | tg r z => exact ⟨r, _, rfl, z⟩
section
variable {X : Cx} {CA : String → Addr} {W : WX} {pos : Pos}
theorem e_locQ (i : Nat) {x : Str} (hN : X.N[i]? = some x := by rfl) (hv : Vis X.env.scope x := by first | exact Or.inl rfl | exact Or.inr (Or.inl rfl) | exact Or.inr (Or.inr rfl)) (hd : (x == ("__debug__" : Str)) = false := by decide)
    (hcd : (x == ("__classdict__" : Str)) = false := by decide) : PE X (.Name x pos) (tE X.K CA W (locQ i)) := by
  refine peI (pe_var hN hv hd hcd) fun σ H Q ⟨A, H0, F, G, ρ, sr, h⟩ => ?_
  unfold locQ at h
  cases e : ρ[i]? with
  | none => rw [e] at h; exact h.elim
  | some sl =>
    rw [e] at h
    cases sl with
    | ow d =>
      cases d with
      | tg t d =>
        obtain ⟨v, hv, r⟩ := sr.slo i _ e
        exact ⟨v, hv, h v H (F i) (Same.refl H) r.tgI.1 fun a ha => .inl ⟨i, by simp, ha⟩⟩
      | _ => exact h.elim
    | _ => exact h.elim
theorem p_locQ (i : Nat) {x : Str} (hN : X.N[i]? = some x := by rfl) (hv : Vis X.env.scope x := by first | exact Or.inl rfl | exact Or.inr (Or.inl rfl) | exact Or.inr (Or.inr rfl)) (hd : (x == ("__debug__" : Str)) = false := by decide)
    (hcd : (x == ("__classdict__" : Str)) = false := by decide) : PE X (.Name x pos) (tP CA W X.K (locQP i)) := by
  refine peI (pe_var hN hv hd hcd) fun σ H Q ⟨A, H0, F, G, ρ, sr, h⟩ => ?_
  unfold locQP at h
  cases e : ρ[i]? with
  | none => rw [e] at h; exact h.elim
  | some sl =>
    rw [e] at h
    cases sl with
    | ow d =>
      cases d with
      | tg t d =>
        obtain ⟨v, hv, r⟩ := sr.slo i _ e
        exact ⟨v, hv, h v H (Same.refl H) ⟨_, v, e, hv, rfl, rfl⟩⟩
      | _ => exact h.elim
    | _ => exact h.elim
end
inductive RH where
  | ok (cs : List D) (d : D) | ex (c : Ec) (cs : List D) | st
abbrev HFn := (Nat → Nat) → List D → RH
def slH (ch : List Nat) (t : Nat → Nat) : Nat → List D → Env
  | _, [] => []
  | i, d :: ds => (if ch.contains i = true then .ow (.tg (t i) d) else .bo [] d) :: slH ch t (i + 1) ds
theorem slH_at (ch : List Nat) (t : Nat → Nat) : ∀ (ds : List D) (i j : Nat), (slH ch t i ds)[j]? = ds[j]?.map fun d => if ch.contains (i + j) = true then .ow (.tg (t (i + j)) d) else .bo [] d
  | [], i, j => by simp [slH]
  | d :: ds, i, 0 => by simp [slH]
  | d :: ds, i, j + 1 => by
    have := slH_at ch t ds (i + 1) j
    rw [show i + 1 + j = i + (j + 1) by omega] at this
    simpa [slH] using this
theorem slH_len (ch : List Nat) (t : Nat → Nat) : ∀ (ds : List D) (i : Nat), (slH ch t i ds).length = ds.length
  | [], i => rfl
  | d :: ds, i => by simp [slH, slH_len ch t ds (i + 1)]
def getH (t : Nat → Nat) (ρ : Env) (i : Nat) : Option D := match (ρ[i]? : Option Sl) with
  | some (.ow (.tg t' d)) => if t' = t i then some d else none
  | _ => none
def getsH (t : Nat → Nat) (ρ : Env) : List Nat → Option (List D)
  | [] => some []
  | i :: is => (getH t ρ i).bind fun d => (getsH t ρ is).map (d :: ·)
theorem getsH_mem {t : Nat → Nat} {ρ : Env} : ∀ {is : List Nat} {cs : List D}, getsH t ρ is = some cs → cs.length = is.length ∧ ∀ i d, (i, d) ∈ is.zip cs → ρ[i]? = some (.ow (.tg (t i) d))
  | [], cs, h => by simp [getsH] at h; subst h; exact ⟨rfl, fun i d z => by simp at z⟩
  | i :: is, cs, h => by
    simp only [getsH] at h
    cases e1 : getH t ρ i with
    | none => rw [e1] at h; cases h
    | some d =>
      rw [e1] at h
      simp only [Option.bind_some] at h
      cases e2 : getsH t ρ is with
      | none => rw [e2] at h; cases h
      | some cs' =>
        rw [e2] at h
        cases h
        obtain ⟨h1, h2⟩ := getsH_mem e2
        refine ⟨by simp [h1], fun j d' z => ?_⟩
        rw [List.zip_cons_cons] at z
        rcases List.mem_cons.mp z with z | z
        · cases z
          unfold getH at e1
          split at e1
          · rename_i t' d2 e3
            split at e1
            · rename_i e4; cases e1; rw [← e4]; exact e3
            · cases e1
          · cases e1
        · exact h2 j d' z
def RH.of (f : List D → RH) : Option (List D) → RH
  | some cs => f cs
  | none => .st
def Out.finH (o : Out) (ch : List Nat) (t : Nat → Nat) : RH := match o with
  | .nx ρ => RH.of (fun cs => .ok cs .non) (getsH t ρ ch)
  | .ri ρ k d => if ownK k = true then RH.of (fun cs => .ok cs d) (getsH t ρ ch) else .st
  | .ex c ρ => RH.of (fun cs => .ex c cs) (getsH t ρ ch)
  | _ => .st
def runH (ch : List Nat) (m : Nat) (body : SS) : HFn := fun t ds => (body (slH ch t 0 ds ++ List.replicate (m - ds.length) .no)).finH ch t
def mkH (ch : List Nat) (n m : Nat) (body : SS) : HFn := fun t ds => if ds.length = n then runH ch m body t ds else .st
theorem mkH_of {ch : List Nat} {n m : Nat} {body : SS} {t : Nat → Nat} {ds : List D} (h : ds.length = n) : mkH ch n m body t ds = runH ch m body t ds := if_pos h
theorem mkH_len {ch : List Nat} {n m : Nat} {b : SS} {t : Nat → Nat} {ds : List D} (h : mkH ch n m b t ds ≠ .st) : ds.length = n := by
  unfold mkH at h
  split at h
  · assumption
  · exact absurd rfl h
open Classical in
noncomputable def allH (f : (Nat → Nat) → RH) : RH := if h : ∃ r, ∀ t, f t = r then h.choose else .st
theorem allH_const {f : (Nat → Nat) → RH} {r : RH} (h : ∀ t, f t = r) : allH f = r := by
  unfold allH
  rw [dif_pos ⟨r, h⟩]
  have : ∃ r, ∀ t, f t = r := ⟨r, h⟩
  exact (this.choose_spec (fun _ => 0)).symm.trans (h _)
theorem allH_at {f : (Nat → Nat) → RH} (h : allH f ≠ .st) (t : Nat → Nat) : f t = allH f := by
  unfold allH at h ⊢
  split
  · rename_i hz; exact hz.choose_spec t
  · rename_i hz; rw [dif_neg hz] at h; exact absurd rfl h
structure ArgH (K : PySem.W.Frag) (H : Hp) (ch : List Nat) (t : Nat → Nat) (ds : List D) (vs : List V) (f : List Addr) (gs : Nat → List Addr) : Prop where
  len : ds.length = vs.length
  lt : ∀ i ∈ ch, i < ds.length
  chg : ∀ i d v, ds[i]? = some d → vs[i]? = some v → i ∈ ch → Rep K H (.tg (t i) d) v (gs i)
  oth : ∀ i d v, ds[i]? = some d → vs[i]? = some v → i ∉ ch → ∃ f', Rep K H d v f' ∧ ∀ b ∈ f', b ∈ f
  own : ∀ i, (gs i).Nodup ∧ ∀ a ∈ gs i, Mu (H a) ∧ a ∉ f
  dis : ∀ i j a, a ∈ gs i → a ∈ gs j → i = j
  emp : ∀ i, i ∉ ch → gs i = []
def InG (gs : Nat → List Addr) (a : Addr) : Prop := ∃ i, a ∈ gs i
structure AftH (K : PySem.W.Frag) (H H' : Hp) (ch : List Nat) (t : Nat → Nat) (cs : List D) (vs : List V) (gs gs' : Nat → List Addr) : Prop where
  len : cs.length = ch.length
  rep : ∀ i d v, (i, d) ∈ ch.zip cs → vs[i]? = some v → Rep K H' d v (gs' i)
  own : ∀ i, (gs' i).Nodup ∧ ∀ a ∈ gs' i, (InG gs a ∨ H a = none) ∧ Mu (H' a)
  dis : ∀ i j a, a ∈ gs' i → a ∈ gs' j → i = j
def spH (K : PySem.W.Frag) (CA : String → Addr) (fn : HFn) (n : Nat) (ch : List Nat) : Sp := fun vs H Q E => ∃ (t : Nat → Nat) (ds : List D) (f : List Addr) (gs : Nat → List Addr), ds.length = n ∧ ArgH K H ch t ds vs f gs ∧
  match fn t ds with
  | .ok cs d => ∀ v H' gs' g', Same (hidH H (ch.flatMap gs)) H' → AftH K H H' ch t cs vs gs gs' → Rep K H' d v g' → g'.Nodup → (∀ a ∈ g', (InG gs a ∨ H a = none) ∧ Mu (H' a) ∧ ∀ i, a ∉ gs' i) → Q v H'
  | .ex c cs => ∀ H' gs', Same (hidH H (ch.flatMap gs)) H' → AftH K H H' ch t cs vs gs gs' → WxOk K CA c E H'
  | .st => False
section
variable {P : Program} {w : World} {K : PySem.W.Frag} {mg : Str → Option Value} {base : Heap} {CA : String → Addr}
theorem ArgH.inL {H : Hp} {ch : List Nat} {t : Nat → Nat} {ds : List D} {vs : List V} {f : List Addr} {gs : Nat → List Addr} (h : ArgH K H ch t ds vs f gs) {a : Addr} : a ∈ ch.flatMap gs ↔ InG gs a := by
  refine ⟨fun z => ?_, fun ⟨i, hi⟩ => ?_⟩
  · obtain ⟨i, _, h2⟩ := List.mem_flatMap.mp z; exact ⟨i, h2⟩
  · refine List.mem_flatMap.mpr ⟨i, ?_, hi⟩
    rcases Classical.em (i ∈ ch) with z | z
    · exact z
    · rw [h.emp i z] at hi; cases hi
theorem SR.initH {H : Hp} {ch : List Nat} {t : Nat → Nat} {ds : List D} {vs : List V} {f : List Addr} {gs : Nat → List Addr} {N : List Str} (h : ArgH K H ch t ds vs f gs) (hN : ds.length ≤ N.length) :
    SR K (fun a => a ∈ f) (hidH H (ch.flatMap gs)) gs [] (slH ch t 0 ds ++ List.replicate (N.length - ds.length) Sl.no) (start N vs) H := by
  have st : ∀ {j : Nat} {v : V}, vs[j]? = some v → (start N vs)[j]? = some (some v) := fun {j v} h1 => by
    have hj : j < vs.length := (List.getElem?_eq_some_iff.mp h1).1
    unfold L2.start
    rw [List.getElem?_append_left (by simpa using hj), List.getElem?_map, h1]
    rfl
  have no : ∀ (j : Nat) (x : Sl), (slH ch t 0 ds ++ List.replicate (N.length - ds.length) Sl.no)[j]? = some x → x = .no ∨ ∃ d v, ds[j]? = some d ∧ vs[j]? = some v ∧ x = if ch.contains j = true then .ow (.tg (t j) d) else .bo [] d := fun j x e => by
    by_cases hj : j < ds.length
    · rw [List.getElem?_append_left (by rw [slH_len]; exact hj), slH_at] at e
      obtain ⟨d, hd⟩ : ∃ d, ds[j]? = some d := ⟨_, List.getElem?_eq_getElem hj⟩
      obtain ⟨v, hv⟩ : ∃ v, vs[j]? = some v := ⟨_, List.getElem?_eq_getElem (by rw [← h.len]; exact hj)⟩
      rw [hd] at e
      simp only [Option.map_some, Nat.zero_add, Option.some.injEq] at e
      exact .inr ⟨d, v, hd, hv, e.symm⟩
    · rw [List.getElem?_append_right (by rw [slH_len]; omega), List.getElem?_replicate] at e
      split at e
      · cases e; exact .inl rfl
      · cases e
  refine ⟨?_, same_hid H _, fun j => ⟨(h.own j).1, fun a ha => ⟨hidH_in (h.inL.mpr ⟨j, ha⟩), ((h.own j).2 a ha).1⟩⟩, h.dis, fun j d e => ?_, fun j is d e => ?_, (fun p hp => nomatch hp), fun j hj hn => ?_, ⟨ds.length, fun j hj => h.emp j fun z => ?_⟩, fun z => by
    obtain ⟨j, e⟩ := hasT_iff.mp z
    rcases no j _ e with q | ⟨d', v, _, _, q⟩
    · cases q
    · split at q <;> cases q⟩
  · unfold L2.start
    rw [List.length_append, List.length_append, List.length_map, slH_len, List.length_replicate, List.length_replicate, h.len]
  · rcases no j _ e with q | ⟨d', v, hd, hv, q⟩
    · cases q
    · by_cases z : ch.contains j = true
      · rw [if_pos z] at q
        cases q
        exact ⟨v, st hv, h.chg j d' v hd hv (by simpa using z)⟩
      · rw [if_neg z] at q; cases q
  · rcases no j _ e with q | ⟨d', v, hd, hv, q⟩
    · cases q
    · by_cases z : ch.contains j = true
      · rw [if_pos z] at q; cases q
      · rw [if_neg z] at q
        cases q
        obtain ⟨f', r, hf⟩ := h.oth j _ v hd hv (by simpa using z)
        exact ⟨v, f', st hv, r, fun a ha => .inr ⟨.inl (hf a ha), fun m hm => ((h.own m).2 a hm).2 (hf a ha)⟩⟩
  · have hc : j ∈ ch := by
      rcases Classical.em (j ∈ ch) with z | z
      · exact z
      · exact absurd (h.emp j z) hn
    have hl := h.lt j hc
    refine ⟨.tg (t j) (ds[j]), ?_⟩
    rw [List.getElem?_append_left (by rw [slH_len]; exact hl), slH_at, List.getElem?_eq_getElem hl]
    simp [hc]
  · have := h.lt j z; omega
theorem fn_okH {ch : List Nat} {fn : HFn} {x qual : Str} {st : Stmt} {f : Addr} {fd : FuncData} {N ps : List Str} {k : Nat} {body : SS} {dvs : List V} (Fu : FunD K x qual (defArgs st) (defBody st) (defScope st) dvs [] f fd) (S : FnScope N ps (defScope st))
    (hb : ∀ (cdv : Value) (A : Around) (outer : List PySem.Env) (s : Shared) (H : Hp) (E : XK), Room k (A.deeper (envOfC qual (defScope st) s.heap.objs.size f cdv)) →
      PSs (cxOf (L2.CX P w) P w K mg base N qual (defScope st) f cdv A outer s H E) (defBody st) (tS K CA (fun cls d _ H => E cls d H) body))
    (hx : ∀ t ds, ds.length = ps.length → fn t ds = runH ch N.length body t ds)
    (hN : ps.length ≤ N.length) : FnOk P w K mg base (L2.CX P w) (k + 1) f fd ps (spH K CA fn ps.length ch) := by
  refine Fu.ok S (fun vs H Q E ⟨t, ds, f, gs, h1, h2, _⟩ => by rw [← h2.len]; exact h1) fun cdv Ar outer s H vs Q E hr ⟨t, ds, f, gs, h1, h2, h5⟩ => ?_
  have sr := SR.initH (N := N) h2 (by rw [h1]; exact hN)
  refine ⟨_, hb cdv Ar outer s H E hr, fun a => a ∈ f, _, gs, [], _, sr, ?_⟩
  rw [hx t ds h1] at h5
  unfold runH at h5
  have fr : ∀ {a : Addr}, hidH H (ch.flatMap gs) a = none → InG gs a ∨ H a = none := fun {a} z => (hidH_none z).imp h2.inL.mp id
  have aft : ∀ {ρ : Env} {σ : L2.St} {H1 H' : Hp} {F' : Nat → List Addr} {cs : List D}, SR K (fun a => a ∈ f) (hidH H (ch.flatMap gs)) F' [] ρ σ H1 → Same H1 H' → getsH t ρ ch = some cs → AftH K H H' ch t cs vs gs F' := fun {ρ σ H1 H' F' cs} sr' s' hg => by
    obtain ⟨g1, g2⟩ := getsH_mem hg
    refine ⟨g1, fun i d v hz hv => ?_, fun i => ⟨(sr'.own i).1, fun a ha => ⟨fr ((sr'.own i).2 a ha).1, ((sr'.own i).2 a ha).2.same s'⟩⟩, sr'.dis⟩
    obtain ⟨v', hv', r⟩ := sr'.slo i _ (g2 i d hz)
    have hi : i ∈ ch := (List.of_mem_zip hz).1
    have hl := h2.lt i hi
    have r0 := h2.chg i _ v (List.getElem?_eq_getElem hl) hv hi
    obtain ⟨_, a0, e0, z0⟩ := r0.tgI
    obtain ⟨r1, a1, e1, z1⟩ := r.tgI
    have : a1 = a0 := Nat.succ.inj (z1.symm.trans z0)
    subst this
    rw [e0, ← e1]
    exact r1.same s'
  cases hbo : body (slH ch t 0 ds ++ List.replicate (N.length - ds.length) .no) with
  | nx ρ =>
    rw [hbo] at h5
    simp only [Out.finH] at h5
    cases hs : getsH t ρ ch with
    | none => rw [hs] at h5; exact h5.elim
    | some cs =>
      rw [hs] at h5
      exact fun σ' H' F' sr' => h5 .non H' F' [] sr'.fr (aft sr' (Same.refl _) hs) .non List.nodup_nil fun a ha => nomatch ha
  | ri ρ k d =>
    rw [hbo] at h5
    simp only [Out.finH] at h5
    by_cases hk : ownK k = true
    · rw [if_pos hk] at h5
      have := ownK_eq hk
      subst this
      cases hs : getsH t ρ ch with
      | none => rw [hs] at h5; exact h5.elim
      | some cs =>
        rw [hs] at h5
        exact fun v σ Hx H' F' g' sr' s' r' o' => h5 v H' F' g' (sr'.fr.trans s') (aft sr' s' hs) r' o'.1 fun a ha => ⟨fr (sr'.fr.free (o'.2 a ha).1), (o'.2 a ha).2, fun i hi => ((sr'.own i).2 a hi).2.ne (o'.2 a ha).1⟩
    · rw [if_neg hk] at h5; exact h5.elim
  | ex c ρ =>
    rw [hbo] at h5
    simp only [Out.finH] at h5
    cases hs : getsH t ρ ch with
    | none => rw [hs] at h5; exact h5.elim
    | some cs =>
      rw [hs] at h5
      exact fun σ' H' F' sr' => h5 H' F' sr'.fr (aft sr' (Same.refl _) hs)
  | rt k d => rw [hbo] at h5; exact h5.elim
  | bk ρ => rw [hbo] at h5; exact h5.elim
  | ct ρ => rw [hbo] at h5; exact h5.elim
  | st => rw [hbo] at h5; exact h5.elim
end
end Cz
set_option maxHeartbeats 2000000
namespace Cz
open PySem PySem.Spec PyProof.Rows L2
inductive AX where
  | v (x : KD) | p (x : Nat × List Ix × D)
def AX.d : AX → D
  | .v x => x.2
  | .p x => x.2.2
abbrev SAH := Env → R (List AX)
def nilH : SAH := fun _ => .ok []
def vH (a : SE) (r : SAH) : SAH := fun ρ => (a ρ).bind fun x => (r ρ).bind fun xs => .ok (.v x :: xs)
def pH (p : SPh) (r : SAH) : SAH := fun ρ => (p ρ).bind fun x => (r ρ).bind fun xs => .ok (.p x :: xs)
def isH : List AX → List Nat
  | [] => []
  | .v x :: r => (nk x.1 x.2).is ++ isH r
  | .p _ :: r => isH r
def pzH : Nat → List AX → List (Nat × (Nat × List Ix × D))
  | _, [] => []
  | i, .v _ :: r => pzH (i + 1) r
  | i, .p x :: r => (i, x) :: pzH (i + 1) r
theorem pzH_mem {k : Nat} {x : Nat × List Ix × D} : ∀ {xs : List AX} {i : Nat}, (k, x) ∈ pzH i xs ↔ ∃ j, k = i + j ∧ xs[j]? = some (.p x)
  | [], i => by simp [pzH]
  | .v y :: r, i => by
    rw [show pzH i (.v y :: r) = pzH (i + 1) r from rfl, pzH_mem (xs := r)]
    refine ⟨fun ⟨j, h1, h2⟩ => ⟨j + 1, by omega, by simpa using h2⟩, fun ⟨j, h1, h2⟩ => ?_⟩
    cases j with
    | zero => simp at h2
    | succ j => exact ⟨j, by omega, by simpa using h2⟩
  | .p y :: r, i => by
    rw [show pzH i (.p y :: r) = (i, y) :: pzH (i + 1) r from rfl, List.mem_cons, pzH_mem (xs := r)]
    refine ⟨fun h => ?_, fun ⟨j, h1, h2⟩ => ?_⟩
    · rcases h with h | ⟨j, h1, h2⟩
      · cases h; exact ⟨0, by omega, by simp⟩
      · exact ⟨j + 1, by omega, by simpa using h2⟩
    · cases j with
      | zero => simp at h2; subst h2; left; simp at h1; rw [h1]
      | succ j => exact .inr ⟨j, by omega, by simpa using h2⟩
def putsAt : Env → List (Nat × (Nat × List Ix × D)) → List D → Option Env
  | ρ, [], [] => some ρ
  | ρ, x :: r, c :: cs => (putAt ρ x.2 c).bind fun ρ' => putsAt ρ' r cs
  | _, _, _ => none
def AtH (K : PySem.W.Frag) (A : Addr → Prop) (H0 : Hp) (F : Nat → List Addr) (H : Hp) (ρ : Env) (σ : L2.St) (H' : Hp) : List AX → List V → List Addr → Prop
  | [], [], f => f = []
  | .v x :: xs, v :: vs, f => ∃ f1 f2, f = f1 ++ f2 ∧ Rep K H' x.2 v f1 ∧ KOk A H0 F H H' x.1 f1 ∧ AtH K A H0 F H ρ σ H' xs vs f2
  | .p x :: xs, v :: vs, f => PhAt ρ σ H' x v ∧ AtH K A H0 F H ρ σ H' xs vs f
  | _, _, _ => False
def tAH (K : PySem.W.Frag) (CA : String → Addr) (W : WX) (s : SAH) : TA := fun σ H Q =>
  ∃ A H0 F G ρ, SR K A H0 F G ρ σ H ∧ Post K CA W σ H (s ρ) fun xs => ∀ vs H' f, Same H H' → AtH K A H0 F H ρ σ H' xs vs f → Q vs H'
section
variable {K : PySem.W.Frag} {A : Addr → Prop} {H0 Ha H H' : Hp} {F : Nat → List Addr} {ρ : Env} {σ : L2.St}
theorem AtH.earlier (s : Same Ha H) : ∀ {xs : List AX} {vs : List V} {f : List Addr}, AtH K A H0 F H ρ σ H' xs vs f → AtH K A H0 F Ha ρ σ H' xs vs f
  | [], [], _, h => h
  | .v x :: xs, v :: vs, f, ⟨f1, f2, e, r, k, h⟩ => ⟨f1, f2, e, r, k.wide s (Same.refl _), h.earlier s⟩
  | .p x :: xs, v :: vs, f, ⟨h1, h2⟩ => ⟨h1, h2.earlier s⟩
  | [], _ :: _, _, h => h.elim
  | .v _ :: _, [], _, h => h.elim
  | .p _ :: _, [], _, h => h.elim
theorem AtH.len : ∀ {xs : List AX} {vs : List V} {f : List Addr}, AtH K A H0 F H ρ σ H' xs vs f → xs.length = vs.length
  | [], [], _, h => rfl
  | .v x :: xs, v :: vs, f, ⟨f1, f2, e, r, k, h⟩ => by simp [h.len]
  | .p x :: xs, v :: vs, f, ⟨h1, h2⟩ => by simp [h2.len]
  | [], _ :: _, _, h => h.elim
  | .v _ :: _, [], _, h => h.elim
  | .p _ :: _, [], _, h => h.elim
theorem AtH.place : ∀ {xs : List AX} {vs : List V} {f : List Addr} {j : Nat} {x : Nat × List Ix × D} {v : V}, AtH K A H0 F H ρ σ H' xs vs f → xs[j]? = some (.p x) → vs[j]? = some v → PhAt ρ σ H' x v
  | .v _ :: xs, _ :: vs, f, 0, x, v, _, e, _ => by simp at e
  | .v _ :: xs, _ :: vs, f, j + 1, x, v, ⟨f1, f2, _, _, _, h⟩, e, e2 => h.place (j := j) (by simpa using e) (by simpa using e2)
  | .p _ :: xs, _ :: vs, f, 0, x, v, h, e, e2 => by simp at e e2; subst e; subst e2; exact h.1
  | .p _ :: xs, _ :: vs, f, j + 1, x, v, h, e, e2 => h.2.place (j := j) (by simpa using e) (by simpa using e2)
  | [], [], _, _, _, _, _, e, _ => by simp at e
  | [], _ :: _, _, _, _, _, h, _, _ => h.elim
  | .v _ :: _, [], _, _, _, _, h, _, _ => h.elim
  | .p _ :: _, [], _, _, _, _, h, _, _ => h.elim
theorem AtH.val : ∀ {xs : List AX} {vs : List V} {f : List Addr} {j : Nat} {x : KD} {v : V}, AtH K A H0 F H ρ σ H' xs vs f → xs[j]? = some (.v x) → vs[j]? = some v → ∃ f', Rep K H' x.2 v f' ∧ ∀ b ∈ f', b ∈ f
  | .v _ :: xs, _ :: vs, f, 0, x, v, ⟨f1, f2, ef, r, _, h⟩, e, e2 => by simp at e e2; subst e; subst e2; exact ⟨f1, r, fun b hb => by rw [ef]; simp [hb]⟩
  | .v _ :: xs, _ :: vs, f, j + 1, x, v, ⟨f1, f2, ef, _, _, h⟩, e, e2 => by
    obtain ⟨f', r, hf⟩ := h.val (j := j) (by simpa using e) (by simpa using e2)
    exact ⟨f', r, fun b hb => by rw [ef]; simp [hf b hb]⟩
  | .p _ :: xs, _ :: vs, f, 0, x, v, h, e, e2 => by simp at e
  | .p _ :: xs, _ :: vs, f, j + 1, x, v, h, e, e2 => h.2.val (j := j) (by simpa using e) (by simpa using e2)
  | [], [], _, _, _, _, _, e, _ => by simp at e
  | [], _ :: _, _, _, _, _, h, _, _ => h.elim
  | .v _ :: _, [], _, _, _, _, h, _, _ => h.elim
  | .p _ :: _, [], _, _, _, _, h, _, _ => h.elim
theorem AtH.bok {G : List (D × V)} (sr : SR K A H0 F G ρ σ H) (s : Same H H') : ∀ {xs : List AX} {vs : List V} {f : List Addr}, AtH K A H0 F H ρ σ H' xs vs f → BOk A H0 F (isH xs) f ∧ ∀ a ∈ f, H' a ≠ none
  | [], [], _, h => by
    have h : _ = ([] : List Addr) := h
    subst h
    exact ⟨(fun a ha => nomatch ha), (fun a ha => nomatch ha)⟩
  | .v x :: xs, v :: vs, f, ⟨f1, f2, e, r, k, h⟩ => by
    obtain ⟨b1, b2⟩ := h.bok sr s
    have b3 := (KOk.nk r k).bok sr
    subst e
    refine ⟨fun a ha => ?_, fun a ha => ?_⟩
    · rcases List.mem_append.mp ha with z | z
      · rcases b3 a z with ⟨j, hj, q⟩ | q
        · exact .inl ⟨j, List.mem_append_left _ hj, q⟩
        · exact .inr q
      · rcases b1 a z with ⟨j, hj, q⟩ | q
        · exact .inl ⟨j, List.mem_append_right _ hj, q⟩
        · exact .inr q
    · rcases List.mem_append.mp ha with z | z
      · exact r.trk a z
      · exact b2 a z
  | .p x :: xs, v :: vs, f, ⟨h1, h2⟩ => h2.bok sr s
  | [], _ :: _, _, h => h.elim
  | .v _ :: _, [], _, h => h.elim
  | .p _ :: _, [], _, h => h.elim
end
section
variable {X : Cx} {CA : String → Addr} {W : WX} {e : Expr} {es : List Expr} {sa : SE} {sp : SPh} {s : SAH}
theorem a_hnil : PA X [] (tAH X.K CA W nilH) := by
  refine ⟨fun pos pins s' σ H Q I ⟨A, H0, F, G, ρ, sr, h⟩ => pa_nil.run pos pins s' σ H Q I ?_⟩
  exact h [] H [] (Same.refl H) rfl
theorem a_hv (ha : PE X e (tE X.K CA W sa)) (hr : PA X es (tAH X.K CA W s)) (hs : starEach (e :: es) X.env = (false, eval e X.env) :: starEach es X.env := by rfl) : PA X (e :: es) (tAH X.K CA W (vH sa s)) := by
  refine ⟨fun pos pins s' σ H Q I ⟨A, H0, F, G, ρ, sr, h⟩ => (pa_cons ha hr hs).run pos pins s' σ H Q I ?_⟩
  refine ⟨A, H0, F, G, ρ, sr, h.bind fun ⟨k1, d1⟩ h1 => ?_⟩
  intro v1 H1 f1 s1 r1 o1
  refine ⟨A, H0, F, G, ρ, sr.same s1, (h1.later s1).bind fun xs h2 => ?_⟩
  intro vs H2 f2 s2 r2
  exact h2 (v1 :: vs) H2 (f1 ++ f2) (s1.trans s2) ⟨f1, f2, rfl, r1.same s2, o1.wide (Same.refl _) s2, r2.earlier s1⟩
theorem a_hp (ha : PE X e (tP CA W X.K sp)) (hr : PA X es (tAH X.K CA W s)) (hs : starEach (e :: es) X.env = (false, eval e X.env) :: starEach es X.env := by rfl) : PA X (e :: es) (tAH X.K CA W (pH sp s)) := by
  refine ⟨fun pos pins s' σ H Q I ⟨A, H0, F, G, ρ, sr, h⟩ => (pa_cons ha hr hs).run pos pins s' σ H Q I ?_⟩
  refine ⟨A, H0, F, G, ρ, sr, h.bind fun x h1 => ?_⟩
  intro v1 H1 s1 at1
  refine ⟨A, H0, F, G, ρ, sr.same s1, (h1.later s1).bind fun xs h2 => ?_⟩
  intro vs H2 f2 s2 r2
  exact h2 (v1 :: vs) H2 f2 (s1.trans s2) ⟨at1.same s2, r2.earlier s1⟩
end
section
variable {K : PySem.W.Frag} {A : Addr → Prop} {H0 Hb H : Hp} {F : Nat → List Addr} {G : List (D × V)} {ρ ρ' : Env} {σ : L2.St}
def nwF (S : Nat → Option (D × List Addr)) (F : Nat → List Addr) : Nat → List Addr := fun j => match S j with
  | some p => p.2
  | none => F j
theorem nwF_some {S : Nat → Option (D × List Addr)} {j : Nat} {p : D × List Addr} (h : S j = some p) : nwF S F j = p.2 := by unfold nwF; rw [h]
theorem nwF_none {S : Nat → Option (D × List Addr)} {j : Nat} (h : S j = none) : nwF S F j = F j := by unfold nwF; rw [h]
theorem SR.mutHs {S : Nat → Option (D × List Addr)} (sr : SR K A H0 F G ρ σ Hb) (fr : ∀ a o, Hb a = some o → (∀ j p, S j = some p → a ∉ F j) → H a = some o) (hlen : ρ'.length = ρ.length)
    (c1 : ∀ j p, S j = some p → ρ'[j]? = some (.ow p.1)) (c0 : ∀ j p, S j = some p → j < ρ.length ∧ ∃ v, σ[j]? = some (some v) ∧ Rep K H p.1 v p.2)
    (c2 : ∀ i d, S i = none → (ρ'[i]? = some (.ow d) ↔ ρ[i]? = some (.ow d))) (c3 : ∀ (i : Nat) (is : List Nat) (d : D), ρ'[i]? = some (Sl.bo is d) → ρ[i]? = some (Sl.bo is d) ∧ ∀ j ∈ is, S j = none)
    (nf : ∀ j p, S j = some p → p.2.Nodup) (hf : ∀ j p, S j = some p → ∀ b ∈ p.2, (∃ m q, S m = some q ∧ b ∈ F m) ∨ Hb b = none) (hd : ∀ i j p q b, S i = some p → S j = some q → b ∈ p.2 → b ∈ q.2 → i = j)
    (hmu : ∀ j p, S j = some p → ∀ b ∈ p.2, Mu (H b)) (hfin : ∃ L, ∀ j, L ≤ j → S j = none) (htb : hasT ρ' = true → hasT ρ = true) : SR K A H0 (nwF S F) G ρ' σ H := by
  have nt : ∀ b ob, Hb b = some ob → IsT ob → H b = some ob := fun b ob e t => by
    refine fr b ob e fun j p _ z => ?_
    have := ((sr.own j).2 b z).2.m
    rw [e] at this
    cases ob <;> first | exact t.elim | exact this.elim
  have kp : ∀ {f : List Addr}, (∀ b ∈ f, ∀ j p, S j = some p → b ∉ F j) → ∀ b ∈ f, ∀ ob, Hb b = some ob → H b = some ob := fun {f} hf b hb ob e => fr b ob e (hf b hb)
  have mu : ∀ {b : Addr}, (∀ j p, S j = some p → b ∉ F j) → Mu (Hb b) → Mu (H b) := fun {b} h m => by
    cases e : Hb b with
    | none => exact absurd e m.ne
    | some o => rw [fr b o e h]; rw [e] at m; exact m
  have sh : ∀ {b : Addr}, Hb b ≠ none → Sh A H0 F b → (∀ j p, S j = some p → b ∉ F j) ∧ Sh A H0 (nwF S F) b := fun {b} hb h => by
    refine ⟨fun j p _ => h.2 j, h.1, fun m hm' => ?_⟩
    cases e : S m with
    | some q =>
      rw [nwF_some e] at hm'
      rcases hf m q e b hm' with ⟨m', _, _, z⟩ | z
      · exact h.2 m' z
      · exact hb z
    | none => rw [nwF_none e] at hm'; exact h.2 m hm'
  have slo' : ∀ i d, ρ'[i]? = some (.ow d) → ∃ v, σ[i]? = some (some v) ∧ Rep K H d v (nwF S F i) := fun i d e => by
    cases es : S i with
    | some p =>
      have e1 := c1 i p es
      rw [e] at e1
      cases e1
      obtain ⟨_, v, h1, h2⟩ := c0 i p es
      exact ⟨v, h1, by rw [nwF_some es]; exact h2⟩
    | none =>
      obtain ⟨v, h1, h2⟩ := sr.slo i d ((c2 i d es).mp e)
      rw [nwF_none es]
      exact ⟨v, h1, h2.frame nt (kp fun b hb j p hj z => by have := sr.dis i j b hb z; subst this; rw [es] at hj; cases hj)⟩
  refine ⟨by rw [hlen]; exact sr.len, fun b ob e => ?_, fun i => ?_, fun i m b hi hm' => ?_, slo', fun i is d2 e => ?_, fun p hp => ?_, fun i hi hn => ?_, ?_, sr.tbS htb fun b o e t => fr b o e fun j p _ z => sr.teF z e t⟩
  · exact fr b ob (sr.fr b ob e) fun j p _ z => by rw [((sr.own j).2 b z).1] at e; cases e
  · cases es : S i with
    | some p =>
      rw [nwF_some es]
      exact ⟨nf i p es, fun b hb => ⟨(hf i p es b hb).elim (fun ⟨m, _, _, q⟩ => ((sr.own m).2 b q).1) fun q => sr.fr.free q, hmu i p es b hb⟩⟩
    | none =>
      rw [nwF_none es]
      exact ⟨(sr.own i).1, fun b hb => ⟨((sr.own i).2 b hb).1, mu (fun j p hj z => by have := sr.dis i j b hb z; subst this; rw [es] at hj; cases hj) ((sr.own i).2 b hb).2⟩⟩
  · cases es : S i with
    | some p =>
      rw [nwF_some es] at hi
      cases em : S m with
      | some q => rw [nwF_some em] at hm'; exact hd i m p q b es em hi hm'
      | none =>
        rw [nwF_none em] at hm'
        rcases hf i p es b hi with ⟨n, q, hn, z⟩ | z
        · have := sr.dis n m b z hm'; subst this; rw [em] at hn; cases hn
        · exact absurd z ((sr.own m).2 b hm').2.ne
    | none =>
      rw [nwF_none es] at hi
      cases em : S m with
      | some q =>
        rw [nwF_some em] at hm'
        rcases hf m q em b hm' with ⟨n, p, hn, z⟩ | z
        · have := sr.dis n i b z hi; subst this; rw [es] at hn; cases hn
        · exact absurd z ((sr.own i).2 b hi).2.ne
      | none => rw [nwF_none em] at hm'; exact sr.dis i m b hi hm'
  · obtain ⟨e1, hji⟩ := c3 i is d2 e
    obtain ⟨v2, g, h1, h2, h3⟩ := sr.slb i is d2 e1
    have key : ∀ b ∈ g, (∀ j p, S j = some p → b ∉ F j) ∧ ((∃ m ∈ is, b ∈ nwF S F m) ∨ Sh A H0 (nwF S F) b) := fun b hb => by
      rcases h3 b hb with ⟨m, hm', q⟩ | q
      · have hmj := hji m hm'
        exact ⟨(fun j p hj z => by have := sr.dis m j b q z; subst this; rw [hmj] at hj; cases hj), .inl ⟨m, hm', by rw [nwF_none hmj]; exact q⟩⟩
      · obtain ⟨q1, q2⟩ := sh (h2.trk b hb) q
        exact ⟨q1, .inr q2⟩
    exact ⟨v2, g, h1, h2.frame nt (kp fun b z => (key b z).1), fun b hb => (key b hb).2⟩
  · obtain ⟨g, h1, h2⟩ := sr.gho p hp
    exact ⟨g, h1.frame nt (kp fun b z => (sh (h1.trk b z) (h2 b z)).1), fun b hb => (sh (h1.trk b hb) (h2 b hb)).2⟩
  · rw [hlen] at hi
    cases es : S i with
    | some p => exact ⟨p.1, c1 i p es⟩
    | none =>
      rw [nwF_none es] at hn
      obtain ⟨d2, e⟩ := sr.emp i hi hn
      exact ⟨d2, (c2 i d2 es).mpr e⟩
  · obtain ⟨L1, h1⟩ := hfin
    obtain ⟨L2', h2⟩ := sr.fin
    exact ⟨max L1 L2', fun j hj => by rw [nwF_none (h1 j (by omega))]; exact h2 j (by omega)⟩
abbrev Tr := Nat × (D × List Addr)
inductive PutR (ρ : Env) : List (Nat × (Nat × List Ix × D)) → List D → List Tr → Prop
  | nil : PutR ρ [] [] []
  | cons {k : Nat} {x : Nat × List Ix × D} {r : List (Nat × (Nat × List Ix × D))} {c : D} {cs : List D} {T : List Tr} {d d' : D} {f : List Addr} : ρ[x.1]? = some (.ow d) → setP x.2.1 d c = some d' → PutR ρ r cs T → PutR ρ ((k, x) :: r) (c :: cs) ((x.1, (d', f)) :: T)
theorem PutR.keys {pz : List (Nat × (Nat × List Ix × D))} {cs : List D} {T : List Tr} (h : PutR ρ pz cs T) : T.map (·.1) = pz.map (·.2.1) := by
  induction h with
  | nil => rfl
  | cons _ _ _ ih => simp [ih]
theorem PutR.keep {ρ1 : Env} {pz : List (Nat × (Nat × List Ix × D))} {cs : List D} {T : List Tr} (h : PutR ρ pz cs T) : (∀ i d, i ∈ pz.map (·.2.1) → ρ[i]? = some (.ow d) → ρ1[i]? = some (.ow d)) → PutR ρ1 pz cs T := by
  induction h with
  | nil => intro _; exact .nil
  | cons e1 e2 _ ih => intro k; exact .cons (k _ _ (by simp) e1) e2 (ih fun i d hi => k i d (by simp at hi ⊢; exact .inr hi))
theorem puts_ok : ∀ {pz : List (Nat × (Nat × List Ix × D))} {cs : List D} {T : List Tr} {ρ : Env}, PutR ρ pz cs T → (T.map (·.1)).Nodup → ∃ ρ', putsAt ρ pz cs = some ρ' ∧ ρ'.length = ρ.length ∧ (∀ j p, (j, p) ∈ T → ρ'[j]? = some (.ow p.1)) ∧
    (∀ i d, i ∉ T.map (·.1) → (ρ'[i]? = some (.ow d) ↔ ρ[i]? = some (.ow d))) ∧ ∀ (i : Nat) (is : List Nat) (d : D), ρ'[i]? = some (Sl.bo is d) → ρ[i]? = some (Sl.bo is d) ∧ ∀ j ∈ is, j ∉ T.map (·.1) := by
  intro pz
  induction pz with
  | nil =>
    intro cs T ρ h _
    cases h
    exact ⟨ρ, rfl, rfl, (fun j p z => by simp at z), (fun i d _ => Iff.rfl), (fun i is d e => ⟨e, fun j _ => by simp⟩)⟩
  | cons y r ih =>
    intro cs T ρ h n
    cases h with
    | @cons k x _ c cs T d d' f e1 e2 hr =>
    rw [List.map_cons, List.nodup_cons] at n
    have hx : x.1 < ρ.length := (List.getElem?_eq_some_iff.mp e1).1
    obtain ⟨ρ1, hρ1⟩ : ∃ ρ1, ρ1 = (inv x.1 ρ).set x.1 (.ow d') := ⟨_, rfl⟩
    have ep : putAt ρ x c = some ρ1 := by unfold putAt; rw [e1]; simp only [slD, Option.getD_some]; rw [e2, hρ1]; rfl
    have l1 : ρ1.length = ρ.length := by rw [hρ1, List.length_set, inv_len]
    have s1 : ρ1[x.1]? = some (.ow d') := by rw [hρ1, List.getElem?_set_self (by rw [inv_len]; exact hx)]
    have o1 : ∀ i d2, i ≠ x.1 → (ρ1[i]? = some (.ow d2) ↔ ρ[i]? = some (.ow d2)) := fun i d2 hi => by rw [hρ1, List.getElem?_set_ne (Ne.symm hi)]; exact inv_ow
    obtain ⟨ρ', q1, q2, q3, q4, q5⟩ := ih (hr.keep (ρ1 := ρ1) fun i d2 hi e => (o1 i d2 fun z => n.1 (by rw [hr.keys, ← z]; exact hi)).mpr e) n.2
    refine ⟨ρ', by unfold putsAt; simp only [ep, Option.bind_some]; exact q1, q2.trans l1, fun j p z => ?_, fun i d2 hi => ?_, fun i is d2 e => ?_⟩
    · rcases List.mem_cons.mp z with z | z
      · cases z
        exact (q4 x.1 d' n.1).mpr s1
      · exact q3 j p z
    · rw [List.map_cons, List.mem_cons, not_or] at hi
      rw [q4 i d2 hi.2, o1 i d2 hi.1]
    · obtain ⟨e3, h3⟩ := q5 i is d2 e
      have hi : x.1 ≠ i := fun z => by rw [← z, s1] at e3; cases e3
      rw [hρ1, List.getElem?_set_ne hi] at e3
      obtain ⟨e4, h4⟩ := inv_bo e3
      exact ⟨e4, fun j hj z => by
        rw [List.map_cons, List.mem_cons] at z
        rcases z with z | z
        · exact h4 (z ▸ hj)
        · exact h3 j hj z⟩
theorem puts_hasT : ∀ {pz : List (Nat × (Nat × List Ix × D))} {cs : List D} {ρ ρ' : Env}, putsAt ρ pz cs = some ρ' → hasT ρ' = true → hasT ρ = true
  | [], [], ρ, ρ', e, h => by cases e; exact h
  | x :: r, c :: cs, ρ, ρ', e, h => by
    simp only [putsAt] at e
    cases e2 : putAt ρ x.2 c with
    | none => rw [e2] at e; cases e
    | some ρ1 =>
      rw [e2] at e
      have h1 := puts_hasT (pz := r) e h
      unfold putAt at e2
      cases e3 : setP x.2.2.1 ((slD ρ[x.2.1]?).getD .non) c with
      | none => rw [e3] at e2; cases e2
      | some d' =>
        rw [e3] at e2
        cases e2
        exact hasT_inv (hasT_set rfl h1)
  | [], _ :: _, _, _, e, _ => by cases e
  | _ :: _, [], _, _, e, _ => by cases e
theorem look_mem {T : List Tr} (n : (T.map (·.1)).Nodup) {j : Nat} {p : D × List Addr} : T.lookup j = some p ↔ (j, p) ∈ T := by
  induction T with
  | nil => simp
  | cons q r ih =>
    obtain ⟨k, p'⟩ := q
    rw [List.map_cons, List.nodup_cons] at n
    rw [List.lookup_cons]
    by_cases h : j = k
    · subst h
      simp only [beq_self_eq_true, List.mem_cons]
      refine ⟨fun e => .inl (by cases e; rfl), fun e => ?_⟩
      rcases e with e | e
      · cases e; rfl
      · exact absurd (List.mem_map.mpr ⟨_, e, rfl⟩) n.1
    · have : (j == k) = false := by simpa using h
      rw [this]
      simp only [List.mem_cons]
      rw [ih n.2]
      exact ⟨.inr, fun e => e.resolve_left fun z => by cases z; exact h rfl⟩
theorem look_none {T : List Tr} {j : Nat} : T.lookup j = none ↔ j ∉ T.map (·.1) := by
  induction T with
  | nil => simp
  | cons q r ih =>
    obtain ⟨k, p'⟩ := q
    rw [List.lookup_cons]
    by_cases h : j = k
    · subst h; simp
    · have : (j == k) = false := by simpa using h
      rw [this]
      simp only [List.map_cons, List.mem_cons, not_or]
      rw [ih]
      exact ⟨fun z => ⟨h, z⟩, fun z => z.2⟩
end
end Cz
set_option maxHeartbeats 2000000
namespace Cz
open PySem PySem.Spec PyProof.Rows L2
def refD : D → Bool
  | .lst _ => true | .dic _ => true | .obj _ _ _ => true | .dtk _ => true
  | _ => false
theorem refD_ok {K : PySem.W.Frag} {H : Hp} {d : D} {v : V} {f : List Addr} (r : Rep K H d v f) (h : refD d = true) : ∃ a, v = .ref a := by
  cases d with
  | lst ds => cases r; exact ⟨_, rfl⟩
  | dic ds => cases r; exact ⟨_, rfl⟩
  | obj t C ds => cases r; exact ⟨_, rfl⟩
  | dtk ds => cases r; exact ⟨_, rfl⟩
  | _ => cases h
noncomputable def hcM (fn : HFn) (ch : List Nat) (s : SAH) : SM := fun ρ => (s ρ).out ρ fun xs => if (pzH 0 xs).map (·.1) = ch ∧ ((pzH 0 xs).map (·.2.1)).Nodup ∧ (∀ q ∈ (pzH 0 xs).map (·.2.1), q ∉ isH xs) ∧ (pzH 0 xs).all (fun q => refD q.2.2.2) = true then match allH fun t => fn t (xs.map AX.d) with
  | .ok cs d => (match putsAt ρ (pzH 0 xs) cs with
    | some ρ' => .ri ρ' .own d
    | none => .st)
  | .ex c cs => (match putsAt ρ (pzH 0 xs) cs with
    | some ρ' => .ex c ρ'
    | none => .st)
  | .st => .st else .st
structure FnGH (P : Program) (w : World) (K : PySem.W.Frag) (mg : Str → Option Value) (base : Heap) (CA : String → Addr) (fn : HFn) (ch : List Nat) (k : Nat) (x : String) : Prop where
  is : ∃ (f : Addr) (fd : FuncData) (ps : List Str), mg (Str.ofString x) = some (.ref f) ∧ FnOk P w K mg base (L2.CX P w) k f fd ps (spH K CA fn ps.length ch) ∧ PySem.W.keepIn K (.ref f) = true ∧ Binds K fd ps [] ∧ ∀ t as, fn t as ≠ .st → as.length = ps.length
theorem inj_of {α β : Type} {f : α → β} : ∀ {l : List α}, (l.map f).Nodup → ∀ x ∈ l, ∀ y ∈ l, f x = f y → x = y
  | [], _, x, hx, _, _, _ => by simp at hx
  | a :: l, n, x, hx, y, hy, e => by
    rw [List.map_cons, List.nodup_cons] at n
    rcases List.mem_cons.mp hx with hx' | hx'
    · rcases List.mem_cons.mp hy with hy' | hy'
      · rw [hx', hy']
      · exact absurd (List.mem_map.mpr ⟨y, hy', by rw [← e, hx']⟩) n.1
    · rcases List.mem_cons.mp hy with hy' | hy'
      · exact absurd (List.mem_map.mpr ⟨x, hx', by rw [e, hy']⟩) n.1
      · exact inj_of n.2 x hx' y hy' e
theorem putR_of {ρ : Env} {P : Nat → D × List Addr → Prop} : ∀ {pz : List (Nat × (Nat × List Ix × D))} {cs : List D}, pz.length = cs.length → (∀ k x c, ((k, x), c) ∈ pz.zip cs → ∃ d d' f, ρ[x.1]? = some (.ow d) ∧ setP x.2.1 d c = some d' ∧ P x.1 (d', f)) → ∃ T, PutR ρ pz cs T ∧ ∀ j p, (j, p) ∈ T → P j p
  | [], [], _, _ => ⟨[], .nil, fun j p z => by simp at z⟩
  | (k, x) :: r, c :: cs, hl, h => by
    obtain ⟨d, d', f, h1, h2, h3⟩ := h k x c (by simp)
    obtain ⟨T, q1, q2⟩ := putR_of (pz := r) (cs := cs) (by simpa using hl) fun k x c hz => h k x c (by simp only [List.zip_cons_cons]; exact List.mem_cons_of_mem _ hz)
    refine ⟨(x.1, (d', f)) :: T, .cons h1 h2 q1, fun j p z => ?_⟩
    rcases List.mem_cons.mp z with z | z
    · cases z; exact h3
    · exact q2 j p z
  | [], _ :: _, hl, _ => by simp at hl
  | _ :: _, [], hl, _ => by simp at hl
section
variable {K : PySem.W.Frag} {A : Addr → Prop} {H0 H H2 H' : Hp} {F : Nat → List Addr} {G : List (D × V)} {ρ : Env} {σ : L2.St} {xs : List AX} {vs : List V} {f g' : List Addr} {gs gs' : Nat → List Addr} {t : Nat → Nat} {cs : List D} {ch : List Nat}
structure PlH (K : PySem.W.Frag) (H2 : Hp) (F : Nat → List Addr) (ρ : Env) (σ : L2.St) (vs : List V) (k : Nat) (x : Nat × List Ix × D) (g : List Addr) (t : Nat) : Prop where
  is : ∃ v d vj, vs[k]? = some v ∧ ρ[x.1]? = some (.ow d) ∧ σ[x.1]? = some (some vj) ∧ Rep K H2 (.tg t x.2.2) v g ∧ (∀ b ∈ g, b ∈ F x.1) ∧ g.Nodup ∧
    ∀ (H' : Hp) d0' f0', (∀ b o, H2 b = some o → IsT o → H' b = some o) → (∀ b ∈ F x.1, b ∉ g → ∀ o, H2 b = some o → H' b = some o) → Rep K H' d0' v f0' → f0'.Nodup → (∀ b ∈ f0', b ∈ g ∨ b ∉ F x.1) →
      ∃ d' f', setP x.2.1 d d0' = some d' ∧ Rep K H' d' vj f' ∧ f'.Nodup ∧ ∀ b ∈ f', b ∈ f0' ∨ (b ∈ F x.1 ∧ b ∉ g)
theorem plH_of (sr : SR K A H0 F G ρ σ H) (s2 : Same H H2) (at2 : AtH K A H0 F H ρ σ H2 xs vs f) (hr : (pzH 0 xs).all (fun q => refD q.2.2.2) = true) :
    ∃ (gs : Nat → List Addr) (t : Nat → Nat), (∀ k, (∀ x, (k, x) ∉ pzH 0 xs) → gs k = []) ∧ ∀ k x, (k, x) ∈ pzH 0 xs → PlH K H2 F ρ σ vs k x (gs k) (t k) := by
  have one : ∀ k, ∃ gt : List Addr × Nat, ((∀ x, (k, x) ∉ pzH 0 xs) → gt.1 = []) ∧ ∀ x, (k, x) ∈ pzH 0 xs → PlH K H2 F ρ σ vs k x gt.1 gt.2 := fun k => by
    rcases Classical.em (∃ x, (k, x) ∈ pzH 0 xs) with ⟨x, hx⟩ | hn
    · obtain ⟨j, hj, e⟩ := pzH_mem.mp hx
      have : j = k := by omega
      subst this
      have hv : j < vs.length := by rw [← at2.len]; exact (List.getElem?_eq_some_iff.mp e).1
      have p := at2.place e (List.getElem?_eq_getElem hv)
      obtain ⟨d, vj, h1, h2, h3, h4⟩ := p
      obtain ⟨vj', h5, rj⟩ := (sr.same s2).slo _ d h1
      rw [h2] at h5; cases h5
      obtain ⟨v0, f0, k1, k2, k3, k4, k5⟩ := nav_rep rj h3
      rw [h4] at k1; cases k1
      obtain ⟨a, ea⟩ := refD_ok k2 (List.all_eq_true.mp hr (j, x) hx)
      have own := (sr.own x.1).1
      refine ⟨(f0, a + 1), fun z => absurd hx (z x), fun y hy => ?_⟩
      obtain ⟨j', hj', e'⟩ := pzH_mem.mp hy
      have : j' = j := by omega
      subst this
      rw [e] at e'; cases e'
      exact ⟨⟨_, d, vj, List.getElem?_eq_getElem hv, h1, h2, by rw [ea] at k2 ⊢; exact .tg k2 rfl, k3, k4 own, k5 own⟩⟩
    · exact ⟨([], 0), fun _ => rfl, fun x hx => absurd ⟨x, hx⟩ hn⟩
  obtain ⟨gt, h⟩ := Classical.skolem.mp one
  exact ⟨fun k => (gt k).1, fun k => (gt k).2, fun k => (h k).1, fun k => (h k).2⟩
theorem argH_of (sr : SR K A H0 F G ρ σ H) (s2 : Same H H2) (at2 : AtH K A H0 F H ρ σ H2 xs vs f) (hc : (pzH 0 xs).map (·.1) = ch) (hn : ((pzH 0 xs).map (·.2.1)).Nodup) (hq : ∀ q ∈ (pzH 0 xs).map (·.2.1), q ∉ isH xs)
    (h0 : ∀ k, (∀ x, (k, x) ∉ pzH 0 xs) → gs k = []) (hp : ∀ k x, (k, x) ∈ pzH 0 xs → PlH K H2 F ρ σ vs k x (gs k) (t k)) : ArgH K H2 ch t (xs.map AX.d) vs f gs := by
  have inch : ∀ {i}, i ∈ ch → ∃ x, (i, x) ∈ pzH 0 xs := fun {i} hi => by
    rw [← hc] at hi
    obtain ⟨q, h1, h2⟩ := List.mem_map.mp hi
    obtain ⟨k, x⟩ := q
    cases h2
    exact ⟨x, h1⟩
  have getx : ∀ {i x}, (i, x) ∈ pzH 0 xs → xs[i]? = some (.p x) := fun {i x} hx => by
    obtain ⟨j, hj, e⟩ := pzH_mem.mp hx
    rw [show i = j by omega]; exact e
  have sub : ∀ {i a}, a ∈ gs i → ∃ x, (i, x) ∈ pzH 0 xs ∧ a ∈ F x.1 := fun {i a} ha => by
    rcases Classical.em (∃ x, (i, x) ∈ pzH 0 xs) with ⟨x, hx⟩ | z
    · obtain ⟨v, d, vj, _, _, _, _, h5, _⟩ := (hp i x hx).is
      exact ⟨x, hx, h5 a ha⟩
    · rw [h0 i fun x hx => z ⟨x, hx⟩] at ha; cases ha
  refine ⟨by rw [List.length_map]; exact at2.len, fun i hi => ?_, fun i d v hd hv hi => ?_, fun i d v hd hv hi => ?_, fun i => ⟨?_, fun a ha => ?_⟩, fun i j a hi hj => ?_, fun i hi => h0 i fun x hx => hi ?_⟩
  · obtain ⟨x, hx⟩ := inch hi
    rw [List.length_map]
    exact (List.getElem?_eq_some_iff.mp (getx hx)).1
  · obtain ⟨x, hx⟩ := inch hi
    rw [List.getElem?_map, getx hx] at hd
    cases hd
    obtain ⟨v', d, vj, h1, _, _, h4, _⟩ := (hp i x hx).is
    rw [hv] at h1; cases h1
    exact h4
  · rw [List.getElem?_map] at hd
    cases ex : xs[i]? with
    | none => rw [ex] at hd; cases hd
    | some y =>
      rw [ex] at hd
      cases y with
      | v y => cases hd; exact at2.val ex hv
      | p y => exact absurd (by rw [← hc]; exact List.mem_map.mpr ⟨(i, y), pzH_mem.mpr ⟨i, by omega, ex⟩, rfl⟩) hi
  · rcases Classical.em (∃ x, (i, x) ∈ pzH 0 xs) with ⟨x, hx⟩ | z
    · obtain ⟨v, d, vj, _, _, _, _, _, h6, _⟩ := (hp i x hx).is; exact h6
    · rw [h0 i fun x hx => z ⟨x, hx⟩]; exact List.nodup_nil
  · obtain ⟨x, hx, hF⟩ := sub ha
    refine ⟨((sr.own x.1).2 a hF).2.same s2, fun z => ?_⟩
    rcases (at2.bok sr s2).1 a z with ⟨j, hj, q⟩ | q
    · have := sr.dis j x.1 a q hF
      subst this
      exact hq x.1 (List.mem_map.mpr ⟨(i, x), hx, rfl⟩) hj
    · exact q.2 x.1 hF
  · obtain ⟨x, hx, hF⟩ := sub hi
    obtain ⟨y, hy, hF'⟩ := sub hj
    have := inj_of hn _ hx _ hy (sr.dis x.1 y.1 a hF hF')
    exact congrArg Prod.fst this
  · rw [← hc]; exact List.mem_map.mpr ⟨(i, x), hx, rfl⟩
theorem aftH_ok (sr : SR K A H0 F G ρ σ H) (s2 : Same H H2) (at2 : AtH K A H0 F H ρ σ H2 xs vs f) (hc : (pzH 0 xs).map (·.1) = ch) (hn : ((pzH 0 xs).map (·.2.1)).Nodup) (ag : ArgH K H2 ch t (xs.map AX.d) vs f gs)
    (h0 : ∀ k, (∀ x, (k, x) ∉ pzH 0 xs) → gs k = []) (hp : ∀ k x, (k, x) ∈ pzH 0 xs → PlH K H2 F ρ σ vs k x (gs k) (t k)) (sH : Same (hidH H2 (ch.flatMap gs)) H') (aft : AftH K H2 H' ch t cs vs gs gs')
    (cond : ∀ a ∈ g', (InG gs a ∨ H2 a = none) ∧ Mu (H' a) ∧ ∀ i, a ∉ gs' i) :
    ∃ ρ' F', putsAt ρ (pzH 0 xs) cs = some ρ' ∧ SR K A H0 F' G ρ' σ (hidH H' g') ∧ Eff ρ.length F F' H (hidH H' g') := by
  have sub : ∀ {a}, InG gs a → ∃ i x, (i, x) ∈ pzH 0 xs ∧ a ∈ gs i ∧ a ∈ F x.1 := fun {a} ⟨i, ha⟩ => by
    rcases Classical.em (∃ x, (i, x) ∈ pzH 0 xs) with ⟨x, hx⟩ | z
    · obtain ⟨v, d, vj, _, _, _, _, h5, _⟩ := (hp i x hx).is
      exact ⟨i, x, hx, ha, h5 a ha⟩
    · rw [h0 i fun x hx => z ⟨x, hx⟩] at ha; cases ha
  have keep : ∀ {b o}, H2 b = some o → ¬ InG gs b → hidH H' g' b = some o := fun {b o} e nb => by
    rw [hidH_out fun z => ?_]
    · exact sH b o (by rw [hidH_out fun z => nb (ag.inL.mp z)]; exact e)
    · rcases (cond b z).1 with w | w
      · exact nb w
      · rw [w] at e; cases e
  have ht : ∀ b o, H2 b = some o → IsT o → hidH H' g' b = some o := fun b o e tt => keep e fun ⟨i, z⟩ => by
    have := ((ag.own i).2 b z).1.m
    rw [e] at this
    cases o <;> first | exact tt.elim | exact this.elim
  have same1 : ∀ {i x j y a}, (i, x) ∈ pzH 0 xs → (j, y) ∈ pzH 0 xs → a ∈ F x.1 → a ∈ F y.1 → i = j := fun {i x j y a} hx hy h1 h2 => congrArg Prod.fst (inj_of hn _ hx _ hy (sr.dis x.1 y.1 a h1 h2))
  have hlen : (pzH 0 xs).length = cs.length := by rw [aft.len, ← hc, List.length_map]
  obtain ⟨T, pt, hT⟩ := putR_of (ρ := ρ) (P := fun j p => ∃ k x vj, (k, x) ∈ pzH 0 xs ∧ x.1 = j ∧ σ[j]? = some (some vj) ∧ Rep K (hidH H' g') p.1 vj p.2 ∧ p.2.Nodup ∧ ∀ b ∈ p.2, b ∈ gs' k ∨ (b ∈ F j ∧ b ∉ gs k)) hlen fun k x c hz => by
    have hx : (k, x) ∈ pzH 0 xs := (List.of_mem_zip hz).1
    obtain ⟨v, d, vj, h1, h2, h3, h4, h5, h6, h7⟩ := (hp k x hx).is
    have hz2 : (k, c) ∈ ch.zip cs := by
      rw [← hc, List.zip_map_left]
      exact List.mem_map.mpr ⟨((k, x), c), hz, rfl⟩
    have r' := aft.rep k c v hz2 h1
    have r2 : Rep K (hidH H' g') c v (gs' k) := r'.frame (fun b ob e tt => by
      have : b ∉ g' := fun z => by
        have := (cond b z).2.1.m
        rw [e] at this
        cases ob <;> first | exact tt.elim | exact this.elim
      rw [hidH_out this]; exact e) fun b hb ob e => by rw [hidH_out fun z => (cond b z).2.2 k hb]; exact e
    obtain ⟨d', f', e1, e2, e3, e4⟩ := h7 (hidH H' g') c (gs' k) ht (fun b hb hn' o e => keep e fun z => by
      obtain ⟨i, y, hy, hi, hF⟩ := sub z
      have := same1 hy hx hF hb
      subst this
      exact hn' hi) r2 (aft.own k).1 fun b hb => by
        rcases ((aft.own k).2 b hb).1 with z | z
        · obtain ⟨i, y, hy, hi, hF⟩ := sub z
          by_cases hb2 : b ∈ F x.1
          · have := same1 hy hx hF hb2
            subst this
            exact .inl hi
          · exact .inr hb2
        · exact .inr fun w => ((sr.own x.1).2 b w).2.ne (s2.free z)
    exact ⟨d, d', f', h2, e1, k, x, vj, hx, rfl, h3, e2, e3, e4⟩
  have keys := pt.keys
  have nT : (T.map (·.1)).Nodup := by rw [keys]; exact hn
  obtain ⟨ρ', q1, q2, q3, q4, q5⟩ := puts_ok pt nT
  have inS : ∀ {i x}, (i, x) ∈ pzH 0 xs → ∃ p, T.lookup x.1 = some p := fun {i x} hx => by
    cases e : T.lookup x.1 with
    | some p => exact ⟨p, rfl⟩
    | none => exact absurd (by rw [keys]; exact List.mem_map.mpr ⟨(i, x), hx, rfl⟩) (look_none.mp e)
  have fr : ∀ a o, H a = some o → (∀ j p, T.lookup j = some p → a ∉ F j) → hidH H' g' a = some o := fun a o e h => keep (s2 a o e) fun z => by
    obtain ⟨i, y, hy, hi, hF⟩ := sub z
    obtain ⟨p, hp'⟩ := inS hy
    exact h y.1 p hp' hF
  have lt : ∀ {j p}, T.lookup j = some p → j < ρ.length := fun {j p} e => by
    obtain ⟨k, x, vj, hx, hj, _⟩ := hT j p ((look_mem nT).mp e)
    obtain ⟨v, d, vj', _, h2, _⟩ := (hp k x hx).is
    rw [← hj]
    exact (List.getElem?_eq_some_iff.mp h2).1
  have hf : ∀ j p, T.lookup j = some p → ∀ b ∈ p.2, (∃ m q, T.lookup m = some q ∧ b ∈ F m) ∨ H b = none := fun j p e b hb => by
    obtain ⟨k, x, vj, hx, hj, _, _, _, h8⟩ := hT j p ((look_mem nT).mp e)
    rcases h8 b hb with z | z
    · rcases ((aft.own k).2 b z).1 with w | w
      · obtain ⟨i, y, hy, hi, hF⟩ := sub w
        obtain ⟨p', hp'⟩ := inS hy
        exact .inl ⟨y.1, p', hp', hF⟩
      · exact .inr (s2.free w)
    · exact .inl ⟨j, p, e, z.1⟩
  refine ⟨ρ', nwF (fun j => T.lookup j) F, q1, sr.mutHs fr q2 (fun j p e => q3 j p ((look_mem nT).mp e)) (fun j p e => ⟨lt e, ?_⟩) (fun i d e => q4 i d (look_none.mp e)) (fun i is d e => ⟨(q5 i is d e).1, fun j hj => look_none.mpr ((q5 i is d e).2 j hj)⟩)
    (fun j p e => ?_) hf (fun i j p q b e1 e2 h1 h2 => ?_) (fun j p e b hb => ?_) ⟨ρ.length, fun j hj => ?_⟩ (puts_hasT q1), fun j hj => nwF_none ?_, fun a o e h => .inl (fr a o e fun j p ej => h j (lt ej)), fun j hj a ha => ?_⟩
  · obtain ⟨k, x, vj, hx, hj, h3, h4, _⟩ := hT j p ((look_mem nT).mp e)
    exact ⟨vj, h3, h4⟩
  · obtain ⟨k, x, vj, hx, hj, h3, h4, h5, _⟩ := hT j p ((look_mem nT).mp e); exact h5
  · obtain ⟨k, x, vj, hx, hi, _, _, _, h8⟩ := hT i p ((look_mem nT).mp e1)
    obtain ⟨m, y, wj, hy, hj, _, _, _, h9⟩ := hT j q ((look_mem nT).mp e2)
    subst hi
    subst hj
    rcases h8 b h1 with z | z
    · rcases h9 b h2 with w | w
      · have := aft.dis k m b z w
        subst this
        obtain ⟨j1, u1, u2⟩ := pzH_mem.mp hx
        obtain ⟨j2, u3, u4⟩ := pzH_mem.mp hy
        have : j1 = j2 := by omega
        subst this
        rw [u2] at u4; cases u4; rfl
      · rcases ((aft.own k).2 b z).1 with u | u
        · obtain ⟨i, y', hy', hi', hF⟩ := sub u
          have := same1 hy' hy hF w.1
          subst this
          exact absurd hi' w.2
        · exact absurd (s2.free u) ((sr.own y.1).2 b w.1).2.ne
    · rcases h9 b h2 with w | w
      · rcases ((aft.own m).2 b w).1 with u | u
        · obtain ⟨i, y', hy', hi', hF⟩ := sub u
          have := same1 hy' hx hF z.1
          subst this
          exact absurd hi' z.2
        · exact absurd (s2.free u) ((sr.own x.1).2 b z.1).2.ne
      · exact sr.dis _ _ b z.1 w.1
  · obtain ⟨k, x, vj, hx, hj, _, r, _, h8⟩ := hT j p ((look_mem nT).mp e)
    rcases h8 b hb with z | z
    · rw [hidH_out fun w => (cond b w).2.2 k z]; exact ((aft.own k).2 b z).2
    · subst hj
      have m := ((sr.own x.1).2 b z.1).2
      cases eb : H b with
      | none => exact absurd eb m.ne
      | some o =>
        rw [keep (s2 b o eb) fun w => ?_]
        · rw [eb] at m; exact m
        · obtain ⟨i, y', hy', hi', hF⟩ := sub w
          have := same1 hy' hx hF z.1
          subst this
          exact z.2 hi'
  · cases e : T.lookup j with
    | none => rfl
    | some p => have := lt e; omega
  · cases e : T.lookup j with
    | none => rfl
    | some p => have := lt e; omega
  · cases e : T.lookup j with
    | none => rw [nwF_none e] at ha; exact .inl ⟨j, hj, ha⟩
    | some p =>
      rw [nwF_some e] at ha
      exact (hf j p e a ha).imp (fun ⟨m, q, hm, z⟩ => ⟨m, lt hm, z⟩) .inl
end
section
variable {X : Cx} {CA : String → Addr} {W : WX} {fn : HFn} {ch : List Nat} {k : Nat} {x : String} {p pos : Pos} {e : Expr} {es : List Expr} {s : SAH}
theorem hidH_nil (H : Hp) : hidH H [] = H := funext fun a => hidH_out (by simp)
theorem hc_core {A : Addr → Prop} {H0 H H2 : Hp} {F : Nat → List Addr} {G : List (D × V)} {ρ : Env} {σ : L2.St} {Q : VK} {xs : List AX} {vs : List V} {f : List Addr} {n : Nat}
    (sr : SR X.K A H0 F G ρ σ H) (s2 : Same H H2) (at2 : AtH X.K A H0 F H ρ σ H2 xs vs f) (hc : (pzH 0 xs).map (·.1) = ch) (hn : ((pzH 0 xs).map (·.2.1)).Nodup) (hq : ∀ q ∈ (pzH 0 xs).map (·.2.1), q ∉ isH xs) (hr : (pzH 0 xs).all (fun q => refD q.2.2.2) = true)
    (hl : (xs.map AX.d).length = n)
    (h : MOk X.K CA W A H0 F ρ.length G σ H (match allH fun t => fn t (xs.map AX.d) with
      | .ok cs d => (match putsAt ρ (pzH 0 xs) cs with
        | some ρ' => .ri ρ' .own d
        | none => .st)
      | .ex c cs => (match putsAt ρ (pzH 0 xs) cs with
        | some ρ' => .ex c ρ'
        | none => .st)
      | .st => .st) Q) : spH X.K CA fn n ch vs H2 Q (WE W σ) := by
  obtain ⟨gs, t, h0, hp⟩ := plH_of sr s2 at2 hr
  have ag := argH_of sr s2 at2 hc hn hq h0 hp
  refine ⟨t, xs.map AX.d, f, gs, hl, ag, ?_⟩
  cases hall : allH fun t => fn t (xs.map AX.d) with
  | st => rw [hall] at h; exact h.elim
  | ok cs d =>
    have hg := allH_at (f := fun t => fn t (xs.map AX.d)) (by rw [hall]; simp) t
    simp only [hall] at hg h
    rw [hg]
    intro v H' gs' g' sH aft rv nd cond
    obtain ⟨ρ', F', e1, sr', eff⟩ := aftH_ok sr s2 at2 hc hn ag h0 hp sH aft cond
    rw [e1] at h
    exact h v (hidH H' g') H' F' g' sr' eff (same_hid H' g') rv ⟨nd, fun b hb => ⟨hidH_in hb, (cond b hb).2.1⟩⟩
  | ex c cs =>
    have hg := allH_at (f := fun t => fn t (xs.map AX.d)) (by rw [hall]; simp) t
    simp only [hall] at hg h
    rw [hg]
    intro H' gs' sH aft
    obtain ⟨ρ', F', e1, sr', eff⟩ := aftH_ok (g' := []) sr s2 at2 hc hn ag h0 hp sH aft (fun a ha => by simp at ha)
    rw [e1] at h
    rw [hidH_nil] at sr'
    exact h H' F' sr'
theorem m_callH (tk : Takes X W) (hr : Room k X.A) (hf : FnGH X.prog X.w X.K X.mg X.base CA fn ch k x) (ha : PA X (e :: es) (tAH X.K CA W s)) (hg : Gl X (Str.ofString x) := by rfl) (hdb : (Str.ofString x == ("__debug__" : Str)) = false := by decide)
    (he : starEach (e :: es) X.env = (false, eval e X.env) :: starEach es X.env := by rfl) (hpl : (backTo pos (starEach es X.env)).any (·.1) = false := by rfl) : PE X (.Call (.Name (Str.ofString x) p) (e :: es) [] pos) (tM X.K CA W (hcM fn ch s)) := by
  obtain ⟨f, fd, ps, hm, Fn, hk, hb, hz⟩ := hf.is
  refine peI (pe_callSD Fn hr hg hm hk hb .nil (fun σ => passAt tk σ) ha hdb he hpl) fun σ H Q ⟨A, H0, F, G, ρ, sr, h⟩ => ?_
  refine ⟨A, H0, F, G, ρ, sr, (MOk.lift h sr).imp fun xs _ q vs H1 f1 s1 r => ?_⟩
  show spH X.K CA fn ps.length ch (vs ++ []) H1 Q (WE W σ)
  rw [List.append_nil]
  by_cases hh : (pzH 0 xs).map (·.1) = ch ∧ ((pzH 0 xs).map (·.2.1)).Nodup ∧ (∀ q ∈ (pzH 0 xs).map (·.2.1), q ∉ isH xs) ∧ (pzH 0 xs).all (fun q => refD q.2.2.2) = true
  · rw [if_pos hh] at q
    obtain ⟨h1, h2, h3, h4⟩ := hh
    have hl : (xs.map AX.d).length = ps.length := by
      cases hall : allH fun t => fn t (xs.map AX.d) with
      | st => rw [hall] at q; exact q.elim
      | ok cs d => exact hz (fun _ => 0) _ (by rw [allH_at (f := fun t => fn t (xs.map AX.d)) (by rw [hall]; simp) fun _ => 0, hall]; simp)
      | ex c cs => exact hz (fun _ => 0) _ (by rw [allH_at (f := fun t => fn t (xs.map AX.d)) (by rw [hall]; simp) fun _ => 0, hall]; simp)
    exact hc_core sr s1 r h1 h2 h3 h4 hl q
  · rw [if_neg hh] at q; exact q.elim
end
theorem s_ifnM {X : Cx} {CA : String → Addr} {W : WX} {pos p2 : Pos} {e : Expr} {sm : SM} {sa sb : SS} {xs ys : List Stmt} (hc : PE X e (tM X.K CA W sm)) (ha : PSs X xs (tS X.K CA W sa)) (hb : PSs X ys (tS X.K CA W sb)) (he : ∀ whole, isTrue e X.env whole = (do let v ← whole; standAt e.pos; holding [v] (truthy v)) := by intro _; rfl) :
    PS X (.If (.UnaryOp .Not e p2) xs ys pos) (tS X.K CA W (ifM sm sb sa)) := by
  refine psI (ps_if (pt_not (pt_val hc he)) ha hb) fun D σ H ⟨A, H0, F, G, ρ, sr, h⟩ => ⟨A, H0, F, G, ρ, sr, thenM_ok h fun ρ' kk d v Hx H' F' g _ sr' s r o q => ?_⟩
  cases d with
  | bl c =>
    cases r
    refine ⟨c, rfl, ?_⟩
    cases c with
    | true => exact ⟨A, H0, F', G, ρ', sr'.same s, q⟩
    | false => exact ⟨A, H0, F', G, ρ', sr'.same s, q⟩
  | _ => exact q.elim
end Cz
set_option maxHeartbeats 2000000
namespace Cz
open PySem PySem.Spec PyProof.Rows L2
end Cz
set_option maxHeartbeats 4000000
namespace PySem.Spec.L2
end PySem.Spec.L2
namespace Cz
open PySem PySem.Spec PyProof.Rows L2
section
variable {X : Cx} {pos : Pos} {a b c d : Expr}
end
section
variable {X : Cx} {CA : String → Addr} {W : WX} {pos : Pos} {a b c d : Expr} {sa sb sc sd : SE}
end
end Cz
set_option maxHeartbeats 4000000
namespace Cz
open PySem PySem.Spec PyProof.Rows L2
section
variable {X : Cx} {CA : String → Addr} {W : WX} {sp : SPh} {s : SA} {op : MOp} {r : V → List V → Hp → VK → Prop}
variable {T : MT} {pos p2 p3 : Pos} {o e : Expr} {es : List Expr} {name : Str} {id : String}
end
end Cz
set_option maxHeartbeats 2000000
namespace Cz
open PySem PySem.Spec PyProof.Rows L2
section
variable {K : PySem.W.Frag} {H H' : Hp}
end
def wip1 : Sl → Sl
  | .bo is d => if noL d = true then .bo is d else .no
  | .tb => .no
  | s => s
def wipeB (ρ : Env) : Env := ρ.map wip1
theorem wipeB_ow {ρ : Env} {i : Nat} {d : D} (h : (wipeB ρ)[i]? = some (.ow d)) : ρ[i]? = some (.ow d) := by
  unfold wipeB at h
  rw [List.getElem?_map] at h
  cases e : ρ[i]? with
  | none => rw [e] at h; cases h
  | some s =>
    rw [e] at h
    cases s with
    | no => simp [wip1] at h
    | tb => simp [wip1] at h
    | ow d' => simp [wip1] at h; subst h; rfl
    | bo is d' => simp only [wip1, Option.map_some] at h; split at h <;> simp at h
theorem wipeB_bo {ρ : Env} {i : Nat} {is : List Nat} {d : D} (h : (wipeB ρ)[i]? = some (.bo is d)) : ρ[i]? = some (.bo is d) ∧ noL d = true := by
  unfold wipeB at h
  rw [List.getElem?_map] at h
  cases e : ρ[i]? with
  | none => rw [e] at h; cases h
  | some s =>
    rw [e] at h
    cases s with
    | no => simp [wip1] at h
    | tb => simp [wip1] at h
    | ow d' => simp [wip1] at h
    | bo is' d' =>
      simp only [wip1, Option.map_some] at h
      split at h
      · rename_i hn; simp at h; obtain ⟨rfl, rfl⟩ := h; exact ⟨rfl, hn⟩
      · simp at h
theorem hasT_wipe {ρ : Env} (h : hasT (wipeB ρ) = true) : False := by
  obtain ⟨i, e⟩ := hasT_iff.mp h
  unfold wipeB at e
  rw [List.getElem?_map] at e
  cases e2 : ρ[i]? with
  | none => rw [e2] at e; cases e
  | some s =>
    rw [e2] at e
    cases s with
    | bo is d => simp only [wip1, Option.map_some] at e; split at e <;> simp at e
    | _ => simp [wip1] at e
theorem wipeB_own {ρ : Env} {i : Nat} {d : D} (h : ρ[i]? = some (.ow d)) : (wipeB ρ)[i]? = some (.ow d) := by
  unfold wipeB; rw [List.getElem?_map, h]; rfl
section
variable {K : PySem.W.Frag} {A : Addr → Prop} {H0 H : Hp} {F : Nat → List Addr} {G : List (D × V)} {ρ : Env} {σ : L2.St}
open Classical in
noncomputable def lkH (F : Nat → List Addr) (H : Hp) : Hp := fun b => if ∃ j, b ∈ F j then none else H b
theorem lkH_out {F : Nat → List Addr} {H : Hp} {b : Addr} (h : ∀ j, b ∉ F j) : lkH F H b = H b := by unfold lkH; rw [if_neg fun ⟨j, hj⟩ => h j hj]
end
section
variable {X : Cx} {CA : String → Addr} {W : WX} {pos pos' : Pos} {tg : Expr} {tt : Tgt} {sl : List Nat}
end
end Cz
set_option maxHeartbeats 2000000
namespace Cz
open PySem PySem.Spec PyProof.Rows L2
section
variable {K : PySem.W.Frag} {H H' : Hp}
end
section
variable {X : Cx} {CA : String → Addr} {W : WX} {e : Expr} {a : SE}
end
end Cz
set_option maxHeartbeats 2000000
namespace Cz
open PySem PySem.Spec PyProof.Rows L2
end Cz
set_option maxHeartbeats 2000000
namespace Cz
open PySem PySem.Spec PyProof.Rows L2
section
variable {X : Cx} {CA : String → Addr} {W : WX} {pos p tpos : Pos} {e : Expr} {sa : SE} {elts : List Expr} {kk : Nat}
end
end Cz
set_option maxHeartbeats 2000000
namespace Cz
open PySem PySem.Spec PyProof.Rows L2
section
variable {K : PySem.W.Frag} {A : Addr → Prop} {H0 H : Hp} {F : Nat → List Addr} {G : List (D × V)} {ρ : Env} {σ : L2.St}
end
section
variable {X : Cx} {CA : String → Addr} {W : WX} {pos p1 p2 p3 p4 : Pos}
end
end Cz
set_option maxHeartbeats 2000000
namespace Cz
open PySem PySem.Spec PyProof.Rows L2
def OkO (i : Nat) (ds : List D) (L : Nat → Out) (o : Out) : Prop := match o with
  | .nx ρ' => ∃ ρ1 : Env, i < ρ1.length ∧ (∀ t, L t = .nx (ρ1.set i (.bo [] (.tg t (.lst ds))))) ∧ ρ' = (wipeB ρ1).set i (.ow (.lst ds))
  | .ex c ρ' => ∃ ρ1 : Env, i < ρ1.length ∧ (∀ t, L t = .ex c (ρ1.set i (.bo [] (.tg t (.lst ds))))) ∧ ρ' = (wipeB ρ1).set i (.ow (.lst ds))
  | .rt k d => noL d = true ∧ ∀ t, L t = .rt k d
  | _ => False
section
variable {K : PySem.W.Frag} {A : Addr → Prop} {H0 H : Hp} {F : Nat → List Addr} {G : List (D × V)} {ρ : Env} {σ : L2.St}
theorem SR.baseO (sr : SR K A H0 F G ρ σ H) {i : Nat} {F2 : Nat → List Addr} {G2 : List (D × V)} {ρ2 : Env} {σ2 : L2.St} {H2 : Hp} (s2 : SR K (fun _ => True) (lkH (updF F i []) H) F2 G2 ρ2 σ2 H2) : Same H0 H2 := fun b o e => by
  have hb := sr.fr b o e
  refine s2.fr b o ?_
  rw [lkH_out fun j hj => ?_]
  · exact hb
  · by_cases e2 : j = i
    · subst e2; rw [updF_same] at hj; cases hj
    · rw [updF_ne e2] at hj
      rw [((sr.own j).2 b hj).1] at e; cases e
theorem SR.unlockO (sr : SR K A H0 F G ρ σ H) {i : Nat} {ds : List D} {a : Addr} (r : Rep K H (.lst ds) (.ref a) (F i)) {F2 : Nat → List Addr} {G2 : List (D × V)} {ρ1 : Env} {σ2 : L2.St} {H2 : Hp} (hil : i < ρ1.length)
    (s2 : SR K (fun _ => True) (lkH (updF F i []) H) F2 G2 (ρ1.set i (.bo [] (.tg (a + 1) (.lst ds)))) σ2 H2) : SR K A H0 (updF F2 i (F i)) G ((wipeB ρ1).set i (.ow (.lst ds))) σ2 H2 := by
  have out : ∀ b ∈ F i, ∀ j, b ∉ updF F i [] j := fun b hb j hj => by
    by_cases e : j = i
    · subst e; rw [updF_same] at hj; cases hj
    · rw [updF_ne e] at hj; exact e (sr.dis j i b hj hb)
  have base : ∀ b o, H b = some o → (∀ j, j ≠ i → b ∉ F j) → H2 b = some o := fun b o e hj => s2.fr b o (by
    rw [lkH_out fun j hj' => ?_]
    · exact e
    · by_cases e2 : j = i
      · subst e2; rw [updF_same] at hj'; cases hj'
      · rw [updF_ne e2] at hj'; exact hj j e2 hj')
  have inb : ∀ k b, b ∈ F2 k → H b = none ∨ ∃ j, j ≠ i ∧ b ∈ F j := fun k b hb => by
    have n := ((s2.own k).2 b hb).1
    by_cases c : ∃ j, b ∈ updF F i [] j
    · obtain ⟨j, hj⟩ := c
      by_cases e2 : j = i
      · subst e2; rw [updF_same] at hj; cases hj
      · rw [updF_ne e2] at hj; exact .inr ⟨j, e2, hj⟩
    · have c : ∀ j, b ∉ updF F i [] j := fun j hj => c ⟨j, hj⟩
      rw [lkH_out c] at n; exact .inl n
  have iF : ∀ b ∈ F i, ∀ k, b ∉ F2 k := fun b hb k hk => by
    rcases inb k b hk with n | ⟨j, hj, q⟩
    · exact r.trk b hb n
    · exact hj (sr.dis j i b q hb)
  have tupb : ∀ b o, H b = some o → IsT o → H2 b = some o := fun b o e t => base b o e fun j _ hj => by
    have m := ((sr.own j).2 b hj).2.m
    rw [e] at m
    cases o <;> first | exact t.elim | exact m.elim
  have ri : Rep K H2 (.lst ds) (.ref a) (F i) := r.frame tupb fun b hb o e => base b o e fun j hj q => hj (sr.dis j i b q hb)
  have vi : σ2[i]? = some (some (.ref a)) := by
    obtain ⟨v, f, h1, h2, _⟩ := s2.slb i [] (.tg (a + 1) (.lst ds)) (by rw [List.getElem?_set_self hil])
    obtain ⟨_, b, rfl, e⟩ := h2.tgI
    have : b = a := (Nat.succ.inj e).symm
    subst this; exact h1
  refine ⟨?_, sr.baseO s2, fun k => ?_, fun k m b hk hm => ?_, fun k d e => ?_, fun k is d e => ?_, fun p hp => ?_, fun k hk hn => ?_, fin_upd s2.fin, fun z => (hasT_wipe (hasT_set rfl z)).elim⟩
  · have := s2.len
    rw [List.length_set] at this ⊢
    simpa [wipeB] using this
  · by_cases e : k = i
    · subst e
      rw [updF_same]
      refine ⟨(sr.own k).1, fun b hb => ⟨((sr.own k).2 b hb).1, ?_⟩⟩
      have m := ((sr.own k).2 b hb).2
      cases eb : H b with
      | none => exact absurd eb (r.trk b hb)
      | some o =>
        have e2 := base b o eb fun j hj q => hj (sr.dis j k b q hb)
        rw [eb] at m
        rw [e2]; exact m
    · rw [updF_ne e]
      refine ⟨(s2.own k).1, fun b hb => ⟨?_, ((s2.own k).2 b hb).2⟩⟩
      rcases inb k b hb with n | ⟨j, _, q⟩
      · exact sr.fr.free n
      · exact ((sr.own j).2 b q).1
  · by_cases e : k = i
    · by_cases e' : m = i
      · rw [e, e']
      · rw [e, updF_same] at hk; rw [updF_ne e'] at hm
        exact absurd hm (iF b hk m)
    · by_cases e' : m = i
      · rw [e', updF_same] at hm; rw [updF_ne e] at hk
        exact absurd hk (iF b hm k)
      · rw [updF_ne e] at hk; rw [updF_ne e'] at hm
        exact s2.dis k m b hk hm
  · by_cases h : k = i
    · subst h
      rw [List.getElem?_set_self (by simpa [wipeB] using hil)] at e; cases e
      exact ⟨.ref a, vi, by rw [updF_same]; exact ri⟩
    · rw [List.getElem?_set_ne (Ne.symm h)] at e
      rw [updF_ne h]
      exact s2.slo k d (by rw [List.getElem?_set_ne (Ne.symm h)]; exact wipeB_ow e)
  · by_cases h : k = i
    · subst h
      rw [List.getElem?_set_self (by simpa [wipeB] using hil)] at e; cases e
    · rw [List.getElem?_set_ne (Ne.symm h)] at e
      obtain ⟨e1, e3⟩ := wipeB_bo e
      obtain ⟨v, f, h1, h2, h3⟩ := s2.slb k is d (by rw [List.getElem?_set_ne (Ne.symm h)]; exact e1)
      have : f = [] := h2.noL e3
      subst this
      exact ⟨v, [], h1, h2, fun x hx => nomatch hx⟩
  · obtain ⟨f, rp, sh⟩ := sr.gho p hp
    refine ⟨f, rp.frame tupb fun x hx o e => base x o e fun j _ => (sh x hx).2 j, fun x hx => ⟨(sh x hx).1, fun j hj => ?_⟩⟩
    by_cases e : j = i
    · subst e; rw [updF_same] at hj; exact (sh x hx).2 j hj
    · rw [updF_ne e] at hj
      rcases inb j x hj with n | ⟨m, _, q⟩
      · exact rp.trk x hx n
      · exact (sh x hx).2 m q
  · by_cases h : k = i
    · subst h; exact ⟨.lst ds, by rw [List.getElem?_set_self (by simpa [wipeB] using hil)]⟩
    · rw [updF_ne h] at hn
      obtain ⟨d, e⟩ := s2.emp k (by simpa [wipeB] using hk) hn
      rw [List.getElem?_set_ne (Ne.symm h)] at e
      exact ⟨d, by rw [List.getElem?_set_ne (Ne.symm h)]; exact wipeB_own e⟩
theorem OkO.out {CA : String → Addr} {W : WX} {De : Ends} {i : Nat} {ds : List D} {a : Addr} {L : Nat → Out} {o : Out} (ok : OkO i ds L o) (sr : SR K A H0 F G ρ σ H) (r : Rep K H (.lst ds) (.ref a) (F i)) (h : OutOk K CA W A H0 G De o) :
    OutOk K CA W (fun _ => True) (lkH (updF F i []) H) [] De (L (a + 1)) := by
  cases o with
  | nx ρ' =>
    obtain ⟨ρ1, hl, e, rfl⟩ := ok
    rw [e]
    exact fun σ2 H2 F2 s2 => h σ2 H2 _ (sr.unlockO r hl s2)
  | ex c ρ' =>
    obtain ⟨ρ1, hl, e, rfl⟩ := ok
    rw [e]
    exact fun σ2 H2 F2 s2 => h σ2 H2 _ (sr.unlockO r hl s2)
  | rt k d =>
    obtain ⟨hn, e⟩ := ok
    rw [e]
    intro v H2 f sm rp ro
    have : f = [] := rp.noL hn
    subst this
    refine h v H2 [] (fun b o eb => ?_) rp ?_
    · have hb := sr.fr b o eb
      refine sm b o ?_
      rw [lkH_out fun j hj => ?_]
      · exact hb
      · by_cases e2 : j = i
        · subst e2; rw [updF_same] at hj; cases hj
        · rw [updF_ne e2] at hj
          rw [((sr.own j).2 b hj).1] at eb; cases eb
    · cases k with
      | own => exact ⟨List.nodup_nil, fun a ha => nomatch ha⟩
      | bor is => exact fun a ha => nomatch ha
  | bk _ => exact ok.elim
  | ct _ => exact ok.elim
  | st => exact ok.elim
  | ri _ _ _ => exact ok.elim
end
section
variable {X : Cx} {CA : String → Addr} {W : WX} {pos pos' : Pos} {tg : Expr} {tt : Tgt} {sl : List Nat}
end
end Cz
set_option maxHeartbeats 2000000
namespace Cz
open PySem PySem.Spec PyProof.Rows L2
section
variable {K : PySem.W.Frag} {A : Addr → Prop} {H0 H : Hp} {F : Nat → List Addr} {G : List (D × V)} {ρ : Env} {σ : L2.St}
end
section
variable {X : Cx} {CA : String → Addr} {W : WX} {st : Stmt} {s : SS}
end
section
variable {K : PySem.W.Frag}
end
section
variable {X : Cx} {CA : String → Addr} {W : WX} {pos pos1 pos2 tpos : Pos} {o1 i1 o2 i2 e : Expr} {kk : Nat} {se si1 si2 : SE} {sp1 sp2 : SPh}
end
end Cz
set_option maxHeartbeats 2000000
namespace Cz
open PySem PySem.Spec PyProof.Rows L2
section
variable {X : Cx}
end
section
variable {X : Cx} {CA : String → Addr} {W : WX} {pos : Pos} {a b : Expr} {sa sb : SE}
end
end Cz
set_option maxHeartbeats 2000000
namespace Cz
open PySem PySem.Spec PyProof.Rows L2
section
variable {X : Cx} {CA : String → Addr} {W : WX} {pos : Pos}
end
end Cz
set_option maxHeartbeats 2000000
namespace Cz
open PySem PySem.Spec PyProof.Rows L2
def dsv : List (Str × SE) → Env → R (List (Str × D))
  | [], _ => .ok []
  | p :: r, ρ => (p.2 ρ).bind fun y => if ownK (nk y.1 y.2) = true then (dsv r ρ).bind fun ys => .ok ((p.1, y.2) :: ys) else .st
def keysR (ys : List (Str × D)) : List (Key × D) := ys.map fun p => (Sum.inr p.1, p.2)
def dspE (l : List (Str × SE)) : SE := fun ρ => (dsv l ρ).bind fun ys => if ys.length ≤ 15 ∧ (ys.map (·.1)).Nodup then .ok (.own, .dic (keysR ys)) else .st
inductive DsP (X : Cx) (CA : String → Addr) (W : WX) : List (Option Expr) → List Expr → List (Str × SE) → Prop
  | nil : DsP X CA W [] [] []
  | cons {x : Str} {j : Nat} {pos : Pos} {v : Expr} {s : SE} {ks : List (Option Expr)} {vs : List Expr} {l : List (Str × SE)} : PE X v (tE X.K CA W s) → DsP X CA W ks vs l → DsP X CA W (some (.Constant (.str x) j pos) :: ks) (v :: vs) ((x, s) :: l)
def trsD (K : PySem.W.Frag) (CA : String → Addr) (W : WX) (l : List (Str × SE)) : List (TE × TE) := l.map fun p => (tC (.str p.1), tE K CA W p.2)
theorem DsP.pps {X : Cx} {CA : String → Addr} {W : WX} {pos : Pos} {ks : List (Option Expr)} {vs : List Expr} {l : List (Str × SE)} (h : DsP X CA W ks vs l) : PPs X pos ks vs (trsD X.K CA W l) := by
  induction h with
  | nil => exact pps_nil
  | cons a _ ih => exact pps_cons pe_str a ih
theorem mergeK_nd : ∀ (more kvs : List (Key × V)), ((kvs ++ more).map (·.1)).Nodup → mergeK kvs more = kvs ++ more
  | [], kvs, _ => by simp [mergeK]
  | p :: r, kvs, n => by
    have e : putK kvs p.1 p.2 = kvs ++ [p] := by
      unfold putK
      rw [if_neg]
      intro z
      obtain ⟨q, hq, e⟩ := List.any_eq_true.mp z
      rw [List.map_append, List.nodup_append] at n
      exact n.2.2 q.1 (List.mem_map.mpr ⟨q, hq, rfl⟩) p.1 (by simp) (of_decide_eq_true e)
    show mergeK (putK kvs p.1 p.2) r = _
    rw [e, mergeK_nd r (kvs ++ [p]) (by simpa using n)]
    simp
section
variable {K : PySem.W.Frag} {CA : String → Addr} {W : WX} {A : Addr → Prop} {H0 : Hp} {F : Nat → List Addr} {G : List (D × V)} {ρ : Env} {σ : L2.St}
theorem pairsD_ok : ∀ (l : List (Str × SE)) {H : Hp} {ok : List (Str × D) → Prop} {Q : List (V × V) → Hp → Prop}, SR K A H0 F G ρ σ H → Post K CA W σ H (dsv l ρ) ok →
    (∀ ys, ok ys → ∀ H' (kvs : List (Key × V)) f, Same H H' → RepK K H' (keysR ys) kvs f → f.Nodup → (∀ a ∈ f, H a = none ∧ Mu (H' a)) → Q (kvs.map fun kv => (kV kv.1, kv.2)) H') → tPairs (trsD K CA W l) σ H Q
  | [], H, ok, Q, sr, h, k => k [] h H [] [] (Same.refl H) .nil List.nodup_nil fun a ha => nomatch ha
  | (x, s) :: l, H, ok, Q, sr, h, k => by
    show ∃ A H0 F G ρ, SR K A H0 F G ρ σ H ∧ Post K CA W σ H (s ρ) _
    refine ⟨A, H0, F, G, ρ, sr, (show Post K CA W σ H ((s ρ).bind _) ok from h).bind fun ⟨k1, d1⟩ h1 => ?_⟩
    intro v1 H1 f1 s1 r1 o1
    have o2 := KOk.nk r1 o1
    by_cases hk : ownK (nk k1 d1) = true
    case neg => rw [if_neg hk] at h1; exact h1.elim
    rw [if_pos hk] at h1
    rw [ownK_eq hk] at o2
    refine pairsD_ok l (sr.same s1) (ok := fun ys => ok ((x, d1) :: ys)) ((h1.later s1).bind fun ys h2 => h2) fun ys hy H' kvs f s2 r2 n2 m2 => ?_
    refine k _ hy H' ((.inr x, v1) :: kvs) (f1 ++ f) (s1.trans s2) (.cons (r1.same s2) r2) (List.nodup_append.mpr ⟨o2.1, n2, fun a ha b hb e => ?_⟩) fun a ha => ?_
    · subst e; exact r1.trk a ha (m2 a hb).1
    · rcases List.mem_append.mp ha with ha | ha
      · exact ⟨(o2.2 a ha).1, (o2.2 a ha).2.same s2⟩
      · exact ⟨s1.free (m2 a ha).1, (m2 a ha).2⟩
end
theorem e_dsp {X : Cx} {CA : String → Addr} {W : WX} {pos : Pos} {ks : List (Option Expr)} {vs : List Expr} {l : List (Str × SE)} (h : DsP X CA W ks vs l) (h0 : ks ≠ [] := by exact fun z => nomatch z) (h15 : ks.length ≤ 15 := by exact Nat.le_of_ble_eq_true rfl)
    (hall : ks.all (·.isSome) = true := by rfl) (hl : ks.length = vs.length := by rfl) : PE X (.Dict ks vs pos) (tE X.K CA W (dspE l)) := by
  refine peI (pe_disp h.pps hall hl h0 h15) fun σ H Q ⟨A, H0, F, G, ρ, sr, h⟩ p np => ?_
  have sp := same_upd (o := .dK []) np
  refine pairsD_ok l (sr.same sp) (ok := fun ys => ys.length ≤ 15 ∧ (ys.map (·.1)).Nodup ∧ Cont X.K A H0 F H (.own, .dic (keysR ys)) Q) ?_ fun ys hy H' kvs f s2 r2 n2 m2 => ?_
  · refine (Post.bind h fun ys h2 => ?_).later sp
    split at h2
    · rename_i hc; exact ⟨hc.1, hc.2, h2⟩
    · exact h2.elim
  · obtain ⟨h1, h2, q⟩ := hy
    have nd : ((keysR ys).map (·.1)).Nodup := by
      have : (keysR ys).map (·.1) = (ys.map (·.1)).map Sum.inr := by unfold keysR; rw [List.map_map, List.map_map]; rfl
      rw [this]
      exact List.Pairwise.map _ (fun a b h z => h (Sum.inr.inj z)) h2
    have nv : (kvs.map (·.1)).Nodup := by rw [r2.keys]; exact nd
    have lv : kvs.length ≤ 15 := by
      have := congrArg List.length r2.keys
      rw [List.length_map, List.length_map] at this
      rw [this]; unfold keysR; rw [List.length_map]; exact h1
    have hp : H' p = some (.dK []) := s2 p _ upd_same
    have pf : p ∉ f := fun z => by have := (m2 p z).1; rw [upd_same] at this; cases this
    refine ⟨hp, kvs, rfl, lv, ?_⟩
    rw [mergeK_nd kvs [] (by simpa using nv), List.nil_append]
    refine q (.ref p) _ (p :: f) (fun b o e => ?_) (.dic upd_same nd (r2.frame (fun b o e t => ?_) fun b hb o e => ?_)) ⟨List.nodup_cons.mpr ⟨pf, n2⟩, fun b hb => ?_⟩
    · have : b ≠ p := fun z => by rw [z, np] at e; cases e
      rw [upd_ne this]; exact s2 b o (by rw [upd_ne this]; exact e)
    · have : b ≠ p := fun z => by rw [z, hp] at e; cases e; exact t.elim
      rw [upd_ne this]; exact e
    · have : b ≠ p := fun z => pf (z ▸ hb)
      rw [upd_ne this]; exact e
    · rcases List.mem_cons.mp hb with e | hb
      · subst e; exact ⟨np, ⟨by rw [upd_same]; trivial⟩⟩
      · have : b ≠ p := fun z => pf (z ▸ hb)
        have := (m2 b hb).1
        rw [upd_ne ‹b ≠ p›] at this
        exact ⟨this, ⟨by rw [upd_ne ‹b ≠ p›]; exact (m2 b hb).2.mx⟩⟩
section
variable {X : Cx} {CA : String → Addr} {W : WX} {o e f : Expr} {apos cpos : Pos} {sa sb sc : SE}
theorem isD_dic {K : PySem.W.Frag} {H : Hp} {kvs : List (Key × D)} {v : V} {f : List Addr} (r : Rep K H (.dic kvs) v f) : ∃ a, v = .ref a ∧ IsD H a := by
  cases r with
  | dic q _ _ => exact ⟨_, rfl, .inl ⟨_, .inl q⟩⟩
end
section
variable {X : Cx} {CA : String → Addr} {W : WX} {o e f : Expr} {pos p1 p2 apos cpos : Pos} {sa sb sc : SE}
end
end Cz
set_option maxHeartbeats 2000000
namespace Cz
open PySem PySem.Spec PyProof.Rows L2
def dropD (kvs : List (Key × D)) (k : Key) : List (Key × D) := kvs.filter fun kv => decide (kv.1 ≠ k)
def dpopS (p : SPh) (b : SE) : SS := fun ρ => (p ρ).out ρ fun x => match x.2.2 with
  | .dic kvs => (b ρ).out ρ fun y => (match keyD y.2 with
    | some k => (match valD kvs k with
      | some _ => (match putAt ρ x (.dic (dropD kvs k)) with
        | some ρ' => .nx ρ'
        | none => .st)
      | none => .st)
    | none => .st)
  | _ => .st
def dpop2S (p : SPh) (b c : SE) : SS := fun ρ => (p ρ).out ρ fun x => match x.2.2 with
  | .dic kvs => (b ρ).out ρ fun y => (c ρ).out ρ fun _ => (match keyD y.2 with
    | some k => (match valD kvs k with
      | some _ => (match putAt ρ x (.dic (dropD kvs k)) with
        | some ρ' => .nx ρ'
        | none => .st)
      | none => .nx ρ)
    | none => .st)
  | _ => .st
section
variable {K : PySem.W.Frag} {H Hb : Hp}
theorem RepK.drop : ∀ {kds : List (Key × D)} {kvs : List (Key × V)} {f : List Addr} (k : Key), RepK K H kds kvs f → ∃ g, RepK K H (dropD kds k) (dropK kvs k) g ∧ (∀ b ∈ g, b ∈ f) ∧ (f.Nodup → g.Nodup)
  | _, _, _, _, .nil => ⟨[], .nil, by simp, by simp⟩
  | _, _, _, k, .cons (k := q) (f := f) (ds := ds) (vs := vs) (d := d) (v := v) r t => by
    obtain ⟨g, h1, h2, h3⟩ := RepK.drop k t
    by_cases e : q = k
    · refine ⟨g, ?_, fun b hb => List.mem_append_right _ (h2 b hb), fun n => h3 (List.nodup_append.mp n).2.1⟩
      have e1 : dropD ((q, d) :: ds) k = dropD ds k := by unfold dropD; rw [List.filter_cons_of_neg (by simp [e])]
      have e2 : dropK ((q, v) :: vs) k = dropK vs k := by unfold dropK; rw [List.filter_cons_of_neg (by simp [e])]
      rw [e1, e2]; exact h1
    · refine ⟨f ++ g, ?_, fun b hb => ?_, fun n => ?_⟩
      · have e1 : dropD ((q, d) :: ds) k = (q, d) :: dropD ds k := by unfold dropD; rw [List.filter_cons_of_pos (by simp [e])]
        have e2 : dropK ((q, v) :: vs) k = (q, v) :: dropK vs k := by unfold dropK; rw [List.filter_cons_of_pos (by simp [e])]
        rw [e1, e2]; exact .cons r h1
      · rcases List.mem_append.mp hb with z | z
        · exact List.mem_append_left _ z
        · exact List.mem_append_right _ (h2 b z)
      · obtain ⟨n1, n2, n3⟩ := List.nodup_append.mp n
        exact List.nodup_append.mpr ⟨n1, h3 n2, fun a ha b hb => n3 a ha b (h2 b hb)⟩
theorem dropD_nodup {kds : List (Key × D)} {k : Key} (n : (kds.map (·.1)).Nodup) : ((dropD kds k).map (·.1)).Nodup := (List.filter_sublist.map _).nodup n
theorem dic_put {a : Addr} {kvs kvs' : List (Key × V)} {kds' : List (Key × D)} {f1 g : List Addr} (hl : H a = some (.dK kvs)) (nf : (a :: f1).Nodup) (m : ∀ b ∈ a :: f1, Hb b ≠ none ∧ Mu (H b)) (nk : (kds'.map (·.1)).Nodup) (r : RepK K H kds' kvs' g) (ng : g.Nodup) (hg : ∀ b ∈ g, b ∈ f1) :
    Rep K (upd H a (.dK kvs')) (.dic kds') (.ref a) (a :: g) ∧ (a :: g).Nodup ∧ (∀ b ∈ a :: g, b ∈ a :: f1 ∨ Hb b = none) ∧ ∀ b ∈ a :: g, Mu ((upd H a (.dK kvs')) b) := by
  have n1 := List.nodup_cons.mp nf
  have na : ∀ b ∈ g, b ≠ a := fun b hb e => n1.1 (e ▸ hg b hb)
  refine ⟨.dic upd_same nk (r.frame (fun b o e t => ?_) fun b hb o e => by rw [upd_ne (na b hb)]; exact e), List.nodup_cons.mpr ⟨fun z => na a z rfl, ng⟩, fun b hb => ?_, fun b hb => ?_⟩
  · have : b ≠ a := fun z => by rw [z, hl] at e; cases e; exact t.elim
    rw [upd_ne this]; exact e
  · rcases List.mem_cons.mp hb with e | hb
    · exact .inl (e ▸ List.mem_cons_self)
    · exact .inl (List.mem_cons_of_mem _ (hg b hb))
  · rcases List.mem_cons.mp hb with e | hb
    · rw [e]; exact ⟨by rw [upd_same]; trivial⟩
    · rw [upd_ne (na b hb)]; exact (m b (List.mem_cons_of_mem _ (hg b hb))).2
end
section
variable {X : Cx} {CA : String → Addr} {W : WX} {o e f : Expr} {pos p2 p3 : Pos} {sp : SPh} {sb sc : SE}
theorem s_dpop (ho : PE X o (tP CA W X.K sp)) (he : PE X e (tE X.K CA W sb)) (hs : swapsWith (.Call (.Attribute o "pop" p2) [e] [] p3) none pos.line X.env = pure false := by rfl)
    (m : M1 X o "pop" p2 e p3 := by exact ⟨by rfl, by rfl, by rfl, by rfl⟩) : PS X (.Expr (.Call (.Attribute o "pop" p2) [e] [] p3) pos) (tS X.K CA W (dpopS sp sb)) := by
  refine psI (ps_expr (pe_dpop1 ho he m) hs) fun D σ H ⟨A, H0, F, G, ρ, sr, h⟩ => ?_
  refine ⟨A, H0, F, G, ρ, sr, (lift h sr).imp fun x _ q v H1 s1 at1 => ?_⟩
  obtain ⟨f0, r0, _⟩ := at1.open sr s1
  cases hx : x.2.2 with
  | dic kds =>
    rw [hx] at q r0
    obtain ⟨a, ea, id⟩ := isD_dic r0
    refine ⟨a, ea, id, A, H0, F, G, ρ, sr.same s1, (lift q (sr.same s1)).imp fun y _ q2 w H2 f2 s2 r2 o2 => ?_⟩
    cases hk : keyD y.2 with
    | none => simp only [hk] at q2; exact q2.elim
    | some k =>
      simp only [hk] at q2
      cases hd : valD kds k with
      | none => simp only [hd] at q2; exact q2.elim
      | some d =>
        simp only [hd] at q2
        have at2 := at1.same s2
        obtain ⟨f0, r0, n0, m0, wr⟩ := at2.open (sr.same s1) s2
        rw [hx] at r0
        cases r0 with
        | @dic a' kvs _ f1 hl nk rs =>
        cases ea
        have ev := keyD_rep r2 hk
        subst ev
        obtain ⟨vm, _, _, _, hv, _⟩ := rs.at nk hd
        obtain ⟨g, h3, h4, h5⟩ := rs.drop k
        obtain ⟨e1, e2, e3, e4⟩ := dic_put hl n0 m0 (dropD_nodup nk) h3 (h5 (List.nodup_cons.mp n0).2) h4
        refine ⟨kvs, k, vm, hl, rfl, hv, ?_⟩
        obtain ⟨ρ', F', e5, sr'⟩ := wr a (.dK (dropK kvs k)) _ _ rfl (by simp) trivial e1 e2 e3 e4
        rw [e5] at q2
        exact q2 σ _ F' sr'
  | _ => rw [hx] at q; exact q.elim
theorem s_dpop2 (ho : PE X o (tP CA W X.K sp)) (he : PE X e (tE X.K CA W sb)) (hf : PE X f (tE X.K CA W sc)) (hs : swapsWith (.Call (.Attribute o "pop" p2) [e, f] [] p3) none pos.line X.env = pure false := by rfl)
    (m : M2 X o "pop" p2 e f p3 := by exact ⟨by rfl, by rfl, by rfl, by rfl⟩) : PS X (.Expr (.Call (.Attribute o "pop" p2) [e, f] [] p3) pos) (tS X.K CA W (dpop2S sp sb sc)) := by
  refine psI (ps_expr (pe_dpop2 ho he hf m) hs) fun D σ H ⟨A, H0, F, G, ρ, sr, h⟩ => ?_
  refine ⟨A, H0, F, G, ρ, sr, (lift h sr).imp fun x _ q v H1 s1 at1 => ?_⟩
  obtain ⟨f0, r0, _⟩ := at1.open sr s1
  cases hx : x.2.2 with
  | dic kds =>
    rw [hx] at q r0
    obtain ⟨a, ea, id⟩ := isD_dic r0
    refine ⟨a, ea, id, A, H0, F, G, ρ, sr.same s1, (lift q (sr.same s1)).imp fun y _ q2 w H2 f2 s2 r2 o2 => ?_⟩
    refine ⟨A, H0, F, G, ρ, sr.same (s1.trans s2), (lift q2 (sr.same (s1.trans s2))).imp fun z _ q3 w3 H3 f3 s3 r3 o3 => ?_⟩
    have s23 := s2.trans s3
    cases hk : keyD y.2 with
    | none => simp only [hk] at q3; exact q3.elim
    | some k =>
      simp only [hk] at q3
      have at3 := at1.same s23
      obtain ⟨f0, r0, n0, m0, wr⟩ := at3.open (sr.same s1) s23
      rw [hx] at r0
      cases r0 with
      | @dic a' kvs _ f1 hl nk rs =>
      cases ea
      have ev := keyD_rep r2 hk
      subst ev
      cases hd : valD kds k with
      | none =>
        simp only [hd] at q3
        have hv : valV kvs k = none := by
          rcases rs.val k with ⟨_, z⟩ | ⟨d, _, _, z, _⟩
          · exact z
          · rw [hd] at z; cases z
        exact ⟨kvs, k, hl, rfl, (fun v' z => by rw [hv] at z; cases z), fun _ => q3 σ H3 F (sr.same (s1.trans s23))⟩
      | some d =>
        simp only [hd] at q3
        obtain ⟨vm, _, _, _, hv, _⟩ := rs.at nk hd
        obtain ⟨g, h3, h4, h5⟩ := rs.drop k
        obtain ⟨e1, e2, e3, e4⟩ := dic_put hl n0 m0 (dropD_nodup nk) h3 (h5 (List.nodup_cons.mp n0).2) h4
        refine ⟨kvs, k, hl, rfl, fun v' _ => ?_, fun z => by rw [hv] at z; cases z⟩
        obtain ⟨ρ', F', e5, sr'⟩ := wr a (.dK (dropK kvs k)) _ _ rfl (by simp) trivial e1 e2 e3 e4
        rw [e5] at q3
        exact q3 σ _ F' sr'
  | _ => rw [hx] at q; exact q.elim
end
def rRemS : V → List V → Hp → VK → Prop := fun x xs H Q => ∃ (l : Addr) (ns : List Str) (k : Str) (j : Nat), x = .ref l ∧ xs = [.str k] ∧ H l = some (.lst (ns.map V.str)) ∧ ns[j]? = some k ∧ (∀ m : Nat, m < j → ns[m]? ≠ some k) ∧ Q .non (upd H l (.lst ((ns.eraseIdx j).map V.str)))
theorem Vals.atS : ∀ {ns : List Str} {us : List Value} {m : Nat} {z : Str}, Vals (ns.map V.str) us → ns[m]? = some z → ∃ t, us[m]? = some (.str z t)
  | _ :: _, _, 0, z, .cons r h, e => by obtain ⟨t, rfl⟩ := r; simp at e; subst e; exact ⟨t, rfl⟩
  | _ :: _, _, m + 1, z, .cons r h, e => by
    obtain ⟨t, e'⟩ := Vals.atS (m := m) h (by simpa using e)
    exact ⟨t, by simpa using e'⟩
  | [], _, m, z, _, e => by simp at e
theorem mt_removeS {X : Cx} : MtM X "list.remove" rRemS := by
  intro pins s σ H x xs v us Q I rx rxs h
  obtain ⟨l, ns, k, j, rfl, rfl, hH, hj, hno, q⟩ := h
  cases rx
  obtain ⟨u, rfl, ru⟩ := rxs.one
  obtain ⟨t, rfl⟩ := ru
  obtain ⟨z, its, n, r, hl, e⟩ := I.lstM hH
  rw [List.length_map] at hl z
  have hjn : j < ns.length := (List.getElem?_eq_some_iff.mp hj).1
  have hjl : j < its.toArray.size := by rw [List.size_toArray]; omega
  refine call_meets PySem.F.slot_list_remove ⟨_, e, rfl⟩ PySem.F.entry_list_remove (PySem.F.args_list_remove_2 _ _)
    (MeetsSeq.list_remove l its.toArray n (.str k t) (eqkS k) (fun y hy => eqkS_gives r y (by simpa using hy)) j hjl ?_ ?_ (by rw [List.size_toArray]; omega)) ⟨e, ?_⟩
  · obtain ⟨tj, hjt⟩ := Vals.atS r hj
    obtain ⟨h1, h2⟩ := List.getElem?_eq_some_iff.mp hjt
    have e1 : its.toArray[j] = .str k tj := by simpa using h2
    rw [e1]
    exact beq_self_eq_true _
  · intro m hm hmj
    have hmn : m < ns.length := by omega
    obtain ⟨tm, hmt⟩ := Vals.atS r (List.getElem?_eq_getElem hmn)
    obtain ⟨h1, h2⟩ := List.getElem?_eq_some_iff.mp hmt
    have e1 : its.toArray[m] = .str ns[m] tm := by simpa using h2
    rw [e1]
    show (ns[m].cps.toList == k.cps.toList) = false
    rw [str_bq]
    refine beq_eq_false_iff_ne.mpr fun e2 => hno m hmj ?_
    rw [List.getElem?_eq_getElem hmn, e2]
  · have rr := r.eraseIdx j
    have em : (ns.map V.str).eraseIdx j = (ns.eraseIdx j).map V.str := by
      rw [List.eraseIdx_eq_take_drop_succ, List.eraseIdx_eq_take_drop_succ]; simp
    rw [em] at rr
    refine ⟨.non, _, I.lset (its' := its.eraseIdx j) (t' := s.toks) hH e ?_ rr ?_, rfl, q⟩
    · show its.toArray.eraseIdxIfInBounds j = (its.eraseIdx j).toArray
      rw [List.eraseIdxIfInBounds_toArray]
    · have z2 := List.length_eraseIdx_le ns j
      rw [List.length_map]
      omega
def opRemS : MOp := fun d xs => match d, xs with
  | .lst ds, [(_, .str z)] => (strsD ds).bind fun ys => if z ∈ ys then some (.non, .lst (ds.eraseIdx (ys.idxOf z))) else none
  | _, _ => none
theorem ok_remS {K : PySem.W.Frag} : MtOk K opRemS rRemS := by
  intro A H0 Hb H F d0 v f0 g xs vs y Q r0 n0 m0 rs os ho k
  unfold opRemS at ho
  split at ho
  · rename_i ds kk z
    cases hi : strsD ds with
    | none => rw [hi] at ho; cases ho
    | some ys =>
      rw [hi] at ho
      simp only [Option.bind_some] at ho
      split at ho
      · rename_i hz
        cases ho
        have ed := strsD_eq hi
        subst ed
        cases r0 with
        | @lst a vs0 _ f1 hl q0 =>
        obtain ⟨w, rfl, rw'⟩ := rs.one (d := .str z) rfl
        cases rw'
        have n2 := List.nodup_cons.mp n0
        obtain ⟨g2, h3, h4, h5⟩ := q0.eraseIdx (ys.idxOf z)
        have ev := q0.strs_inv
        subst ev
        have em : ((ys.map V.str).eraseIdx (ys.idxOf z)) = (ys.eraseIdx (ys.idxOf z)).map V.str := by
          rw [List.eraseIdx_eq_take_drop_succ, List.eraseIdx_eq_take_drop_succ]; simp
        obtain ⟨e1, e2, e3, e4⟩ := lst_put (Hb := Hb) hl n0 m0 h3 (h5 n2.2) fun b hb => .inl (h4 b hb)
        have hlt := List.idxOf_lt_length_iff.mpr hz
        refine ⟨a, ys, z, ys.idxOf z, rfl, rfl, hl, ?_, fun m hm hm2 => ?_, ?_⟩
        · rw [List.getElem?_eq_getElem hlt]; simp
        · obtain ⟨h6, h7⟩ := List.getElem?_eq_some_iff.mp hm2
          have := List.not_of_lt_findIdx (p := (· == z)) (xs := ys) hm
          simp [h7] at this
        · rw [← em]; exact k a _ _ .non rfl List.mem_cons_self trivial e1 e2 e3 e4 .non
      · cases ho
  · cases ho
section
variable {X : Cx} {CA : String → Addr} {W : WX} {o : Expr} {pos p2 p3 : Pos} {so : SE}
end
end Cz
set_option maxHeartbeats 2000000
namespace Cz
open PySem PySem.Spec PyProof.Rows L2
inductive OL where
  | ok (ρ : Env) (xs : List KD) | ex (c : Ec) (ρ : Env) | st
abbrev SAM := Env → OL
def AOk (K : PySem.W.Frag) (CA : String → Addr) (W : WX) (A : Addr → Prop) (H0 : Hp) (F : Nat → List Addr) (n : Nat) (G : List (D × V)) (σ : L2.St) (H : Hp) (o : OL) (Q : List V → Hp → Prop) : Prop := match o with
  | .ok ρ xs => ∀ vs Hx H' F' f, SR K A H0 F' G ρ σ Hx → Eff n F F' H Hx → Same Hx H' → Reps K H' (xs.map (·.2)) vs f → KOk A H0 F' Hx H' (jn xs) f → Q vs H'
  | .ex c ρ => ∀ H' F', SR K A H0 F' G ρ σ H' → WxOk K CA c (fun cls od => W cls od σ) H'
  | .st => False
def tAM (K : PySem.W.Frag) (CA : String → Addr) (W : WX) (s : SAM) : TA := fun σ H Q => ∃ A H0 F G ρ, SR K A H0 F G ρ σ H ∧ AOk K CA W A H0 F ρ.length G σ H (s ρ) Q
def OL.outM (o : OL) (f : Env → List KD → Out) : Out := match o with
  | .ok ρ xs => f ρ xs
  | .ex c ρ => .ex c ρ
  | .st => .st
def OL.more (o : OL) (f : Env → List KD → OL) : OL := match o with
  | .ok ρ xs => f ρ xs
  | .ex c ρ => .ex c ρ
  | .st => .st
def pA (s : SA) : SAM := fun ρ => match s ρ with
  | .ok xs => .ok ρ xs
  | .ex c => .ex c ρ
  | .st => .st
def cvA (m : SM) (s : SAM) : SAM := fun ρ => match m ρ with
  | .ri ρ1 k d => if noL d = true then (s ρ1).more fun ρ2 xs => .ok ρ2 ((.own, d) :: xs) else if ownK k = true then (s ρ1).more fun ρ2 xs => if bosOk ρ2 = true then .ok ρ2 ((.own, d) :: xs) else .st else .st
  | .ex c ρ1 => .ex c ρ1
  | _ => .st
def clA (m : SM) : SAM := fun ρ => match m ρ with
  | .ri ρ1 k d => .ok ρ1 [(k, d)]
  | .ex c ρ1 => .ex c ρ1
  | _ => .st
def tupM (s : SAM) : SM := fun ρ => (s ρ).outM fun ρ' xs => if xs.length ≤ LIM then .ri ρ' (jn xs) (.tup (xs.map (·.2))) else .st
def lstM (s : SAM) : SM := fun ρ => (s ρ).outM fun ρ' xs => if xs.length ≤ LIM then .ri ρ' (lk (jn xs) (xs.map (·.2))) (.lst (xs.map (·.2))) else .st
def callM (fn : Fn) (s : SAM) : SM := fun ρ => (s ρ).outM fun ρ' xs => match fn (xs.map (·.2)) with
  | .ok kd => .ri ρ' (retK kd.1 (jn xs)) kd.2
  | .ex c => .ex c ρ'
  | .st => .st
section
variable {K : PySem.W.Frag} {CA : String → Addr} {W : WX} {A : Addr → Prop} {H0 H H1 Hx : Hp} {F F1 F2 : Nat → List Addr} {G : List (D × V)} {ρ ρ1 : Env} {σ : L2.St} {n : Nat} {Q : List V → Hp → Prop} {QV : VK}
theorem AOk.imp {o : OL} {Q' : List V → Hp → Prop} (h : AOk K CA W A H0 F n G σ H o Q) (k : ∀ v H, Q v H → Q' v H) : AOk K CA W A H0 F n G σ H o Q' := by
  cases o with
  | ok ρ xs => exact fun v Hx H' F' f sr e1 s2 r o => k _ _ (h v Hx H' F' f sr e1 s2 r o)
  | ex c ρ => exact h
  | st => exact h.elim
theorem outM_ok {o : OL} {f : Env → List KD → Out} (h : MOk K CA W A H0 F n G σ H (o.outM f) QV)
    (k : ∀ ρ' xs vs Hx H' F' g, o = .ok ρ' xs → SR K A H0 F' G ρ' σ Hx → Eff n F F' H Hx → Same Hx H' → Reps K H' (xs.map (·.2)) vs g → KOk A H0 F' Hx H' (jn xs) g → MOk K CA W A H0 F n G σ H (f ρ' xs) QV → Q vs H') : AOk K CA W A H0 F n G σ H o Q := by
  cases o with
  | ok ρ' xs => exact fun vs Hx H' F' g sr e s r o => k ρ' xs vs Hx H' F' g rfl sr e s r o h
  | ex c ρ' => exact h
  | st => exact h.elim
theorem more_ok {o : OL} {f : Env → List KD → OL} {Q' : List V → Hp → Prop} {n' : Nat} {F' : Nat → List Addr} {H' : Hp} (h : AOk K CA W A H0 F n G σ H (o.more f) Q)
    (k : ∀ ρ2 xs, o = .ok ρ2 xs → AOk K CA W A H0 F n G σ H (f ρ2 xs) Q → AOk K CA W A H0 F' n' G σ H' (.ok ρ2 xs) Q') : AOk K CA W A H0 F' n' G σ H' o Q' := by
  cases o with
  | ok ρ2 xs => exact k ρ2 xs rfl h
  | ex c ρ2 => exact h
  | st => exact h.elim
theorem SR.hideN {L : Nat} {f : List Addr} (sr : SR K A H0 F G ρ σ Hx) (s : Same Hx H1) (nf : f.Nodup) (hf : ∀ a ∈ f, Hx a = none ∧ Mu (H1 a)) (hL : ρ.length ≤ L) (hF : F L = []) : SR K A H0 (updF F L f) G ρ σ H1 := by
  have sr1 := sr.same s
  have nF : ∀ j a, a ∈ F j → a ∉ f := fun j a h z => ((sr.own j).2 a h).2.ne (hf a z).1
  have shU : ∀ {a}, Hx a ≠ none → Sh A H0 F a → Sh A H0 (updF F L f) a := fun {a} hn h => ⟨h.1, fun j hj => by
    by_cases e : j = L
    · subst e; rw [updF_same] at hj; exact hn (hf a hj).1
    · rw [updF_ne e] at hj; exact h.2 j hj⟩
  refine ⟨sr.len, sr1.fr, fun i => ?_, fun i j a hi hj => ?_, fun i d e => ?_, fun i is d e => ?_, fun p hp => ?_, fun i hi hn => ?_, fin_upd sr.fin, sr1.tb⟩
  · by_cases e : i = L
    · subst e; rw [updF_same]; exact ⟨nf, fun a ha => ⟨sr.fr.free (hf a ha).1, (hf a ha).2⟩⟩
    · rw [updF_ne e]; exact sr1.own i
  · by_cases ei : i = L
    · by_cases ej : j = L
      · rw [ei, ej]
      · rw [ei, updF_same] at hi; rw [updF_ne ej] at hj; exact absurd hi (nF j a hj)
    · by_cases ej : j = L
      · rw [updF_ne ei] at hi; rw [ej, updF_same] at hj; exact absurd hj (nF i a hi)
      · rw [updF_ne ei] at hi; rw [updF_ne ej] at hj; exact sr.dis i j a hi hj
  · obtain ⟨v, h1, h2⟩ := sr1.slo i d e
    have hi : i ≠ L := by have := (List.getElem?_eq_some_iff.mp e).1; omega
    exact ⟨v, h1, by rw [updF_ne hi]; exact h2⟩
  · obtain ⟨v, g, h1, h2, h3⟩ := sr.slb i is d e
    refine ⟨v, g, h1, h2.same s, fun a ha => ?_⟩
    rcases h3 a ha with ⟨j, hj, q⟩ | q
    · have : j ≠ L := fun e => by rw [e, hF] at q; cases q
      exact .inl ⟨j, hj, by rw [updF_ne this]; exact q⟩
    · exact .inr (shU (h2.trk a ha) q)
  · obtain ⟨g, h1, h2⟩ := sr.gho p hp
    exact ⟨g, h1.same s, fun a ha => shU (h1.trk a ha) (h2 a ha)⟩
  · have hi' : i ≠ L := by omega
    rw [updF_ne hi'] at hn
    exact sr.emp i hi hn
theorem SR.unhideN {L : Nat} {f : List Addr} (sr : SR K A H0 F G ρ σ H) (hF : F L = f) (hL : ρ.length ≤ L) (hb : bosOk ρ = true) : SR K A H0 (updF F L []) G ρ σ (hidH H f) := by
  subst hF
  have mu := (sr.own L).2
  have nt : ∀ b o, H b = some o → IsT o → (hidH H (F L)) b = some o := fun b o e t => by
    have : b ∉ F L := fun z => by
      have m := (mu b z).2.m
      rw [e] at m
      cases o <;> first | exact t.elim | exact m.elim
    rw [hidH_out this]; exact e
  have kp : ∀ {g : List Addr}, (∀ b ∈ g, b ∉ F L) → ∀ b ∈ g, ∀ o, H b = some o → (hidH H (F L)) b = some o := fun {g} hg b hb o e => by rw [hidH_out (hg b hb)]; exact e
  have nF : ∀ j, j ≠ L → ∀ a ∈ F j, a ∉ F L := fun j hj a ha z => hj (sr.dis j L a ha z)
  have shU : ∀ {a}, Sh A H0 F a → Sh A H0 (updF F L []) a := fun {a} h => ⟨h.1, fun j hj => by
    by_cases e : j = L
    · subst e; rw [updF_same] at hj; cases hj
    · rw [updF_ne e] at hj; exact h.2 j hj⟩
  refine ⟨sr.len, fun b o e => ?_, fun i => ?_, fun i j a hi hj => ?_, fun i d e => ?_, fun i is d e => ?_, fun p hp => ?_, fun i hi hn => ?_, fin_upd sr.fin, sr.tbS id fun b o e t => by
    rw [hidH_out fun z => sr.teF z e t]; exact e⟩
  · have : b ∉ F L := fun z => by rw [(mu b z).1] at e; cases e
    rw [hidH_out this]; exact sr.fr b o e
  · by_cases e : i = L
    · subst e; rw [updF_same]; exact ⟨List.nodup_nil, fun a ha => nomatch ha⟩
    · rw [updF_ne e]
      refine ⟨(sr.own i).1, fun a ha => ⟨((sr.own i).2 a ha).1, ?_⟩⟩
      rw [hidH_out (nF i e a ha)]; exact ((sr.own i).2 a ha).2
  · have up : ∀ {j a}, a ∈ updF F L [] j → a ∈ F j := fun {j a} h => by
      by_cases e : j = L
      · subst e; rw [updF_same] at h; cases h
      · rw [updF_ne e] at h; exact h
    exact sr.dis i j a (up hi) (up hj)
  · obtain ⟨v, h1, h2⟩ := sr.slo i d e
    have hi : i ≠ L := by have := (List.getElem?_eq_some_iff.mp e).1; omega
    exact ⟨v, h1, by rw [updF_ne hi]; exact h2.frame nt (kp (nF i hi))⟩
  · obtain ⟨v, g, h1, h2, h3⟩ := sr.slb i is d e
    have hLi := bosOk_get hb e hL
    have hg : ∀ b ∈ g, b ∉ F L := fun b hb z => by
      rcases h3 b hb with ⟨j, hj, q⟩ | q
      · exact nF j (fun e => hLi (by rw [← e]; exact hj)) b q z
      · exact q.2 L z
    refine ⟨v, g, h1, h2.frame nt (kp hg), fun a ha => ?_⟩
    rcases h3 a ha with ⟨j, hj, q⟩ | q
    · have hjL : j ≠ L := fun e => hLi (by rw [← e]; exact hj)
      exact .inl ⟨j, hj, by rw [updF_ne hjL]; exact q⟩
    · exact .inr (shU q)
  · obtain ⟨g, h1, h2⟩ := sr.gho p hp
    exact ⟨g, h1.frame nt (kp fun b hb z => (h2 b hb).2 L z), fun a ha => shU (h2 a ha)⟩
  · have hi' : i ≠ L := by omega
    rw [updF_ne hi'] at hn
    exact sr.emp i hi hn
theorem Eff.tups (sr : SR K A H0 F G ρ σ H) (e : Eff n F F1 H Hx) : ∀ b o, H b = some o → IsT o → Hx b = some o := fun b o eb t => (e.fr b o eb fun j _ z => by
  have m := ((sr.own j).2 b z).2.m
  rw [eb] at m
  cases o <;> first | exact t.elim | exact m.elim).eq t.ne
end
section
variable {X : Cx} {CA : String → Addr} {W : WX} {pos p2 : Pos} {e : Expr} {es : List Expr} {sm : SM} {s : SA} {sa : SAM}
theorem am_pure (h : PA X es (tA X.K CA W s)) : PA X es (tAM X.K CA W (pA s)) := by
  refine ⟨fun pos pins s' σ H Q I ⟨A, H0, F, G, ρ, sr, hq⟩ => h.run pos pins s' σ H Q I ⟨A, H0, F, G, ρ, sr, ?_⟩⟩
  unfold pA at hq
  cases e : s ρ with
  | ok xs => rw [e] at hq; exact fun vs H' f s r o => hq vs H H' F f sr (Eff.of (Same.refl _)) s r o
  | ex c => rw [e] at hq; exact fun H' s => hq H' F (sr.same s)
  | st => rw [e] at hq; exact hq.elim
theorem am_last (ha : PE X e (tM X.K CA W sm)) (hs : starEach [e] X.env = [(false, eval e X.env)] := by rfl) : PA X [e] (tAM X.K CA W (clA sm)) := by
  refine ⟨fun pos pins s' σ H Q I ⟨A, H0, F, G, ρ, sr, hq⟩ => (pa_cons ha pa_nil hs).run pos pins s' σ H Q I ⟨A, H0, F, G, ρ, sr, ?_⟩⟩
  unfold clA at hq
  cases e : sm ρ with
  | ri ρ1 k d =>
    rw [e] at hq
    intro v Hx H' F' f sr' ef s r o
    refine hq [v] Hx H' F' f sr' ef s (by have := Reps.cons r (Reps.nil (K := X.K) (H := H')); rw [List.append_nil] at this; exact this) ?_
    show KOk A H0 F' Hx H' ((nk k d).join .own) f
    rw [Kd.join_own]
    exact KOk.nk r o
  | ex c ρ1 => rw [e] at hq; exact hq
  | nx _ => rw [e] at hq; exact hq.elim
  | rt _ _ => rw [e] at hq; exact hq.elim
  | bk _ => rw [e] at hq; exact hq.elim
  | ct _ => rw [e] at hq; exact hq.elim
  | st => rw [e] at hq; exact hq.elim
theorem am_cv (ha : PE X e (tM X.K CA W sm)) (hr : PA X es (tAM X.K CA W sa)) (hs : starEach (e :: es) X.env = (false, eval e X.env) :: starEach es X.env := by rfl) : PA X (e :: es) (tAM X.K CA W (cvA sm sa)) := by
  refine ⟨fun pos pins s' σ H Q I ⟨A, H0, F, G, ρ, sr, hq⟩ => (pa_cons ha hr hs).run pos pins s' σ H Q I ⟨A, H0, F, G, ρ, sr, ?_⟩⟩
  unfold cvA at hq
  cases em : sm ρ with
  | ri ρ1 k d =>
    rw [em] at hq
    intro v1 Hx1 H1 F1 f1 sr1 ef1 s1 r1 o1
    by_cases hz : noL d = true
    · have hq : AOk X.K CA W A H0 F ρ.length G σ H ((sa ρ1).more fun ρ2 xs => .ok ρ2 ((.own, d) :: xs)) Q := by simpa only [hz, if_true] using hq
      have := r1.noL hz
      subst this
      have srm := sr1.same s1
      refine ⟨A, H0, F1, G, ρ1, srm, more_ok hq fun ρ2 xs _ hq2 => ?_⟩
      intro vs Hx H' F' f sr' ef s r o
      have hlen : ρ1.length = ρ.length := by rw [sr1.len, sr.len]
      rw [hlen] at ef
      refine hq2 (v1 :: vs) Hx H' F' ([] ++ f) sr' (ef1.trans (ef.later s1)) s (.cons ((r1.frame (ef.tups srm) (fun a ha => nomatch ha)).same s) r) ?_
      show KOk A H0 F' Hx H' ((nk .own d).join (jn xs)) ([] ++ f)
      have : nk .own d = .own := by unfold nk; split <;> rfl
      rw [this]
      cases hj : jn xs with
      | own => rw [hj] at o; exact o
      | bor is => rw [hj] at o; exact o
    · by_cases hk : ownK k = true
      case neg =>
        have hq : AOk X.K CA W A H0 F ρ.length G σ H .st Q := by simpa only [hz, hk, if_false, Bool.false_eq_true] using hq
        exact hq.elim
      have hq9 : AOk X.K CA W A H0 F ρ.length G σ H ((sa ρ1).more fun ρ2 xs => if bosOk ρ2 = true then .ok ρ2 ((.own, d) :: xs) else .st) Q := by simpa only [hz, hk, if_false, if_true, Bool.false_eq_true] using hq
      have := ownK_eq hk
      subst this
      have hlen : ρ1.length = ρ.length := by rw [sr1.len, sr.len]
      obtain ⟨L0, hL0⟩ := sr1.fin
      obtain ⟨L, hLe⟩ : ∃ L, L = max L0 ρ.length := ⟨_, rfl⟩
      have hFL : F1 L = [] := hL0 L (by omega)
      have hFL0 : F L = [] := by rw [← ef1.hid L (by omega)]; exact hFL
      have srh := sr1.hideN s1 o1.1 o1.2 (L := L) (by omega) hFL
      refine ⟨A, H0, _, G, ρ1, srh, more_ok hq9 fun ρ2 xs _ hq2 => ?_⟩
      by_cases hb : bosOk ρ2 = true
      case neg =>
        have hq2 : AOk X.K CA W A H0 F ρ.length G σ H .st Q := by simpa only [hb, if_false, Bool.false_eq_true] using hq2
        exact hq2.elim
      have hq2 : AOk X.K CA W A H0 F ρ.length G σ H (.ok ρ2 ((.own, d) :: xs)) Q := by simpa only [hb, if_true] using hq2
      intro vs Hx2 H2 F2 f2 sr2 ef2 s2 r2 o2
      rw [hlen] at ef2
      have hF2 : F2 L = f1 := by rw [ef2.hid L (by omega), updF_same]
      have hl2 : ρ2.length = ρ.length := by rw [sr2.len, sr.len]
      have own1 := sr2.own L
      rw [hF2] at own1
      have nF1 : ∀ j a, a ∈ F1 j → a ∉ f1 := fun j a h z => ((sr1.own j).2 a h).2.ne (o1.2 a z).1
      have vis1 : ∀ {j a}, j < ρ.length → a ∈ updF F1 L f1 j → a ∈ F1 j := fun {j a} hj h => by rw [updF_ne (by omega)] at h; exact h
      have srf := sr2.unhideN hF2 (by omega) hb
      refine hq2 (v1 :: vs) (hidH Hx2 f1) H2 (updF F2 L []) (f1 ++ f2) srf ⟨fun j hj => ?_, fun a o e h => ?_, fun j hj a ha => ?_⟩ ((same_hid Hx2 f1).trans s2) (.cons ((r1.frame (ef2.tups srh) fun a ha o e => ?_).same s2) r2) ?_
      · by_cases e : j = L
        · rw [e, updF_same, hFL0]
        · rw [updF_ne e, ef2.hid j hj, updF_ne e, ef1.hid j hj]
      · rcases Classical.em (∃ ps, o = HO.tbl ps) with t | t
        · exact .inr t
        have h1 := (ef1.fr a o e h).eq t
        have nf1 : a ∉ f1 := fun z => by rw [(o1.2 a z).1] at h1; cases h1
        rw [hidH_out nf1]
        refine ef2.fr a o (s1 a o h1) fun j hj z => ?_
        rcases ef1.vis j hj a (vis1 hj z) with ⟨i, hi, w⟩ | w
        · exact h i hi w
        · exact w.no e t
      · have hjL : j ≠ L := by omega
        rw [updF_ne hjL] at ha
        rcases ef2.vis j hj a ha with ⟨i, hi, w⟩ | w
        · exact ef1.vis i hi a (vis1 hi w)
        · rcases Classical.em (∃ i, i < ρ.length ∧ a ∈ F i) with z | z
          · exact .inl z
          · right
            cases e : H a with
            | none => exact .inl rfl
            | some o => exact ((ef1.fr a o e fun i hi q => z ⟨i, hi, q⟩).same fun o1 e1 => s1 a o1 e1).back w
      · exact (ef2.fr a o e fun j hj z => nF1 j a (vis1 hj z) ha).eq fun ⟨ps, q⟩ => by have m := (o1.2 a ha).2; rw [e, q] at m; exact m.not trivial
      · have nd2 : ∀ a ∈ f1, Hx2 a ≠ none := fun a ha => (own1.2 a ha).2.ne
        show KOk A H0 (updF F2 L []) (hidH Hx2 f1) H2 ((nk .own d).join (jn xs)) (f1 ++ f2)
        have : nk .own d = .own := by unfold nk; split <;> rfl
        rw [this]
        have sh : ∀ {a}, a ∈ f1 → Sh A H0 (updF F2 L []) a := fun {a} ha => ⟨.inr (own1.2 a ha).1, fun j hj => by
          by_cases e : j = L
          · rw [e, updF_same] at hj; cases hj
          · rw [updF_ne e] at hj; exact e (sr2.dis j L a hj (by rw [hF2]; exact ha))⟩
        cases hj : jn xs with
        | own =>
          rw [hj] at o2
          refine ⟨List.nodup_append.mpr ⟨o1.1, o2.1, fun a ha b hb e => ?_⟩, fun a ha => ?_⟩
          · subst e; exact nd2 a ha (o2.2 a hb).1
          · rcases List.mem_append.mp ha with ha | ha
            · exact ⟨hidH_in ha, ((own1.2 a ha).2).same s2⟩
            · have : a ∉ f1 := fun z => nd2 a z (o2.2 a ha).1
              exact ⟨by rw [hidH_out this]; exact (o2.2 a ha).1, (o2.2 a ha).2⟩
        | bor is =>
          rw [hj] at o2
          intro a ha
          rcases List.mem_append.mp ha with ha | ha
          · exact .inr (sh ha)
          · by_cases hf : a ∈ f1
            · exact .inr (sh hf)
            · rcases o2 a ha with ⟨j, hj', q⟩ | q
              · have hjL : j ≠ L := fun e => by rw [e, hF2] at q; exact hf q
                exact .inl ⟨j, by simpa [Kd.is] using hj', by rw [updF_ne hjL]; exact q⟩
              · exact .inr ⟨q.1, fun j hj => by
                  by_cases e : j = L
                  · rw [e, updF_same] at hj; cases hj
                  · rw [updF_ne e] at hj; exact q.2 j hj⟩
  | ex c ρ1 => rw [em] at hq; exact hq
  | nx _ => rw [em] at hq; exact hq.elim
  | rt _ _ => rw [em] at hq; exact hq.elim
  | bk _ => rw [em] at hq; exact hq.elim
  | ct _ => rw [em] at hq; exact hq.elim
  | st => rw [em] at hq; exact hq.elim
theorem m_tup {x1} (h : PA X es (tAM X.K CA W sa)) : PE X (.Tuple es x1 pos) (tM X.K CA W (tupM sa)) := by
  refine peI (pe_tup h) fun σ H Q ⟨A, H0, F, G, ρ, sr, hq⟩ => ⟨A, H0, F, G, ρ, sr, outM_ok hq fun ρ' xs vs Hx H' F' g _ sr' ef s r o q => ?_⟩
  by_cases hz : xs.length ≤ LIM
  case neg =>
    rw [if_neg hz] at q; exact q.elim
  rw [if_pos hz] at q
  refine ⟨by rw [← r.length, List.length_map, ← lim_eq]; exact hz, fun p np => ?_⟩
  exact q _ Hx _ F' g sr' ef (s.trans (same_upd np)) (.tup upd_same (r.same (same_upd np))) (o.wide (Same.refl _) (same_upd np))
theorem m_callA {fn : Fn} {k : Nat} {x : String} {p : Pos} (tk : Takes X W) (hr : Room k X.A) (hf : FnIs X CA fn k x []) (ha : PA X (e :: es) (tAM X.K CA W sa)) (hg : Gl X (Str.ofString x) := by rfl) (hdb : (Str.ofString x == ("__debug__" : Str)) = false := by decide)
    (he : starEach (e :: es) X.env = (false, eval e X.env) :: starEach es X.env := by rfl) (hpl : (backTo pos (starEach es X.env)).any (·.1) = false := by rfl) : PE X (.Call (.Name (Str.ofString x) p) (e :: es) [] pos) (tM X.K CA W (callM fn sa)) := by
  obtain ⟨f, fd, ps, dvs, ds, hm, Fn, hk, hb, hd, hdd, hz⟩ := hf.is
  refine peI (pe_callSD Fn hr hg hm hk hb hd (fun σ => passAt tk σ) ha hdb he hpl) fun σ H Q ⟨A, H0, F, G, ρ, sr, hq⟩ => ⟨A, H0, F, G, ρ, sr, outM_ok hq fun ρ' xs vs Hx H' F' g _ sr' ef s r o q => ?_⟩
  have hp : Post X.K CA W σ Hx ((fn (xs.map (·.2) ++ [])).bind fun kd => .ok (retK kd.1 (jn xs), kd.2)) fun kd => Cont X.K A H0 F' Hx kd Q := by
    rw [List.append_nil]
    cases ef' : fn (xs.map (·.2)) with
    | ok kd => rw [ef'] at q; exact fun v H2 f2 s2 r2 o2 => q v Hx H2 F' f2 sr' ef s2 r2 o2
    | ex c => rw [ef'] at q; exact fun H2 s2 => q H2 F' (sr'.same s2)
    | st => rw [ef'] at q; exact q.elim
  refine call_ok sr' s r o (hdd H') ?_ (hp.later s)
  have r2 := r.app (hdd H')
  rw [← r2.length]
  refine hz _ fun z => ?_
  rw [z] at hp
  exact hp
end
end Cz
set_option maxHeartbeats 2000000
namespace Cz
open PySem PySem.Spec PyProof.Rows L2
def TOk (K : PySem.W.Frag) (CA : String → Addr) (W : WX) (A : Addr → Prop) (H0 : Hp) (F : Nat → List Addr) (n : Nat) (G : List (D × V)) (σ : L2.St) (H : Hp) (o : Out) (Q : Bool → Hp → Prop) : Prop := match o with
  | .ri ρ _ (.bl b) => ∀ Hx H' F', SR K A H0 F' G ρ σ Hx → Eff n F F' H Hx → Same Hx H' → Q b H'
  | .ex c ρ => ∀ H' F', SR K A H0 F' G ρ σ H' → WxOk K CA c (fun cls od => W cls od σ) H'
  | _ => False
def tTM (K : PySem.W.Frag) (CA : String → Addr) (W : WX) (s : SM) : TT := fun σ H Q => ∃ A H0 F G ρ, SR K A H0 F G ρ σ H ∧ TOk K CA W A H0 F ρ.length G σ H (s ρ) Q
def mT (t : STs) : SM := fun ρ => (t ρ).out ρ fun b => .ri ρ .own (.bl b)
def thB (o : Out) (f : Env → Bool → Out) : Out := o.thenM fun ρ _ d => match d with
  | .bl b => f ρ b
  | _ => .st
def notM (s : SM) : SM := fun ρ => thB (s ρ) fun ρ1 b => .ri ρ1 .own (.bl (!b))
def andM (s r : SM) : SM := fun ρ => thB (s ρ) fun ρ1 b => if b = true then r ρ1 else .ri ρ1 .own (.bl false)
def iteM (s a b : SM) : SM := fun ρ => thB (s ρ) fun ρ1 t => if t = true then a ρ1 else b ρ1
section
variable {K : PySem.W.Frag} {CA : String → Addr} {W : WX} {A : Addr → Prop} {H0 H Hx H' : Hp} {F F' : Nat → List Addr} {G : List (D × V)} {ρ : Env} {σ : L2.St} {n : Nat} {Q : Bool → Hp → Prop} {QV : VK}
theorem TOk.step {o : Out} (h : TOk K CA W A H0 F n G σ H o Q) (e : Eff n F F' H Hx) (s : Same Hx H') : TOk K CA W A H0 F' n G σ H' o Q := by
  cases o with
  | ri ρ k d =>
    cases d with
    | bl b => exact fun Hx2 H2 F2 sr e2 s2 => h Hx2 H2 F2 sr (e.trans (e2.later s)) s2
    | _ => exact h.elim
  | ex c ρ => exact h
  | _ => exact h.elim
theorem MOk.step {o : Out} (h : MOk K CA W A H0 F n G σ H o QV) (e : Eff n F F' H Hx) (s : Same Hx H') : MOk K CA W A H0 F' n G σ H' o QV := by
  cases o with
  | ri ρ k d => exact fun v Hx2 H2 F2 f sr e2 s2 r o => h v Hx2 H2 F2 f sr (e.trans (e2.later s)) s2 r o
  | ex c ρ => exact h
  | _ => exact h.elim
theorem TOk.lift {α : Type} {r : R α} {f : α → Out} (h : TOk K CA W A H0 F n G σ H (r.out ρ f) Q) (sr : SR K A H0 F G ρ σ H) : Post K CA W σ H r fun a => TOk K CA W A H0 F n G σ H (f a) Q := by
  cases r with
  | ok a => exact h
  | ex c => exact fun H' s => h H' F (sr.same s)
  | st => exact h.elim
theorem thB_ok {o : Out} {f : Env → Bool → Out} {Q' : Bool → Hp → Prop} (h : TOk K CA W A H0 F n G σ H (thB o f) Q)
    (k : ∀ ρ' b Hx H' F', SR K A H0 F' G ρ' σ Hx → Eff n F F' H Hx → Same Hx H' → TOk K CA W A H0 F n G σ H (f ρ' b) Q → Q' b H') : TOk K CA W A H0 F n G σ H o Q' := by
  cases o with
  | ri ρ' kk d =>
    cases d with
    | bl b => exact fun Hx H' F' sr e s => k ρ' b Hx H' F' sr e s h
    | _ => exact h.elim
  | ex c ρ' => exact h
  | _ => exact h.elim
theorem thB_okM {o : Out} {f : Env → Bool → Out} {Q' : Bool → Hp → Prop} (h : MOk K CA W A H0 F n G σ H (thB o f) QV)
    (k : ∀ ρ' b Hx H' F', SR K A H0 F' G ρ' σ Hx → Eff n F F' H Hx → Same Hx H' → MOk K CA W A H0 F n G σ H (f ρ' b) QV → Q' b H') : TOk K CA W A H0 F n G σ H o Q' := by
  cases o with
  | ri ρ' kk d =>
    cases d with
    | bl b => exact fun Hx H' F' sr e s => k ρ' b Hx H' F' sr e s h
    | _ => exact h.elim
  | ex c ρ' => exact h
  | _ => exact h.elim
end
section
variable {X : Cx} {CA : String → Addr} {W : WX} {pos p2 : Pos} {a b c : Expr} {rest : List Expr} {sm sa sb : SM} {ta : STs} {se : SE}
theorem tm_pure (h : PT X a (tT X.K CA W ta)) : PT X a (tTM X.K CA W (mT ta)) := by
  refine ptI h fun σ H Q ⟨A, H0, F, G, ρ, sr, h⟩ => ⟨A, H0, F, G, ρ, sr, (TOk.lift h sr).imp fun b _ q H' s => ?_⟩
  exact q H H' F sr (Eff.of (Same.refl _)) s
theorem tm_val (h : PE X a (tM X.K CA W sm)) (he : ∀ whole, isTrue a X.env whole = (do let v ← whole; standAt a.pos; holding [v] (truthy v)) := by intro _; rfl) : PT X a (tTM X.K CA W sm) := by
  refine ptI (pt_val h he) fun σ H Q ⟨A, H0, F, G, ρ, sr, h⟩ => ⟨A, H0, F, G, ρ, sr, ?_⟩
  cases e : sm ρ with
  | ri ρ' k d =>
    rw [e] at h
    cases d with
    | bl b =>
      intro v Hx H' F' f sr' ef s r o
      cases r
      exact ⟨b, rfl, h Hx H' F' sr' ef s⟩
    | _ => exact h.elim
  | ex c ρ' => rw [e] at h; exact h
  | nx _ => rw [e] at h; exact h.elim
  | rt _ _ => rw [e] at h; exact h.elim
  | bk _ => rw [e] at h; exact h.elim
  | ct _ => rw [e] at h; exact h.elim
  | st => rw [e] at h; exact h.elim
theorem tm_not (h : PT X a (tTM X.K CA W sm)) : PT X (.UnaryOp .Not a pos) (tTM X.K CA W (notM sm)) := by
  refine ptI (pt_not h) fun σ H Q ⟨A, H0, F, G, ρ, sr, h⟩ => ⟨A, H0, F, G, ρ, sr, thB_ok h fun ρ' b Hx H' F' sr' ef s q => ?_⟩
  exact q Hx H' F' sr' ef s
theorem s_ifT {s1 s2 : SS} {xs ys : List Stmt} (hc : PT X c (tTM X.K CA W sm)) (ha : PSs X xs (tS X.K CA W s1)) (hb : PSs X ys (tS X.K CA W s2)) : PS X (.If c xs ys pos) (tS X.K CA W (ifM sm s1 s2)) := by
  refine psI (ps_if hc ha hb) fun D σ H ⟨A, H0, F, G, ρ, sr, h⟩ => ⟨A, H0, F, G, ρ, sr, ?_⟩
  unfold ifM at h
  cases e : sm ρ with
  | ri ρ' k d =>
    rw [e] at h
    cases d with
    | bl b =>
      intro Hx H' F' sr' ef s
      cases b with
      | true => exact ⟨A, H0, F', G, ρ', sr'.same s, h⟩
      | false => exact ⟨A, H0, F', G, ρ', sr'.same s, h⟩
    | _ => exact h.elim
  | ex c ρ' => rw [e] at h; exact fun H' F' sr' => h σ H' F' sr'
  | nx _ => rw [e] at h; exact h.elim
  | rt _ _ => rw [e] at h; exact h.elim
  | bk _ => rw [e] at h; exact h.elim
  | ct _ => rw [e] at h; exact h.elim
  | st => rw [e] at h; exact h.elim
theorem m_ite (hc : PT X c (tTM X.K CA W sm)) (ha : PE X a (tM X.K CA W sa)) (hb : PE X b (tM X.K CA W sb)) : PE X (.IfExp c a b pos) (tM X.K CA W (iteM sm sa sb)) := by
  refine peI (pe_ifExp hc ha hb) fun σ H Q ⟨A, H0, F, G, ρ, sr, h⟩ => ⟨A, H0, F, G, ρ, sr, thB_okM h fun ρ' t Hx H' F' sr' ef s q => ?_⟩
  have hl : ρ'.length = ρ.length := by rw [sr'.len, sr.len]
  cases t with
  | true => exact ⟨A, H0, F', G, ρ', sr'.same s, by rw [hl]; exact q.step ef s⟩
  | false => exact ⟨A, H0, F', G, ρ', sr'.same s, by rw [hl]; exact q.step ef s⟩
end
end Cz
set_option maxHeartbeats 2000000
namespace Cz
open PySem PySem.Spec PyProof.Rows L2
section
variable {K : PySem.W.Frag} {A : Addr → Prop} {H0 H : Hp} {F : Nat → List Addr} {G : List (D × V)} {ρ : Env} {σ : L2.St}
end
def untE (x i : Nat) (q : List Ix) (ρ : Env) : Option Env := match ρ[i]?, ρ[x]? with
  | some (.ow D), some (.bo _ _) => (match getP q D with
    | some (.tg _ d) => (setP q D d).map fun D' => (ρ.set i (.ow D')).set x .no
    | _ => none)
  | _, _ => none
def Out.unt (x i : Nat) (q : List Ix) (o : Out) : Out := match o with
  | .nx ρ => (match untE x i q ρ with
    | some ρ' => .nx ρ'
    | none => .st)
  | .bk ρ => (match untE x i q ρ with
    | some ρ' => .bk ρ'
    | none => .st)
  | .ct ρ => (match untE x i q ρ with
    | some ρ' => .ct ρ'
    | none => .st)
  | .ex c ρ => (match untE x i q ρ with
    | some ρ' => .ex c ρ'
    | none => .st)
  | .ri ρ k d => (match untE x i q ρ with
    | some ρ' => if ownK k = true then .ri ρ' k d else .st
    | none => .st)
  | .rt k d => .rt k d
  | .st => .st
section
variable {K : PySem.W.Frag} {CA : String → Addr} {W : WX} {A : Addr → Prop} {H0 H : Hp} {F : Nat → List Addr} {G : List (D × V)} {ρ : Env} {σ : L2.St}
end
section
variable {X : Cx} {CA : String → Addr} {W : WX} {pos pos' : Pos} {e : Expr} {sp : SPh}
end
end Cz
set_option maxHeartbeats 2000000
namespace Cz
open PySem PySem.Spec PyProof.Rows L2
section
variable {K : PySem.W.Frag} {A : Addr → Prop} {H0 H : Hp} {F : Nat → List Addr} {G : List (D × V)} {ρ : Env} {σ : L2.St}
end
section
variable {X : Cx} {CA : String → Addr} {W : WX} {pos : Pos} {tg iter : Expr} {tt : Tgt} {sl : List Nat} {sp : SPh}
end
end Cz
set_option maxHeartbeats 2000000
namespace Cz
open PySem PySem.Spec PyProof.Rows L2
section
variable {K : PySem.W.Frag} {H H' : Hp}
mutual
theorem Rep.ntb : ∀ {d : D} {v : V} {f : List Addr}, Rep K H d v f → ∀ a ∈ f, ∀ ps, H a ≠ some (.tbl ps)
  | _, _, _, .tup _ r, a, ha => Reps.ntb r a ha
  | _, _, _, .lst q r, a, ha => by
    rcases List.mem_cons.mp ha with e | ha
    · subst e; rw [q]; exact fun ps z => nomatch z
    · exact Reps.ntb r a ha
  | _, _, _, .scr _ r, a, ha => Reps.ntb r a ha
  | _, _, _, .dic q n r, a, ha => by
    rcases List.mem_cons.mp ha with e | ha
    · subst e; rw [q]; exact fun ps z => nomatch z
    · exact RepK.ntb r a ha
  | _, _, _, .obj q c n r _, a, ha => by
    rcases List.mem_cons.mp ha with e | ha
    · subst e; rw [q]; exact fun ps z => nomatch z
    · exact RepK.ntb r a ha
  | _, _, _, .sob _ _ _ _, a, ha => nomatch ha
  | _, _, _, .fdc _ _ _, a, ha => nomatch ha
  | _, _, _, .exv _ _, a, ha => nomatch ha
  | _, _, _, .nod _, a, ha => nomatch ha
  | _, _, _, .tg r _, a, ha => Rep.ntb r a ha
  | _, _, _, .hol _, a, ha => nomatch ha
  | _, _, _, .dtk q n r, a, ha => by
    rcases List.mem_cons.mp ha with e | ha
    · subst e; rw [q]; exact fun ps z => nomatch z
    · exact RepK.ntb r a ha
theorem Reps.ntb : ∀ {d : List D} {v : List V} {f : List Addr}, Reps K H d v f → ∀ a ∈ f, ∀ ps, H a ≠ some (.tbl ps)
  | _, _, _, .cons r t, a, ha => by
    rcases List.mem_append.mp ha with ha | ha
    · exact Rep.ntb r a ha
    · exact Reps.ntb t a ha
theorem RepK.ntb : ∀ {κ : Type} {d : List (κ × D)} {v : List (κ × V)} {f : List Addr}, RepK K H d v f → ∀ a ∈ f, ∀ ps, H a ≠ some (.tbl ps)
  | _, _, _, _, .cons r t, a, ha => by
    rcases List.mem_append.mp ha with ha | ha
    · exact Rep.ntb r a ha
    · exact RepK.ntb t a ha
end
theorem Rep.extT {d : D} {v : V} {f : List Addr} (r : Rep K H d v f) (e : LamX.ExtN H H') : Rep K H' d v f :=
  r.frame (fun b o h t => e b o h fun ps z => t.ne ⟨ps, z⟩) fun a ha o h => e a o h fun ps z => r.ntb a ha ps (by rw [h, z])
theorem Mu.nt {o : HO} (m : Mu (some o)) : ∀ ps, o ≠ .tbl ps := fun ps z => by subst z; exact m.not trivial
theorem Mu.extT {a : Addr} (m : Mu (H a)) (e : LamX.ExtN H H') : Mu (H' a) := by
  cases h : H a with
  | none => rw [h] at m; exact m.m.elim
  | some o => rw [h] at m; rw [e a o h m.nt]; exact m
def strip (H : Hp) : Hp := fun a => match H a with
  | some (.tbl _) => none
  | o => o
theorem strip_some {a : Addr} {o : HO} (h : strip H a = some o) : H a = some o ∧ ∀ ps, o ≠ .tbl ps := by
  unfold strip at h
  split at h
  · cases h
  · rename_i n
    exact ⟨h, fun ps z => n ps (by rw [h, z])⟩
theorem strip_of {a : Addr} {o : HO} (h : H a = some o) (n : ∀ ps, o ≠ .tbl ps) : strip H a = some o := by
  unfold strip
  split
  · rename_i ps z; rw [h] at z; exact absurd (Option.some.inj z) (n ps)
  · exact h
theorem strip_none {a : Addr} (h : strip H a = none) {o : HO} (e : H a = some o) : ∃ ps, o = .tbl ps := by
  apply Classical.byContradiction
  intro n
  rw [strip_of e fun ps z => n ⟨ps, z⟩] at h; cases h
theorem strip_nt : NoTb (strip H) := fun a ps h => (strip_some h).2 ps rfl
theorem strip_ext (s : Same (strip H) H') : LamX.ExtN H H' := fun b o e n => s b o (strip_of e n)
variable {A : Addr → Prop} {H0 : Hp} {F : Nat → List Addr} {G : List (D × V)} {ρ : Env} {σ : L2.St}
theorem SR.extT (sr : SR K A H0 F G ρ σ H) (hT : hasT ρ = true) (e : LamX.ExtN H H') (t : TabK K H') : SR K A H0 F G ρ σ H' where
  len := sr.len
  fr := fun b o h => e b o (sr.fr b o h) fun ps z => (sr.tb hT).2 b ps (by rw [h, z])
  own := fun i => ⟨(sr.own i).1, fun a ha => ⟨((sr.own i).2 a ha).1, ((sr.own i).2 a ha).2.extT e⟩⟩
  dis := sr.dis
  slo := fun i d h => let ⟨v, h1, h2⟩ := sr.slo i d h; ⟨v, h1, h2.extT e⟩
  slb := fun i is d h => let ⟨v, f, h1, h2, h3⟩ := sr.slb i is d h; ⟨v, f, h1, h2.extT e, h3⟩
  gho := fun p hp => let ⟨f, h1, h2⟩ := sr.gho p hp; ⟨f, h1.extT e, h2⟩
  emp := sr.emp
  fin := sr.fin
  tb := fun _ => ⟨t, (sr.tb hT).2⟩
end
def spT (K : PySem.W.Frag) (CA : String → Addr) (fn : Fn) (n : Nat) : Sp := fun vs H Q E => ∃ A ds f, ds.length = n ∧ Reps K H ds vs f ∧ (∀ a ∈ f, A a) ∧ TabK K H ∧
  match fn ds with
  | .ok (k, d) => ∀ v H' g, LamX.ExtN H H' → TabK K H' → Rep K H' d v g → RetK A (strip H) H' k g → Q v H'
  | .ex c => ∀ H', LamX.ExtN H H' → TabK K H' → WxOk K CA c E H'
  | .st => False
structure FnT (P : Program) (w : World) (K : PySem.W.Frag) (mg : Str → Option Value) (base : Heap) (CA : String → Addr) (fn : Fn) (k : Nat) (x : String) (dd : List D) : Prop where
  is : ∃ (f : Addr) (fd : FuncData) (ps : List Str) (dvs : List V) (ds : List Value), mg (Str.ofString x) = some (.ref f) ∧ FnOk P w K mg base (L2.CX P w) k f fd ps (spT K CA fn ps.length) ∧
    PySem.W.keepIn K (.ref f) = true ∧ Binds K fd ps ds ∧ Vals dvs ds ∧ (∀ H, Reps K H dd dvs []) ∧ ∀ as, fn as ≠ .st → as.length = ps.length
def Out.finT : Out → R KD
  | .nx ρ => if hasT ρ = true then .ok (.own, .non) else .st
  | .ri ρ k d => if hasT ρ = true then .ok (nk k d, d) else .st
  | .ex c ρ => if hasT ρ = true then .ex c else .st
  | _ => .st
def slT (m : Nat) (ds : List D) : Env := (ds.map (Sl.bo []) ++ List.replicate (m - ds.length) Sl.no).set (m - 1) Sl.tb
def runT (m : Nat) (s : SS) (ds : List D) : R KD := (s (slT m ds)).finT
def mkT (n m : Nat) (s : SS) : Fn := fun ds => if ds.length = n then runT m s ds else .st
def callT (fn : Fn) (s : SA) (dd : List D) : SM := fun ρ => if hasT ρ = true then (s ρ).out ρ fun xs => (match fn (xs.map (·.2) ++ dd) with
  | .ok kd => .ri ρ (retK kd.1 (jn xs)) kd.2
  | .ex c => .ex c ρ
  | .st => .st) else .st
section
variable {K : PySem.W.Frag} {CA : String → Addr} {W : WX} {fn : Fn} {dd : List D} {A : Addr → Prop} {H0 H H1 : Hp} {F : Nat → List Addr} {G : List (D × V)} {ρ : Env} {σ : L2.St}
open Classical in
theorem callT_ok {Q : VK} {xs : List KD} {vs dvs : List V} {f : List Addr} {n : Nat} (sr : SR K A H0 F G ρ σ H) (hT : hasT ρ = true) (s1 : Same H H1)
    (r : Reps K H1 (xs.map (·.2)) vs f) (o : KOk A H0 F H H1 (jn xs) f) (hd : Reps K H1 dd dvs []) (hn : (vs ++ dvs).length = n)
    (h : MOk K CA W A H0 F ρ.length G σ H (match fn (xs.map (·.2) ++ dd) with
      | .ok kd => .ri ρ (retK kd.1 (jn xs)) kd.2
      | .ex c => .ex c ρ
      | .st => .st) Q) : spT K CA fn n (vs ++ dvs) H1 Q (WE W σ) := by
  have r2 := r.app hd
  rw [List.append_nil] at r2
  have sr1 := sr.same s1
  refine ⟨fun a => (∃ j ∈ (jn xs).is, a ∈ F j) ∨ Sh A H0 F a, _, f, by rw [r2.length]; exact hn, r2, o.bok sr, (sr1.tb hT).1, ?_⟩
  have eff : ∀ {Hx : Hp}, LamX.ExtN H1 Hx → Eff ρ.length F F H Hx := fun {Hx} e => ⟨fun _ _ => rfl, fun a o ha _ => by
    rcases Classical.em (∃ ps, o = HO.tbl ps) with t | t
    · exact .inr t
    · exact .inl (e a o (s1 a o ha) fun ps z => t ⟨ps, z⟩), fun j hj a ha => .inl ⟨j, hj, ha⟩⟩
  cases hc : fn (xs.map (·.2) ++ dd) with
  | st => rw [hc] at h; exact h.elim
  | ex c =>
    rw [hc] at h
    exact fun H' e t => h H' F (sr1.extT hT e t)
  | ok kd =>
    rw [hc] at h
    obtain ⟨k, d⟩ := kd
    intro v H' g e t r3 o3
    cases k with
    | own =>
      have hx : ∀ b o, H1 b = some o → (∀ ps, o ≠ .tbl ps) → b ∉ g := fun b o e1 n z => by
        have := (o3.2 b z).1
        rw [strip_of e1 n] at this; cases this
      have ex : LamX.ExtN H1 (fun a => if a ∈ g then none else H' a) := fun b o e1 n => by
        show (if b ∈ g then none else H' b) = some o
        rw [if_neg (hx b o e1 n)]; exact e b o e1 n
      have tx : TabK K (fun a => if a ∈ g then none else H' a) := t.keep fun a o e1 t1 => by
        show (if a ∈ g then none else H' a) = some o
        rw [if_neg fun z => ?_]
        · exact e1
        · have m := (o3.2 a z).2
          rw [e1] at m
          exact m.not t1
      refine h v _ H' F g (sr1.extT hT ex tx) (eff ex) (fun a o q => ?_) r3 ⟨o3.1, fun a ha => ⟨if_pos ha, (o3.2 a ha).2⟩⟩
      by_cases z : a ∈ g
      · rw [if_pos z] at q; cases q
      · rw [if_neg z] at q; exact q
    | bor is =>
      refine h v H' H' F g (sr1.extT hT e t) (eff e) (Same.refl _) r3 fun a ha => ?_
      rcases o3 a ha with q | q
      · exact q
      · refine .inr ⟨.inr ?_, fun j hj => ?_⟩
        · cases z : H0 a with
          | none => rfl
          | some o =>
            obtain ⟨ps, rfl⟩ := strip_none q ((sr.fr.trans s1) a o z)
            exact absurd z ((sr.tb hT).2 a ps)
        · have m := ((sr1.own j).2 a hj).2
          cases z : H1 a with
          | none => rw [z] at m; exact m.m
          | some o =>
            obtain ⟨ps, rfl⟩ := strip_none q z
            rw [z] at m
            exact m.not trivial
end
section
variable {X : Cx} {CA : String → Addr} {W : WX} {fn : Fn} {k : Nat} {x : String} {p pos : Pos} {e : Expr} {es : List Expr} {s : SA} {dd : List D}
theorem m_callT (tk : Takes X W) (hr : Room k X.A) (hf : FnT X.prog X.w X.K X.mg X.base CA fn k x dd) (ha : PA X (e :: es) (tA X.K CA W s)) (hg : Gl X (Str.ofString x) := by rfl) (hdb : (Str.ofString x == ("__debug__" : Str)) = false := by decide)
    (he : starEach (e :: es) X.env = (false, eval e X.env) :: starEach es X.env := by rfl) (hpl : (backTo pos (starEach es X.env)).any (·.1) = false := by rfl) : PE X (.Call (.Name (Str.ofString x) p) (e :: es) [] pos) (tM X.K CA W (callT fn s dd)) := by
  obtain ⟨f, fd, ps, dvs, ds, hm, Fn, hk, hb, hd, hdd, hz⟩ := hf.is
  refine peI (pe_callSD Fn hr hg hm hk hb hd (fun σ => passAt tk σ) ha hdb he hpl) fun σ H Q ⟨A, H0, F, G, ρ, sr, h⟩ => ?_
  unfold callT at h
  by_cases hT : hasT ρ = true
  case neg => rw [if_neg hT] at h; exact h.elim
  rw [if_pos hT] at h
  refine ⟨A, H0, F, G, ρ, sr, (MOk.lift h sr).imp fun xs _ q vs H1 f1 s1 r o => ?_⟩
  refine callT_ok sr hT s1 r o (hdd H1) ?_ q
  have r2 := r.app (hdd H1)
  rw [← r2.length]
  refine hz _ fun z => ?_
  rw [z] at q
  exact q
end
section
variable {P : Program} {w : World} {K : PySem.W.Frag} {mg : Str → Option Value} {base : Heap} {CA : String → Addr}
theorem SR.toT {A : Addr → Prop} {H : Hp} {ρ : Env} {σ : L2.St} {m : Nat} (sr : SR K A H (fun _ => []) [] ρ σ H) (hm : m < ρ.length) (t : TabK K H) : SR K A (strip H) (fun _ => []) [] (ρ.set m .tb) σ H := by
  refine ⟨by rw [List.length_set]; exact sr.len, fun b o e => (strip_some e).1, fun i => ⟨List.nodup_nil, (fun a ha => nomatch ha)⟩, (fun i j a hi => nomatch hi), fun i d e => ?_, fun i is d e => ?_, (fun p hp => nomatch hp), fun i _ hn => absurd rfl hn, ⟨0, fun _ _ => rfl⟩, fun _ => ⟨t, strip_nt⟩⟩
  · by_cases h : i = m
    · subst h; rw [List.getElem?_set_self hm] at e; cases e
    · rw [List.getElem?_set_ne (Ne.symm h)] at e
      obtain ⟨v, h1, h2⟩ := sr.slo i d e
      exact ⟨v, h1, h2⟩
  · by_cases h : i = m
    · subst h; rw [List.getElem?_set_self hm] at e; cases e
    · rw [List.getElem?_set_ne (Ne.symm h)] at e
      obtain ⟨v, f, h1, h2, h3⟩ := sr.slb i is d e
      refine ⟨v, f, h1, h2, fun a ha => ?_⟩
      rcases h3 a ha with ⟨j, _, q⟩ | q
      · cases q
      · refine .inr ⟨q.1.imp id fun z => ?_, q.2⟩
        unfold strip; rw [z]
theorem fn_okT {fn : Fn} {x qual : Str} {st : Stmt} {f : Addr} {fd : FuncData} {N ps : List Str} {k : Nat} {body : SS} {dvs : List V} (Fu : FunD K x qual (defArgs st) (defBody st) (defScope st) dvs [] f fd) (S : FnScope N ps (defScope st))
    (hb : ∀ (cdv : Value) (A : Around) (outer : List PySem.Env) (s : Shared) (H : Hp) (E : XK), Room k (A.deeper (envOfC qual (defScope st) s.heap.objs.size f cdv)) →
      PSs (cxOf (L2.CX P w) P w K mg base N qual (defScope st) f cdv A outer s H E) (defBody st) (tS K CA (fun cls d _ H => E cls d H) body))
    (hx : ∀ ds, ds.length = ps.length → fn ds = runT N.length body ds)
    (hN : ps.length ≤ N.length) (hN1 : 0 < N.length) : FnOk P w K mg base (L2.CX P w) (k + 1) f fd ps (spT K CA fn ps.length) := by
  refine Fu.ok S (fun vs H Q E ⟨A, ds, g, h1, h2, _⟩ => by rw [← h2.length]; exact h1) fun cdv Ar outer s H vs Q E hr ⟨A, ds, g, h1, h2, h3, ht, h4⟩ => ?_
  have si := SR.init (A := A) (N := N) h2 h3 (by rw [h1]; exact hN)
  have hl : (ds.map (Sl.bo []) ++ List.replicate (N.length - ds.length) Sl.no).length = N.length := by simp; omega
  refine ⟨_, hb cdv Ar outer s H E hr, A, strip H, fun _ => [], [], _, si.toT (m := N.length - 1) (by rw [hl]; omega) ht, ?_⟩
  rw [hx ds h1] at h4
  unfold runT slT at h4
  cases hbo : body ((ds.map (Sl.bo []) ++ List.replicate (N.length - ds.length) Sl.no).set (N.length - 1) Sl.tb) with
  | nx ρ =>
    simp only [hbo, Out.finT] at h4
    by_cases hT : hasT ρ = true
    · rw [if_pos hT] at h4
      exact fun σ' H' F' sr => h4 .non H' [] (strip_ext sr.fr) (sr.tb hT).1 .non ⟨List.nodup_nil, fun a ha => nomatch ha⟩
    · rw [if_neg hT] at h4; exact h4.elim
  | ri ρ k d =>
    simp only [hbo, Out.finT] at h4
    by_cases hT : hasT ρ = true
    · rw [if_pos hT] at h4
      intro v σ' Hx H' F' f' sr s r o
      have sr2 := sr.same s
      refine h4 v H' f' (strip_ext sr2.fr) (sr2.tb hT).1 r ?_
      have ret := o.ret sr
      unfold nk
      split
      · rename_i hz; rw [Rep.noL r hz]; exact ⟨List.nodup_nil, fun a ha => nomatch ha⟩
      · exact ret
    · rw [if_neg hT] at h4; exact h4.elim
  | ex c ρ =>
    simp only [hbo, Out.finT] at h4
    by_cases hT : hasT ρ = true
    · rw [if_pos hT] at h4
      exact fun σ' H' F' sr => h4 H' (strip_ext sr.fr) (sr.tb hT).1
    · rw [if_neg hT] at h4; exact h4.elim
  | bk ρ => simp only [hbo, Out.finT] at h4
  | ct ρ => simp only [hbo, Out.finT] at h4
  | rt k d => simp only [hbo, Out.finT] at h4
  | st => simp only [hbo, Out.finT] at h4
end
end Cz
set_option maxHeartbeats 2000000
namespace Cz
open PySem PySem.Spec PyProof.Rows L2
structure MtT (P : Program) (w : World) (K : PySem.W.Frag) (mg : Str → Option Value) (base : Heap) (CA : String → Addr) (C m : String) (fn : Fn) (k : Nat) : Prop where
  is : ∃ (Ca f : Addr) (fd : FuncData) (ps : List Str), PySem.W.nsIn K mainGlobals (Str.ofString C) = some (some (.ref Ca)) ∧ Cls K Ca ∧ Meth K Ca (Str.ofString m) f ∧ FnOk P w K mg base (L2.CX P w) k f fd ps (spT K CA fn ps.length) ∧ Binds K fd ps [] ∧ ∀ as, fn as ≠ .st → as.length = ps.length
def rmT (C m : String) (fn : Fn) (so : SE) : SM := fun ρ => if hasT ρ = true then (so ρ).out ρ fun x => (match x.2 with
  | .obj _ C' fs => if C' = C ∧ noKey fs (Str.ofString m) = true then (match fn [x.2] with
    | .ok kd => .ri ρ (retK kd.1 (jn [x])) kd.2
    | .ex c => .ex c ρ
    | .st => .st) else .st
  | _ => .st) else .st
section
variable {X : Cx} {CA : String → Addr} {W : WX} {C m : String} {fn : Fn} {k : Nat} {p pos apos : Pos} {o : Expr} {so : SE}
theorem m_rmT (tk : Takes X W) (hr : Room k X.A) (hm : MtT X.prog X.w X.K X.mg X.base CA C m fn k) (ho : PE X o (tE X.K CA W so)) {pl : Sem Bool}
    (ht : eval (.Call (.Attribute o (Str.ofString m) apos) [] [] pos) X.env = (do
      let ov ← eval o X.env
      standAt apos.atName
      let (f, first) ← holding [ov] (getMethod ov (Str.ofString m) pl)
      callWith pos f first (backTo pos (starEach [] X.env)) (backToKw pos (keywordEach [] X.env))) := by rfl) :
    PE X (.Call (.Attribute o (Str.ofString m) apos) [] [] pos) (tM X.K CA W (rmT C m fn so)) := by
  obtain ⟨Ca, f, fd, ps, hC, c, mt, Fn, hb, hz⟩ := hm.is
  refine peI (pe_methSD0 ho c mt Fn hr hb (fun σ => passAt tk σ) ht) fun σ H Q ⟨A, H0, F, G, ρ, sr, h⟩ => ?_
  unfold rmT at h
  by_cases hT : hasT ρ = true
  case neg => rw [if_neg hT] at h; exact h.elim
  rw [if_pos hT] at h
  refine ⟨A, H0, F, G, ρ, sr, (MOk.lift h sr).imp fun x _ q => ?_⟩
  intro v H1 f1 s1 r1 o1
  obtain ⟨kx, d⟩ := x
  cases d with
  | obj t C' fs =>
    simp only at q
    by_cases hh : C' = C ∧ noKey fs (Str.ofString m) = true
    case neg => rw [if_neg hh] at q; exact q.elim
    rw [if_pos hh] at q
    obtain ⟨rfl, hk⟩ := hh
    have r1' := r1
    cases r1 with
    | @obj _ _ a Ca' dx fvs _ f1 hl hCa nk rs0 htg =>
      rw [hC] at hCa; cases hCa
      refine ⟨a, dx, fvs, rfl, .of hl, noKey_ok rs0 hk, ?_⟩
      have rr : Reps X.K H1 (([(kx, D.obj t C' fs)] : List KD).map (·.2)) [.ref a] ((a :: f1) ++ []) := .cons r1' .nil
      have oo : KOk A H0 F H H1 (jn [(kx, D.obj t C' fs)]) ((a :: f1) ++ []) := KOk.join (k' := .own) sr s1 (Same.refl _) r1'.trk (KOk.nk r1' o1) (KOk.nil _)
      have hlen : (([(kx, D.obj t C' fs)] : List KD).map (·.2)).length = ps.length := hz _ fun z => by
        have z' : fn [D.obj t C' fs] = .st := z
        rw [z'] at q; exact q
      have := callT_ok (CA := CA) (W := W) (fn := fn) (dvs := []) (dd := []) sr hT s1 rr oo .nil (n := ps.length) (by rw [List.append_nil, ← rr.length]; exact hlen) (Q := Q) (by
        rw [List.append_nil]; exact q)
      rw [List.append_nil] at this
      exact this
  | _ => exact q.elim
end
end Cz
set_option maxHeartbeats 2000000
namespace Cz
open PySem PySem.Spec PyProof.Rows L2
abbrev lamE (x : Str) (p1 p2 p3 p4 : Pos) (kd : Nat) : Expr := .UnaryOp .USub (.Subscript (.Name x p1) (.Constant (.int 1) kd p2) p3) p4
theorem lam_turn {prog : Program} {w : World} {A : Around} {s : Shared} {f c' t : Addr} {qual : Str} {params : Arguments} {scope : Scope} {pm ctv : Value} {x : Str} {p1 p2 p3 p4 : Pos} {kd : Nat} {items : Array Value} {i : Int} {ti : Tok}
    (hf : s.heap.get? f = some (PySem.W.kla_obj "<lambda>" qual params (lamE x p1 p2 p3 p4 kd) scope [] pm c' ctv)) (hco : scope.isCoroutine = false) (hgen : scope.isGenerator = false) (hk : scope.kind = .function) (hcell : ∀ y ∈ scope.names, y.2 ≠ .cell)
    (hx : scope.names.lookup x = some .local) (hdb : (x == ("__debug__" : Str)) = false) (hcd : s.heap.CodeRec (.ref c') qual) (hnl : s.heap.NoLimit) (hroom : A.depth < recursionLimit)
    (hbind : bindArgs (PySem.W.kla_fn "<lambda>" qual params (lamE x p1 p2 p3 p4 kd) scope [] pm (.ref c') ctv) ⟨[.ref t], []⟩ = pure [(x, .ref t)])
    (ht : IsTup s.heap t items) (hi : items[1]? = some (.int i ti)) :
    wpAny (model prog w) A (call (.ref f) [.ref t]) (PySem.W.KeyPure (.int (-i)) s) (fun _ _ => False) s := by
  refine wpAny_call (codeAny_mono (R := fun r s' => match r with
    | .ok (.ret v) => PySem.W.KeyPure (.int (-i)) s v s'
    | _ => False) (PySem.W.kla_callFunE hroom hf rfl hco hgen rfl hcd ?_) fun r s' h => ?_)
  · rw [hbind]
    refine wpAny_pure (wpAny_newFunctionEnv hcell (fun y hy => ?_) (fun h₁ hns hsb => ⟨hnl.fresh _ hsb, ?_⟩) hk)
    · rw [List.mem_singleton.mp hy]; exact hx
    · have keep : ∀ b o, s.heap.get? b = some o → h₁.get? b = some o := fun b o e => hsb.extBut b o (Nat.ne_of_lt (Heap.lt_size e)) (Heap.get?_push_of_some _ e)
      refine PySem.W.kla_codeExpr (wpAny_UnaryOp (wpAny_Subscript_Constant_late (wpAny_Name (wpAny_loadName_local hk hx hns (v := .ref t) (by simp) (wpAny_Constant_int ?_)) hdb)))
      have ht' : IsTup h₁ t items := by
        first
          | exact ht.keep keep
          | exact ht.keeps keep
          | exact keep _ _ ht
      refine ⟨"tuple", "tuple.__getitem__", slot_tuple_getitem.lookup, ht'.typeIs, ?_⟩
      refine getItem_tuple ht' (by decide) (by decide) (seqIndex_of (k := 1) (by decide) ?_) (x := .int i ti) hi ?_
      · exact Int.ofNat_lt.mpr (Array.getElem?_eq_some_iff.mp hi).1
      · refine neg_int ?_
        exact ⟨h₁, _, rfl, keep, .int _ _⟩
  · revert h
    cases r with
    | ok fl => cases fl with
      | ret v => exact id
      | _ => exact id
    | error e => exact id
abbrev lamPs (x : Str) (pa : Pos) : Arguments := { posonlyargs := [], args := [{ arg := x, annotation := none, pos := pa }], vararg := none, kwonlyargs := [], kw_defaults := [], kwarg := none, defaults := [] }
def leC (p q : Addr × Int) : Bool := decide (q.2 ≤ p.2)
theorem leC_eq : (PySem.W.dataLe false fun p : Addr × Int => PyData.int (-p.2)) = leC := by
  funext p q
  have e : ((listOrd itemOrd).blt (PySem.W.keyToks (.int (-q.2))) (PySem.W.keyToks (.int (-p.2)))) = decide (-q.2 < -p.2) := by
    simp [PySem.W.keyToks, listOrd, itemOrd, itemLt, PyProof.Rows.lexLt]
  show (!((listOrd itemOrd).blt (PySem.W.keyToks (.int (-q.2))) (PySem.W.keyToks (.int (-p.2))))) = leC p q
  rw [e]
  unfold leC
  by_cases h : q.2 ≤ p.2
  · rw [decide_eq_true h, decide_eq_false (by omega)]; rfl
  · rw [decide_eq_false h, decide_eq_true (by omega)]; rfl
def rSrtK (K : PySem.W.Frag) : List V → Hp → VK → Prop := fun vs H1 Q => ∃ (a : Addr) (L : List (Addr × Int)), vs = [V.ref a] ∧ SqL K H1 a (L.map fun p => V.ref p.1) ∧ (∀ p ∈ L, ∃ w, H1 p.1 = some (.tup [w, .int p.2])) ∧ TabK K H1 ∧
  ∀ H2, LamX.ExtN H1 H2 → TabK K H2 → ∀ b, H2 b = none → Q (.ref b) (upd H2 b (.lst ((L.mergeSort leC).map fun p => V.ref p.1)))
theorem vals_refs {β : Type} {f : β → Addr} : ∀ {L : List β} {its : List Value}, Vals (L.map fun p => V.ref (f p)) its → its = L.map fun p => Value.ref (f p)
  | [], _, .nil => rfl
  | p :: L, _, .cons r t => by
    have e : _ = Value.ref (f p) := (show _ = Value.ref (f p) from r)
    rw [List.map_cons, vals_refs t, e]
theorem refs_vals {β : Type} (f : β → Addr) : ∀ (L : List β), Vals (L.map fun p => V.ref (f p)) (L.map fun p => Value.ref (f p))
  | [] => .nil
  | p :: L => .cons rfl (refs_vals f L)
theorem each_refs {β : Type} (f : β → Addr) : ∀ (L : List β), PySem.W.EachIs (fun (v : Value) (p : β) => v = .ref (f p)) (L.map fun p => Value.ref (f p)) L
  | [] => .nil
  | p :: L => .cons rfl (each_refs f L)
theorem each_refs_inv {β : Type} (f : β → Addr) : ∀ {vs : List Value} {L : List β}, PySem.W.EachIs (fun (v : Value) (p : β) => v = .ref (f p)) vs L → vs = L.map fun p => Value.ref (f p)
  | _, _, .nil => rfl
  | _, _, .cons e t => by rw [e, each_refs_inv f t]; rfl
section
variable {X : Cx} {k : Nat} {x : Str} {p pos lpos kpos pa p1 p2 p3 p4 : Pos} {kd : Nat} {e : Expr} {scope : Scope} {t : TA} {c P : Addr}
theorem pe_srtK (hr : Room k X.A) (hg : Gl X (Str.ofString "sorted")) (hm : X.mg "sorted" = none) (ha : PA X [e] t)
    (TB : LamX.TabB X.base X.mg c P) (hcode : X.env.code = .ref c) (hq : X.env.qual ++ "<lambda>" = lamN) (hcK : ∃ o vs, X.K.lookup c = some o ∧ o.data = .fields vs ∧ PySem.W.codeIn X.K (.ref c) lamQ = true ∧ vs[11]? = some (.ref P))
    (hTK : ∀ H, LamX.TabS H P lamN → TabK X.K H)
    (hk : scope.kind = .function) (hco : scope.isCoroutine = false) (hgen : scope.isGenerator = false) (hn : scope.names = [(x, .local)]) (hdb : (x == ("__debug__" : Str)) = false)
    (hbind : ∀ (q : Str) (cl : List (Str × Addr)) (pm cv ctv : Value) (t : Addr), bindArgs (PySem.W.kla_fn "<lambda>" q (lamPs x pa) (lamE x p1 p2 p3 p4 kd) scope cl pm cv ctv) ⟨[.ref t], []⟩ = pure [(x, .ref t)])
    (he : backTo pos (starEach [e] X.env) = (false, eval e X.env) :: backTo pos (starEach [] X.env) := by rfl) (hpl : (backTo pos (starEach [e] X.env)).any (·.1) = false := by rfl) :
    PE X (.Call (.Name (Str.ofString "sorted") p) [e] [⟨some (Str.ofString "key"), .Lambda (lamPs x pa) (lamE x p1 p2 p3 p4 kd) scope lpos, kpos⟩] pos) (fun σ H Q => t σ H fun vs H1 => rSrtK X.K vs H1 Q) := by
  refine ⟨fun pins s σ H Q I h => ?_⟩
  refine wpAny_Call_Name_kw (ld_blt I hg hm (by first | rfl | decide +kernel) ?_ (by decide) (by decide))
  refine PyProof.Rows.callWith_kw (thn (ha.run pos pins s σ H _ I h) fun us s1 ⟨vs, H1, I1, r1, q1⟩ => ?_) he hpl (by rfl) (by rfl)
  obtain ⟨a, L, rfl, hs, hL, ht, q⟩ := q1
  obtain rfl := Vals.ref1 r1
  obtain ⟨oc, ovs, lk, od, hci, h11⟩ := hcK
  refine PyProof.Rows.evalAll_cons (wpAny_bind (LamX.lam_make2 (T := [(P, X.env.qual ++ "<lambda>")]) I1 TB hcode (by simp) (fun p hp _ => by rw [List.mem_singleton.mp hp]) (fun p hp => by
    rw [List.mem_singleton.mp hp, hq]
    exact ht c oc ovs P lk od hci h11) (by rfl) (fun y hy => ?_) fun f c' pm' ctv H2 s2 I2 eN T1 hf hfn hfr hco' => ?_))
  · rw [hn] at hy; rw [List.mem_singleton.mp hy]; intro z; cases z
  · refine wpAny_bind (wpAny_standAt (wpAny_pure ?_))
    refine PyProof.Rows.evalAll_nil ?_
    show wpAny _ _ (call (.builtin "sorted") [.ref a] [(Str.ofString "key", .ref f)]) _ _ _
    have tk2 : TabK X.K H2 := hTK _ (by
      have := T1 (P, X.env.qual ++ "<lambda>") (by simp)
      rw [hq] at this
      exact this)
    have hs2 : SqL X.K H2 a (L.map fun p => V.ref p.1) := by
      rcases hs with (z | ⟨o, z⟩) | z
      · exact .inl (.inl (eN _ _ z fun ps y => nomatch y))
      · exact .inl (.inr ⟨o, eN _ _ z fun ps y => nomatch y⟩)
      · exact .inr z
    obtain ⟨its, rv, hl, hz⟩ := I2.list hs2
    have ei := vals_refs rv
    have hcl : cloFrom X.env.cells scope.names [] = [] := by rw [hn]; rfl
    rw [hcl] at hf
    refine PySem.W.sorted_key_data (b := false) (k := fun p : Addr × Int => PyData.int (-p.2)) (R := fun (v : Value) (p : Addr × Int) => v = .ref p.1) (bs := L) (vs := its) hl.isList (by rw [ei]; exact each_refs (fun p : Addr × Int => p.1) L) (PySem.W.AllAlike.of fun _ _ => by simp [PySem.W.alike]) (PySem.W.Sortable.others fun _ => ⟨(fun z => nomatch z), fun _ z => nomatch z⟩)
      (by rw [← List.length_map (f := fun p : Addr × Int => V.ref p.1)]; exact hz) (fun p _ => by have := hr.un; show X.A.units + 2 + 0 < _; omega) (PyProof.Rows.ksk_s1 _ _) (fun _ => PyProof.Rows.ksk_l1 _ _) (fun _ => PyProof.Rows.ksk_t1 _ _) (fun v p ev hp h tk kp => ?_) fun out cc h' tk kp fr hat hlen he => ?_
    · subst ev
      obtain ⟨w, hw⟩ := hL p hp
      have hw2 : H2 p.1 = some (.tup [w, .int p.2]) := eN _ _ hw fun ps z => nomatch z
      obtain ⟨_, its2, r2, ob⟩ := I2.hok p.1 _ hw2
      obtain ⟨w1, i1, rfl, e1, e2⟩ := vals2 r2
      obtain ⟨ti, rfl⟩ := e2
      have ob' : IsTup s2.heap p.1 #[w1, .int p.2 ti] := ob
      obtain ⟨oc', ovs', tq, hc1, hc2, hc3⟩ := (I2.hok c' _ hco').1
      refine lam_turn (hf := kp _ _ hf) hco hgen hk (fun y hy => ?_) ?_ hdb ⟨c', oc', ovs', tq, rfl, kp _ _ hc1, hc2, hc3⟩ (I2.nolimit.keeps kp) (by have := hr.dp; show X.A.depth < _; omega) ?_ (ob'.keeps kp) rfl
      · rw [hn] at hy; rw [List.mem_singleton.mp hy]; intro z; cases z
      · rw [hn]; simp
      · exact hbind _ _ _ _ _ _
    · have eo := each_refs_inv (fun p : Addr × Int => p.1) he
      rw [leC_eq] at eo
      refine ⟨.ref _, upd H2 (s2.heap.objs.size + 1) (.lst ((L.mergeSort leC).map fun p => V.ref p.1)), I2.laid (t' := tk) kp (Nat.le_succ _) ⟨?_, out, cc, ?_, hat⟩, rfl, q H2 eN tk2 _ (I2.hok.fresh (Nat.le_succ _))⟩
      · rw [List.length_map] at hz ⊢; rw [List.length_mergeSort]; exact hz
      · rw [eo]; exact refs_vals (fun p : Addr × Int => p.1) _
end
end Cz
set_option maxHeartbeats 2000000
namespace Cz
open PySem PySem.Spec PyProof.Rows L2
def prkC : D → Int
  | .tup [_, .int i] => i
  | _ => 0
def prkB : D → Bool
  | .tup [d, .int _] => noL d
  | _ => false
def prkLe (a b : D) : Bool := decide (prkC b ≤ prkC a)
def srtP (ds : List D) : List D := ds.mergeSort prkLe
def srtK (so : SE) : SM := fun ρ => if hasT ρ = true then (so ρ).out ρ fun x => (match x.2 with
  | .lst ds => if ds.all prkB = true then .ri ρ .own (.lst (srtP ds)) else .st
  | _ => .st) else .st
section
variable {K : PySem.W.Frag} {H : Hp}
theorem prkB_inv {d : D} (h : prkB d = true) : ∃ e i, d = .tup [e, .int i] ∧ noL e = true := by
  unfold prkB at h
  split at h
  · exact ⟨_, _, rfl, h⟩
  · cases h
theorem prs_Z : ∀ {ds : List D} {vs : List V} {f : List Addr}, Reps K H ds vs f → ds.all prkB = true → ∃ Z : List (D × Addr × Int), ds = Z.map (·.1) ∧ vs = Z.map (fun z => V.ref z.2.1) ∧ f = [] ∧ ∀ z ∈ Z, Rep K H z.1 (.ref z.2.1) [] ∧ prkC z.1 = z.2.2 ∧ ∃ w, H z.2.1 = some (.tup [w, .int z.2.2])
  | _, _, _, .nil, _ => ⟨[], rfl, rfl, rfl, fun z hz => nomatch hz⟩
  | _, _, _, .cons (d := d) r t, h => by
    rw [List.all_cons, Bool.and_eq_true] at h
    obtain ⟨Z, e1, e2, e3, hz⟩ := prs_Z t h.2
    obtain ⟨e, i, rfl, hn⟩ := prkB_inv h.1
    have hf := Rep.noL r (by simp [noL, noLs, hn])
    obtain ⟨a, ws, rfl, q, rs⟩ := r.tupI
    have r' : Rep K H (.tup [e, .int i]) (.ref a) [] := hf ▸ r
    refine ⟨(.tup [e, .int i], a, i) :: Z, by rw [e1]; rfl, by rw [e2]; rfl, by rw [e3, hf]; rfl, fun z hz' => ?_⟩
    rcases List.mem_cons.mp hz' with rfl | hz'
    · refine ⟨r', rfl, ?_⟩
      cases rs with
      | cons r1 rs => cases rs with
        | cons r2 rs =>
          cases rs; cases r2
          exact ⟨_, q⟩
    · exact hz z hz'
theorem reps_Z : ∀ (Z : List (D × Addr × Int)), (∀ z ∈ Z, Rep K H z.1 (.ref z.2.1) []) → Reps K H (Z.map (·.1)) (Z.map fun z => V.ref z.2.1) []
  | [], _ => .nil
  | z :: Z, h => .cons (f := []) (g := []) (h z List.mem_cons_self) (reps_Z Z fun y hy => h y (List.mem_cons_of_mem _ hy))
theorem srt_Z {Z : List (D × Addr × Int)} (h : ∀ z ∈ Z, prkC z.1 = z.2.2) : ∃ Y : List (D × Addr × Int), (∀ z ∈ Y, z ∈ Z) ∧ Y.map (·.1) = srtP (Z.map (·.1)) ∧ Y.map (·.2) = (Z.map (·.2)).mergeSort leC := by
  refine ⟨Z.mergeSort fun x y => leC x.2 y.2, fun z hz => (List.mergeSort_perm _ _).mem_iff.mp hz, ?_, ?_⟩
  · exact List.map_mergeSort fun a ha b hb => by unfold prkLe leC; rw [h a ha, h b hb]
  · exact List.map_mergeSort fun a ha b hb => rfl
end
section
variable {X : Cx} {CA : String → Addr} {W : WX} {k : Nat} {x : Str} {p pos lpos kpos pa p1 p2 p3 p4 : Pos} {kd : Nat} {e : Expr} {scope : Scope} {so : SE} {c P : Addr}
theorem m_srtK (hr : Room k X.A) (ha : PE X e (tE X.K CA W so)) 
    (TB : LamX.TabB X.base X.mg c P) (hcode : X.env.code = .ref c) (hcK : ∃ o vs, X.K.lookup c = some o ∧ o.data = .fields vs ∧ PySem.W.codeIn X.K (.ref c) lamQ = true ∧ vs[11]? = some (.ref P))
    (hTK : ∀ H, LamX.TabS H P lamN → TabK X.K H) (hm : X.mg "sorted" = none) (hg : Gl X (Str.ofString "sorted") := by rfl) (hq : X.env.qual ++ "<lambda>" = lamN := by rfl) 
    (hk : scope.kind = .function := by rfl) (hco : scope.isCoroutine = false := by rfl) (hgen : scope.isGenerator = false := by rfl) (hn : scope.names = [(x, .local)] := by rfl) (hdb : (x == ("__debug__" : Str)) = false := by decide)
    (hbind : ∀ (q : Str) (cl : List (Str × Addr)) (pm cv ctv : Value) (t : Addr), bindArgs (PySem.W.kla_fn "<lambda>" q (lamPs x pa) (lamE x p1 p2 p3 p4 kd) scope cl pm cv ctv) ⟨[.ref t], []⟩ = pure [(x, .ref t)] := by intros; rfl)
    (hse : starEach [e] X.env = (false, eval e X.env) :: starEach [] X.env := by rfl)
    (he : backTo pos (starEach [e] X.env) = (false, eval e X.env) :: backTo pos (starEach [] X.env) := by rfl) (hpl : (backTo pos (starEach [e] X.env)).any (·.1) = false := by rfl) :
    PE X (.Call (.Name (Str.ofString "sorted") p) [e] [⟨some (Str.ofString "key"), .Lambda (lamPs x pa) (lamE x p1 p2 p3 p4 kd) scope lpos, kpos⟩] pos) (tM X.K CA W (srtK so)) := by
  refine peI (pe_srtK hr hg hm (pa_cons ha pa_nil hse) TB hcode hq hcK hTK hk hco hgen hn hdb hbind he hpl) fun σ H Q ⟨A, H0, F, G, ρ, sr, h⟩ => ?_
  unfold srtK at h
  by_cases hT : hasT ρ = true
  case neg => rw [if_neg hT] at h; exact h.elim
  rw [if_pos hT] at h
  refine ⟨A, H0, F, G, ρ, sr, (MOk.lift h sr).imp fun x _ q => ?_⟩
  intro v H1 f1 s1 r1 o1
  obtain ⟨kx, d⟩ := x
  have sr1 := sr.same s1
  cases d with
  | lst ds =>
    simp only at q
    by_cases hh : ds.all prkB = true
    case neg => rw [if_neg hh] at q; exact q.elim
    rw [if_pos hh] at q
    cases r1 with
    | lst hl rs =>
      rename_i a vs f
      obtain ⟨Z, rfl, rfl, _, hZ⟩ := prs_Z rs hh
      obtain ⟨Y, hY, eY1, eY2⟩ := srt_Z fun z hz => (hZ z hz).2.1
      refine ⟨a, Z.map (·.2), rfl, .inl (.inl (by rw [hl, List.map_map]; rfl)), fun p hp => ?_, (sr1.tb hT).1, fun H2 eN tk b hb => ?_⟩
      · obtain ⟨z, hz, rfl⟩ := List.mem_map.mp hp
        exact (hZ z hz).2.2
      · have eff : Eff ρ.length F F H H2 := ⟨fun _ _ => rfl, fun a o ha _ => by
          rcases Classical.em (∃ ps, o = HO.tbl ps) with t | t
          · exact .inr t
          · exact .inl (eN a o (s1 a o ha) fun ps z => t ⟨ps, z⟩), fun j hj a ha => .inl ⟨j, hj, ha⟩⟩
        have sm : Same H2 (upd H2 b (.lst (((Z.map (·.2)).mergeSort leC).map fun p => V.ref p.1))) := fun y o e => by
          rw [upd_ne (fun z => by subst z; rw [hb] at e; cases e)]; exact e
        refine q (.ref b) H2 _ F [b] (sr1.extT hT eN tk) eff sm ?_ ⟨by simp, fun y hy => ?_⟩
        · refine .lst upd_same ?_
          have rr := reps_Z (K := X.K) (H := upd H2 b (.lst (((Z.map (·.2)).mergeSort leC).map fun p => V.ref p.1))) Y fun z hz => (((hZ z (hY z hz)).1).extT eN).same sm
          rw [eY1] at rr
          have e2 : (((Z.map (·.2)).mergeSort leC).map fun p => V.ref p.1) = Y.map fun z => V.ref z.2.1 := by rw [← eY2, List.map_map]; rfl
          rw [e2] at rr ⊢
          exact rr
        · rw [List.mem_singleton.mp hy]
          exact ⟨hb, ⟨by rw [upd_same]; trivial⟩⟩
  | _ => exact q.elim
end
end Cz
set_option maxHeartbeats 2000000
namespace Cz
open PySem PySem.Spec PyProof.Rows L2
section
variable {X : Cx} {CA : String → Addr} {W : WX} {pos : Pos} {a b : Expr} {rest : List Expr} {sm sa sb : SM} {se : SE}
theorem mb_one {op} (h : PE X a (tM X.K CA W sm)) : PE X (.BoolOp op [a] pos) (tM X.K CA W sm) := pe_one h
theorem mb_and (ha : PE X a (tM X.K CA W sa)) (hb : PE X (.BoolOp .And (b :: rest) pos) (tM X.K CA W sb)) : PE X (.BoolOp .And (a :: b :: rest) pos) (tM X.K CA W (andM sa sb)) := by
  refine peI (pe_and ha hb) fun σ H Q ⟨A, H0, F, G, ρ, sr, h⟩ => ⟨A, H0, F, G, ρ, sr, ?_⟩
  unfold andM at h
  cases e : sa ρ with
  | ri ρ' k d =>
    rw [e] at h
    cases d with
    | bl c =>
      intro v Hx H' F' f sr' ef s r o
      cases r
      have hl : ρ'.length = ρ.length := by rw [sr'.len, sr.len]
      refine ⟨c, rfl, ?_⟩
      cases c with
      | true => exact ⟨A, H0, F', G, ρ', sr'.same s, by rw [hl]; exact MOk.step h ef s⟩
      | false => exact (show MOk X.K CA W A H0 F ρ.length G σ H (.ri ρ' .own (.bl false)) Q from h) (.bl false) Hx H' F' [] sr' ef s (.bl false) ⟨List.nodup_nil, fun a ha => nomatch ha⟩
    | _ => exact h.elim
  | ex c ρ' => rw [e] at h; exact h
  | nx _ => rw [e] at h; exact h.elim
  | rt _ _ => rw [e] at h; exact h.elim
  | bk _ => rw [e] at h; exact h.elim
  | ct _ => rw [e] at h; exact h.elim
  | st => rw [e] at h; exact h.elim
end
def tapM (m : SM) (b : SE) : SS := fun ρ => (m ρ).thenM fun ρ1 k d => (match k, d with
  | .own, .lst ds => (b ρ1).out ρ1 fun y => if okIn y.1 [y.2] = true ∧ ds.length < LIM then .nx ρ1 else .st
  | _, _ => .st)
section
variable {X : Cx} {CA : String → Addr} {W : WX} {p2 p3 pos : Pos} {o e : Expr} {sm : SM} {se : SE}
theorem s_tapM (ho : PE X o (tM X.K CA W sm)) (he : PE X e (tE X.K CA W se)) (hst : starEach [e] X.env = [(false, eval e X.env)] := by rfl) (hs : swapsWith (.Call (.Attribute o "append" p2) [e] [] p3) none pos.line X.env = pure false := by rfl)
    (hline : (p2.endLine == p3.line) = true := by rfl) (hbase : attributeBase o "append" X.env (eval o X.env) = eval o X.env := by rfl) (hfew : ((backTo p3 (starEach [e] X.env)).all (fun x => !x.1) && (backToKw p3 (keywordEach [] X.env)).all (fun x => x.1.isSome) && decide (([e] : List Expr).length + ([] : List Keyword).length + (if ([] : List Keyword).isEmpty then 0 else 1) < 30)) = true := by rfl) :
    PS X (.Expr (.Call (.Attribute o "append" p2) [e] [] p3) pos) (tS X.K CA W (tapM sm se)) := by
  refine psI (ps_expr (pe_bm PySem.F.plainAttrs_list PySem.F.slot_list_append PySem.F.type_list_append mt_append ho (pa_cons he pa_nil hst) hbase hfew hline hst rfl) hs) fun D σ H ⟨A, H0, F, G, ρ, sr, h⟩ => ?_
  refine ⟨A, H0, F, G, ρ, sr, thenM_ok h fun ρ' kk d v Hx H' F' g _ sr' s r o1 q => ?_⟩
  cases kk with
  | bor is => exact q.elim
  | own =>
    cases d with
    | lst ds =>
      cases r with
      | @lst a vs _ f0 hl q0 =>
        refine ⟨.inl ⟨rfl, _, .of hl⟩, A, H0, F', G, ρ', sr'.same s, (lift q (sr'.same s)).imp fun ⟨k2, d2⟩ _ q2 y H2 f2 s2 r2 o2 => ?_⟩
        have q2 : OutOk X.K CA W A H0 G D (if okIn k2 [d2] = true ∧ ds.length < LIM then .nx ρ' else .st) := q2
        by_cases hc : okIn k2 [d2] = true ∧ ds.length < LIM
        · rw [if_pos hc] at q2
          have hl2 := s2 _ _ hl
          have aF := (o1.2 a (by simp)).1
          refine ⟨a, vs, y, rfl, rfl, hl2, by rw [← lim_eq, ← q0.length]; exact hc.2, ?_⟩
          refine q2 σ _ F' (sr'.same fun b ob e => ?_)
          have : b ≠ a := fun z => by subst z; rw [aF] at e; cases e
          rw [upd_ne this]; exact s2 _ _ (s _ _ e)
        · rw [if_neg hc] at q2; exact q2.elim
    | _ => exact q.elim
end
theorem mem_lk {α : Type} {c : Addr} {o : α} : ∀ {K : List (Addr × α)}, K.lookup c = some o → (c, o) ∈ K
  | [], h => nomatch h
  | (d, u) :: K, h => by
    rw [List.lookup_cons] at h
    by_cases z : c = d
    · subst z; rw [beq_self_eq_true] at h; cases h; exact List.mem_cons_self
    · rw [beq_eq_false_iff_ne.mpr z] at h; exact List.mem_cons_of_mem _ (mem_lk h)
theorem tabOnly_ok {K : PySem.W.Frag} (h : tabOnly K = true) {H : Hp} (t : LamX.TabS H (He.cT K stD).2 lamN) : TabK K H := fun c o vs P e1 e2 e3 e4 => by
  have m : (c, o) ∈ K := mem_lk e1
  have q := List.all_eq_true.mp h _ m
  simp only [e2] at q
  unfold PySem.W.codeIn at e3
  simp only [e1] at e3
  cases o with
  | mk cls dict data slots =>
    simp only at e2
    subst e2
    simp only at e3
    revert q e3
    cases hv : vs.toList with
    | nil => intro q e3; cases e3
    | cons v0 r => cases r with
      | nil => intro q e3; cases e3
      | cons v1 r =>
        cases v1 with
        | str n tk =>
          intro q e3
          simp only at e3 q
          have e5 : n = lamQ := by simpa using e3
          subst e5
          have el : lamQ = Str.ofString "Room.standings" := rfl
          rw [el] at q
          simp only [e4, bne_self_eq_false, Bool.false_or] at q
          have e6 : P = (He.cT K stD).2 := by simpa using q
          rw [e6]; exact t
        | _ => intro q e3; cases e3
structure StF (K : PySem.W.Frag) (mg : Str → Option Value) (base : Heap) : Prop where
  tb : LamX.TabB base mg (He.cT K stD).1 (He.cT K stD).2
  hd : PySem.W.codeHdIn K (He.cT K stD).1 (He.cT K stD).2 = true
  un : tabOnly K = true
theorem codeHdIn_inv {K : PySem.W.Frag} {c P : Addr} (e : PySem.W.codeHdIn K c P = true) : ∃ o vs, K.lookup c = some o ∧ o.data = .fields vs ∧ vs[11]? = some (.ref P) := by
  unfold PySem.W.codeHdIn at e
  split at e
  · rename_i vs _ hk
    simp only [Bool.and_eq_true] at e
    obtain ⟨⟨⟨⟨⟨e1, e2⟩, e3⟩, e4⟩, e5⟩, e6⟩ := e
    split at e1
    · rename_i P' h11
      have hP : P' = P := beq_iff_eq.mp e1
      subst hP
      exact ⟨_, vs, hk, rfl, h11⟩
    · cases e1
  · cases e
section
variable {X : Cx} {CA : String → Addr} {W : WX} {k : Nat} {x : Str} {p pos lpos kpos pa p1 p2 p3 p4 : Pos} {kd : Nat} {e : Expr} {scope : Scope} {so : SE}
theorem m_srtS (st : StF X.K X.mg X.base) (hcode : X.env.code = .ref (He.codeOf X.K stD)) (hci : PySem.W.codeIn X.K X.env.code lamQ = true) (hr : Room k X.A) (hm : X.mg (Str.ofString "sorted") = none) (ha : PE X e (tE X.K CA W so))
    (hg : Gl X (Str.ofString "sorted") := by rfl) (hq : X.env.qual ++ "<lambda>" = lamN := by rfl) 
    (hk : scope.kind = .function := by rfl) (hco : scope.isCoroutine = false := by rfl) (hgen : scope.isGenerator = false := by rfl) (hn : scope.names = [(x, .local)] := by rfl) (hdb : (x == ("__debug__" : Str)) = false := by decide)
    (hbind : ∀ (q : Str) (cl : List (Str × Addr)) (pm cv ctv : Value) (t : Addr), bindArgs (PySem.W.kla_fn "<lambda>" q (lamPs x pa) (lamE x p1 p2 p3 p4 kd) scope cl pm cv ctv) ⟨[.ref t], []⟩ = pure [(x, .ref t)] := by intros; rfl)
    (hse : starEach [e] X.env = (false, eval e X.env) :: starEach [] X.env := by rfl)
    (he : backTo pos (starEach [e] X.env) = (false, eval e X.env) :: backTo pos (starEach [] X.env) := by rfl) (hpl : (backTo pos (starEach [e] X.env)).any (·.1) = false := by rfl) :
    PE X (.Call (.Name (Str.ofString "sorted") p) [e] [⟨some (Str.ofString "key"), .Lambda (lamPs x pa) (lamE x p1 p2 p3 p4 kd) scope lpos, kpos⟩] pos) (tM X.K CA W (srtK so)) := by
  obtain ⟨o, vs, h1, h2, h3⟩ := codeHdIn_inv st.hd
  rw [hcode] at hci
  exact m_srtK hr ha st.tb hcode ⟨o, vs, h1, h2, hci, h3⟩ (fun H t => tabOnly_ok st.un t) hm hg hq hk hco hgen hn hdb hbind hse he hpl
end
section
variable {P : Program} {w : World} {K : PySem.W.Frag} {mg : Str → Option Value} {base : Heap} {CA : String → Addr}
theorem fn_okS {fn : Fn} {x : Str} {st : Stmt} {fd : FuncData} {N ps : List Str} {k : Nat} {body : SS} {dvs : List V} (Fu : FunD K x lamQ (defArgs st) (defBody st) (defScope st) dvs [] (He.fAd K stD) fd) (S : FnScope N ps (defScope st))
    (hb : ∀ (cdv : Value) (A : Around) (outer : List PySem.Env) (s : Shared) (H : Hp) (E : XK), cdv = .ref (He.codeOf K stD) → PySem.W.codeIn K cdv lamQ = true → Room k (A.deeper (envOfC lamQ (defScope st) s.heap.objs.size (He.fAd K stD) cdv)) →
      PSs (cxOf (L2.CX P w) P w K mg base N lamQ (defScope st) (He.fAd K stD) cdv A outer s H E) (defBody st) (tS K CA (fun cls d _ H => E cls d H) body))
    (hx : ∀ ds, ds.length = ps.length → fn ds = runT N.length body ds)
    (hN : ps.length ≤ N.length) (hN1 : 0 < N.length) : FnOk P w K mg base (L2.CX P w) (k + 1) (He.fAd K stD) fd ps (spT K CA fn ps.length) := by
  obtain ⟨oc, od, dV, kV, doc, pm, an, cdv, ct, osl, rfl, lk, hcd, _, _⟩ := Fu.ex
  obtain ⟨c0, rfl⟩ := He.codeIn_ref hcd
  have hc0 : He.codeOf K stD = c0 := He.codeOf_eq lk rfl
  refine fn_of lk hcd S (fun vs H Q E ⟨A, ds, g, h1, h2, _⟩ => by rw [← h2.length]; exact h1) fun Ar outer s H vs Q E hr ⟨A, ds, g, h1, h2, h3, ht, h4⟩ => ?_
  have si := SR.init (A := A) (N := N) h2 h3 (by rw [h1]; exact hN)
  have hl : (ds.map (Sl.bo []) ++ List.replicate (N.length - ds.length) Sl.no).length = N.length := by simp; omega
  refine ⟨_, hb (.ref c0) Ar outer s H E (by rw [hc0]) hcd hr, A, strip H, fun _ => [], [], _, si.toT (m := N.length - 1) (by rw [hl]; omega) ht, ?_⟩
  rw [hx ds h1] at h4
  unfold runT slT at h4
  cases hbo : body ((ds.map (Sl.bo []) ++ List.replicate (N.length - ds.length) Sl.no).set (N.length - 1) Sl.tb) with
  | nx ρ =>
    simp only [hbo, Out.finT] at h4
    by_cases hT : hasT ρ = true
    · rw [if_pos hT] at h4
      exact fun σ' H' F' sr => h4 .non H' [] (strip_ext sr.fr) (sr.tb hT).1 .non ⟨List.nodup_nil, fun a ha => nomatch ha⟩
    · rw [if_neg hT] at h4; exact h4.elim
  | ri ρ k d =>
    simp only [hbo, Out.finT] at h4
    by_cases hT : hasT ρ = true
    · rw [if_pos hT] at h4
      intro v σ' Hx H' F' f' sr s r o
      have sr2 := sr.same s
      refine h4 v H' f' (strip_ext sr2.fr) (sr2.tb hT).1 r ?_
      have ret := o.ret sr
      unfold nk
      split
      · rename_i hz; rw [Rep.noL r hz]; exact ⟨List.nodup_nil, fun a ha => nomatch ha⟩
      · exact ret
    · rw [if_neg hT] at h4; exact h4.elim
  | ex c ρ =>
    simp only [hbo, Out.finT] at h4
    by_cases hT : hasT ρ = true
    · rw [if_pos hT] at h4
      exact fun σ' H' F' sr => h4 H' (strip_ext sr.fr) (sr.tb hT).1
    · rw [if_neg hT] at h4; exact h4.elim
  | bk ρ => simp only [hbo, Out.finT] at h4
  | ct ρ => simp only [hbo, Out.finT] at h4
  | rt k d => simp only [hbo, Out.finT] at h4
  | st => simp only [hbo, Out.finT] at h4
theorem fn_gT {k : Nat} {x : String} {n : Nat} {ps : List Str} {m : Nat} {body : SS} {f : Addr} {fd : FuncData} {dvs : List V} {ds : List Value} {dd : List D} (hm : mg (Str.ofString x) = some (.ref f)) (h : FnOk P w K mg base (L2.CX P w) k f fd ps (spT K CA (mkT n m body) ps.length))
    (kp : PySem.W.keepIn K (.ref f) = true) (b : Binds K fd ps ds) (v : Vals dvs ds) (r : ∀ H, Reps K H dd dvs []) (hn : n = ps.length) : FnT P w K mg base CA (mkT n m body) k x dd := by
  refine ⟨f, fd, ps, dvs, ds, hm, h, kp, b, v, r, fun as z => ?_⟩
  unfold mkT at z
  split at z
  · rw [← hn]; assumption
  · exact absurd rfl z
theorem mkT_of {n m : Nat} {body : SS} {ds : List D} (h : ds.length = n) : mkT n m body ds = runT m body ds := if_pos h
theorem mkT_len {n m : Nat} {body : SS} {as : List D} (z : mkT n m body as ≠ .st) : as.length = n := by
  unfold mkT at z
  split at z
  · assumption
  · exact absurd rfl z
def spLawT (K : PySem.W.Frag) : Sp := fun vs H Q _ => ∃ (a : Addr) (ns : List Int), vs = [.ref a] ∧ SqL K H a (ns.map V.int) ∧ ns.length ≤ 63 ∧ (∀ z ∈ ns, Builtin.Int.intBits z ≤ 1048576) ∧ TabK K H ∧ ∀ H', Q (.bl true) H'
theorem law_spT {fn : Fn} (h : ∀ ns : List Int, ns.length ≤ 63 → (∀ z ∈ ns, Builtin.Int.intBits z ≤ 1048576) → fn [.scr (ns.map D.int)] = .ok (.own, .bl true)) {a : Addr} {ns : List Int} (H : Hp) (Q : VK) (E : XK) (hl : ns.length ≤ 63) (hb : ∀ z ∈ ns, Builtin.Int.intBits z ≤ 1048576)
    (q : ∀ H', Q (.bl true) H') (t : TabK K H) (hS : (∀ H', SqL K H' a (ns.map V.int)) ∨ ∃ o, H a = some (.frz o (.lst (ns.map V.int)))) : spT K CA fn 1 [.ref a] H Q E := by
  have r : Rep K H (.scr (ns.map D.int)) (.ref a) [] := .scr hS (Reps.ints ns)
  have r2 : Reps K H [D.scr (ns.map D.int)] [V.ref a] [] := by
    have := Reps.cons r (Reps.nil (K := K) (H := H))
    rw [List.append_nil] at this
    exact this
  refine ⟨fun _ => True, _, [], rfl, r2, fun _ _ => trivial, t, ?_⟩
  rw [h ns hl hb]
  intro v H' g s t rv o
  cases rv
  exact q H'
theorem tabK_frz {H : Hp} {a : Addr} {o : Obj} {xs ys : List V} (t : TabK K H) (h : H a = some (.lst xs)) : TabK K (fun b => if b = a then some (.frz o (.lst ys)) else H b) := t.keep fun b u e te => by
  by_cases z : b = a
  · subst z; rw [h] at e; cases e; exact te.elim
  · show (if b = a then _ else H b) = _
    rw [if_neg z]; exact e
theorem law_fnT {k : Nat} {f : Addr} {fd : FuncData} {ps : List Str} {fn : Fn} (F : FnOk P w K mg base (L2.CX P w) k f fd ps (spT K CA fn 1))
    (h : ∀ ns : List Int, ns.length ≤ 63 → (∀ z ∈ ns, Builtin.Int.intBits z ≤ 1048576) → fn [.scr (ns.map D.int)] = .ok (.own, .bl true)) : FnOk P w K mg base (L2.CX P w) k f fd ps (spLawT K) := by
  refine ⟨fun vs H Q E ⟨a, ns, e, hS, hl, hb, t, q⟩ => ?_, fun A outer s H args us vs Q E hr he hbi hv ⟨a, ns, e, hS, hl, hb, t, q⟩ => ?_⟩
  · subst e
    rcases hS with (hS | hS) | hS
    · exact F.len _ (fun b => if b = a then some (.frz default (.lst (ns.map V.int))) else H b) Q E (law_spT h _ _ _ hl hb q (tabK_frz t hS) (.inr ⟨default, if_pos rfl⟩))
    · exact F.len _ H Q E (law_spT h _ _ _ hl hb q t (.inr hS))
    · exact F.len _ H Q E (law_spT h _ _ _ hl hb q t (.inl fun H' => .inr hS))
  · subst e
    rcases hS with (hS | hS) | hS
    · -- a list that may be written: it is not written here
      have hoa := he.hok a _ hS
      have hoa' := hoa
      obtain ⟨_, _, _, _, hg⟩ := hoa'
      obtain ⟨o, ho⟩ : ∃ o, s.heap.get? a = some o := ⟨_, hg⟩
      let H' : Hp := fun b => if b = a then some (.frz o (.lst (ns.map V.int))) else H b
      have ha : H' a = some (.frz o (.lst (ns.map V.int))) := if_pos rfl
      have hne : ∀ {b : Addr}, b ≠ a → H' b = H b := fun {b} q => if_neg q
      have nea : ∀ {b : Addr} {u : HO}, H b = some u → u ≠ .lst (ns.map V.int) → b ≠ a := fun {b u} e1 e2 e3 => by
        subst e3; rw [hS] at e1; exact e2 (Option.some.inj e1).symm
      have non : ∀ {b : Addr}, H b = none → b ≠ a := fun {b} e1 e3 => by subst e3; rw [hS] at e1; cases e1
      have stay : ∀ {b : Addr} {u : HO}, ObjOk P w H s.heap b u → ObjOk P w H' s.heap b u := fun {b u} x =>
        x.stay (fun _ _ _ q => q) (fun c e1 => by rw [hne (nea e1 (fun z => by cases z))]; exact e1) fun c xs e1 => by rw [hne (nea e1 (fun z => by cases z))]; exact e1
      have hok : HOk P w H' s.heap := fun b u e1 => by
        by_cases hb : b = a
        · subst hb
          rw [ha] at e1
          cases e1
          exact ⟨ho, stay hoa⟩
        · rw [hne hb] at e1
          exact stay (he.hok b u e1)
      have he' : Env0 P w K mg base A outer s H' := ⟨he.frames, he.mod, fun b ob e1 => ⟨(he.bs b ob e1).1, by rw [hne (non (he.bs b ob e1).2)]; exact (he.bs b ob e1).2⟩, he.bsz, he.funs, fun b hb => by rw [hne (non (he.frf b hb))]; exact he.frf b hb, hok, he.bare⟩
      refine codeAny_mono (F.run A outer s H' args us _ Q (fun _ _ _ => False) hr he' hbi hv (law_spT h _ _ _ hl hb q (tabK_frz t hS) (.inr ⟨o, ha⟩))) fun r s' hq => ?_
      have un : ∀ {H2 : Hp} {h2 : Heap}, Un (frs outer) [] H' H2 s.heap h2 → Un (frs outer) [] H H2 s.heap h2 := fun {H2 h2} U =>
        ⟨fun b ob e1 e2 => U.keep b ob e1 (by rw [hne (non e2)]; exact e2), fun b ob e1 e2 => U.slot b ob e1 (by rw [hne (non e2)]; exact e2), fun b ob e1 e2 => U.free b ob e1 (by rw [hne (non e2)]; exact e2), U.there,
          fun b xs e1 => U.tups b xs (by rw [hne (nea e1 (fun z => by cases z))]; exact e1), fun b ob u e1 => U.frzs b ob u (by rw [hne (nea e1 (fun z => by cases z))]; exact e1), fun b pp e1 => U.tbls b pp (by rw [hne (nea e1 (fun z => by cases z))]; exact e1)⟩
      cases r with
      | error er =>
        obtain ⟨_, _, _, _, _, _, _, _, _, _, _, _, z⟩ := hq
        exact z.elim
      | ok fl =>
        cases fl with
        | ret u =>
          obtain ⟨v, H2, e1, e2, e3, e4, e5, e6⟩ := hq
          exact ⟨v, H2, e1, e2, un e3, e4, e5, e6⟩
        | next => exact hq
        | brk => exact hq
        | cont => exact hq
    · exact F.run A outer s H args us _ Q E hr he hbi hv (law_spT h _ _ _ hl hb q t (.inr hS))
    · exact F.run A outer s H args us _ Q E hr he hbi hv (law_spT h _ _ _ hl hb q t (.inl fun H' => .inr hS))
end
end Cz
set_option maxHeartbeats 1000000
namespace Cz
open PySem PySem.Spec PyProof.Rows L2
section
variable {ρ : Env} {a b c : SE} {t u v : STs} {s s' : SS} {k k' : Kd} {d d' : D} {is : List Nat}
@[simp] theorem locE_ev (i : Nat) : locE i ρ = match ρ[i]? with | some (.ow d) => .ok (.bor [i], d) | some (.bo is d) => .ok (.bor is, d) | _ => .st := id rfl
@[simp] theorem conE_ev : conE d ρ = .ok (.own, d) := id rfl
@[simp] theorem binE_ev {op : Operator} : binE op a b ρ = (a ρ).bind fun x => (b ρ).bind fun y => R.of (opB op x y) := id rfl
@[simp] theorem cmpT_ev {op : CmpOp} : cmpT op a b ρ = (a ρ).bind fun x => (b ρ).bind fun y => R.of (cmpB op x.2 y.2) := id rfl
@[simp] theorem chnT_ev {o1 o2 : CmpOp} : chnT o1 o2 a b c ρ = (a ρ).bind fun x => (b ρ).bind fun y => (R.of (cmpB o1 x.2 y.2)).bind fun t => if t = true then (c ρ).bind fun z => R.of (cmpB o2 y.2 z.2) else .ok false := id rfl
@[simp] theorem andT_ev : andT t u ρ = (t ρ).bind fun b => if b = true then u ρ else .ok false := id rfl
@[simp] theorem orT_ev : orT t u ρ = (t ρ).bind fun b => if b = true then .ok true else u ρ := id rfl
@[simp] theorem notT_ev : notT t ρ = (t ρ).bind fun b => .ok (!b) := id rfl
@[simp] theorem valT_ev : valT a ρ = (a ρ).bind fun x => R.of (truD x.2) := id rfl
@[simp] theorem boolE_ev : boolE t ρ = (t ρ).bind fun b => .ok (.own, .bl b) := id rfl
@[simp] theorem bvT_ev : bvT a ρ = (a ρ).bind fun x => match x.2 with | .bl b => .ok b | _ => .st := id rfl
@[simp] theorem iteE_ev : iteE t a b ρ = (t ρ).bind fun c => if c = true then a ρ else b ρ := id rfl
@[simp] theorem negE_ev : negE a ρ = (a ρ).bind fun x => match x.2 with | .int i => .ok (.own, .int (-i)) | _ => .st := id rfl
@[simp] theorem nilA_ev : nilA ρ = .ok [] := id rfl
@[simp] theorem consA_ev {r : SA} : consA a r ρ = (a ρ).bind fun x => (r ρ).bind fun xs => .ok (x :: xs) := id rfl
@[simp] theorem tupE_ev {r : SA} : tupE r ρ = (r ρ).bind fun xs => if xs.length ≤ LIM then .ok (jn xs, .tup (xs.map (·.2))) else .st := id rfl
@[simp] theorem lstE_ev {r : SA} : lstE r ρ = (r ρ).bind fun xs => if xs.length ≤ LIM then .ok (lk (jn xs) (xs.map (·.2)), .lst (xs.map (·.2))) else .st := id rfl
@[simp] theorem dnwE_ev : dnwE ρ = .ok (.own, .dic []) := id rfl
@[simp] theorem idxE_ev : idxE a b ρ = (a ρ).bind fun x => (b ρ).bind fun y => R.of (idxB x y.2) := id rfl
@[simp] theorem noO_ev : noO ρ = .ok none := id rfl
@[simp] theorem someO_ev : someO a ρ = (a ρ).bind fun x => match x.2 with | .int i => .ok (some i) | _ => .st := id rfl
@[simp] theorem slE_ev {lo hi : SO} : slE a lo hi ρ = (a ρ).bind fun x => (lo ρ).bind fun l => (hi ρ).bind fun h => R.of (slB x l h) := id rfl
@[simp] theorem callE_ev {fn : Fn} {r : SA} {dd : List D} : callE fn r dd ρ = (r ρ).bind fun xs => (fn (xs.map (·.2) ++ dd)).bind fun kd => .ok (retK kd.1 (jn xs), kd.2) := id rfl
@[simp] theorem bltE_ev {f : List KD → Option KD} {r : SA} : bltE f r ρ = (r ρ).bind fun xs => R.of (f xs) := id rfl
@[simp] theorem isiE_ev {T : String} : isiE a T ρ = (a ρ).bind fun x => if tyK x.2 = true then (match kitB (tyD x.2) T with | some b => .ok (.own, .bl b) | none => .st) else .st := id rfl
@[simp] theorem tyK_non : tyK .non = true := id rfl
@[simp] theorem tyK_bl {b : Bool} : tyK (.bl b) = true := id rfl
@[simp] theorem tyK_int {i : Int} : tyK (.int i) = true := id rfl
@[simp] theorem tyK_str {i : Str} : tyK (.str i) = true := id rfl
@[simp] theorem tyK_tup {l : List D} : tyK (.tup l) = true := id rfl
@[simp] theorem tyK_lst {l : List D} : tyK (.lst l) = true := id rfl
@[simp] theorem tyK_scr {l : List D} : tyK (.scr l) = true := id rfl
@[simp] theorem tyK_dic {l : List (Key × D)} : tyK (.dic l) = true := id rfl
@[simp] theorem seqI_ev : seqI a ρ = (a ρ).bind fun x => match x.2 with | .lst ds => .ok (x.1, ds) | .scr ds => .ok (x.1, ds) | .tup ds => .ok (x.1, ds) | .str z => .ok (.own, z.cps.toList.map fun c => .str ⟨#[c]⟩) | _ => .st := id rfl
@[simp] theorem rng1I_ev : rng1I a ρ = (a ρ).bind fun x => match x.2 with | .int j => if rgOk j = true then .ok (.own, rng 0 j.toNat) else .st | _ => .st := id rfl
@[simp] theorem rng2I_ev : rng2I a b ρ = (a ρ).bind fun x => (b ρ).bind fun y => match x.2, y.2 with | .int i, .int j => if (rgOk i && rgOk j) = true then .ok (.own, rng i (j - i).toNat) else .st | _, _ => .st := id rfl
@[simp] theorem yesT_ev : yesT ρ = .ok true := id rfl
theorem lcE_ev {it : SI} {own : List Nat} {tg : Tgt} {ifs : STs} {elt : SE} : lcE it own tg ifs elt ρ = (it ρ).bind fun kds => if own.all (notOw ρ) = true ∧ kds.2.length ≤ LIM then (noex (lcL tg ifs elt kds.1 (wipE ρ own) kds.2)).bind fun xs => .ok (lk (jn xs) (xs.map (·.2)), .lst (xs.map (·.2))) else .st := id rfl
@[simp] theorem nilS_ev : nilS ρ = .nx ρ := id rfl
def Out.seq (o : Out) (f : Env → Out) : Out := match o with | .nx ρ' => f ρ' | o => o
@[simp] theorem seqS_ev : seqS s s' ρ = (s ρ).seq s' := id rfl
@[simp] theorem seq_nx {f : Env → Out} : (Out.nx ρ).seq f = f ρ := id rfl
@[simp] theorem seq_rt {f : Env → Out} : (Out.rt k d).seq f = .rt k d := id rfl
@[simp] theorem seq_bk {f : Env → Out} : (Out.bk ρ).seq f = .bk ρ := id rfl
@[simp] theorem seq_ct {f : Env → Out} : (Out.ct ρ).seq f = .ct ρ := id rfl
@[simp] theorem seq_ex {f : Env → Out} {c : Ec} : (Out.ex c ρ).seq f = .ex c ρ := id rfl
@[simp] theorem seq_st {f : Env → Out} : Out.st.seq f = .st := id rfl
@[simp] theorem seq_ite {f : Env → Out} {p : Prop} [Decidable p] {x y : Out} : (if p then x else y).seq f = if p then x.seq f else y.seq f := by split <;> rfl
def Out.turn (o : Out) (f : Env → Out) : Out := match o with | .nx ρ2 => f ρ2 | .ct ρ2 => f ρ2 | .bk ρ2 => .nx ρ2 | o => o
@[simp] theorem turn_nx {f : Env → Out} : (Out.nx ρ).turn f = f ρ := id rfl
@[simp] theorem turn_rt {f : Env → Out} : (Out.rt k d).turn f = .rt k d := id rfl
@[simp] theorem turn_bk {f : Env → Out} : (Out.bk ρ).turn f = .nx ρ := id rfl
@[simp] theorem turn_ct {f : Env → Out} : (Out.ct ρ).turn f = f ρ := id rfl
@[simp] theorem turn_ex {f : Env → Out} {c : Ec} : (Out.ex c ρ).turn f = .ex c ρ := id rfl
@[simp] theorem turn_st {f : Env → Out} : Out.st.turn f = .st := id rfl
@[simp] theorem turn_ite {f : Env → Out} {p : Prop} [Decidable p] {x y : Out} : (if p then x else y).turn f = if p then x.turn f else y.turn f := by split <;> rfl
def Out.fin (o : Out) : R KD := match o with | .rt k d => .ok (nk k d, d) | .nx _ => .ok (.own, .non) | .ex c _ => .ex c | _ => .st
@[simp] theorem fin_nx : (Out.nx ρ).fin = .ok (.own, .non) := id rfl
@[simp] theorem fin_rt : (Out.rt k d).fin = .ok (nk k d, d) := id rfl
@[simp] theorem nk_own : nk .own d = .own := by unfold nk; split <;> rfl
theorem nk_noL (h : noL d = true) : nk k d = .own := if_pos h
@[simp] theorem nk_int {i : Int} : nk k (.int i) = .own := nk_noL (by simp [noL])
@[simp] theorem nk_bl {i : Bool} : nk k (.bl i) = .own := nk_noL (by simp [noL])
@[simp] theorem nk_str {i : Str} : nk k (.str i) = .own := nk_noL (by simp [noL])
@[simp] theorem nk_non : nk k .non = .own := nk_noL (by simp [noL])
@[simp] theorem nk_tup {l : List D} : nk k (.tup l) = lk k l := by
  have e : noL (.tup l) = noLs l := by simp [noL]
  unfold nk lk
  rw [e]
@[simp] theorem nk_lst {l : List D} : nk k (.lst l) = k := by simp [nk, noL]
@[simp] theorem nk_dic {l : List (Key × D)} : nk k (.dic l) = k := by simp [nk, noL]
@[simp] theorem fin_ex {c : Ec} : (Out.ex c ρ).fin = .ex c := id rfl
@[simp] theorem fin_st : Out.st.fin = .st := id rfl
@[simp] theorem fin_ite {p : Prop} [Decidable p] {x y : Out} : (if p then x else y).fin = if p then x.fin else y.fin := by split <;> rfl
@[simp] theorem asgS_ev {g : Tgt} : asgS g a ρ = (a ρ).out ρ fun x => match g x.1 x.2 ρ with | some ρ' => .nx ρ' | none => .st := id rfl
@[simp] theorem ifS_ev : ifS t s s' ρ = (t ρ).out ρ fun c => if c = true then s ρ else s' ρ := id rfl
@[simp] theorem retS_ev : retS a ρ = (a ρ).out ρ fun x => .rt x.1 x.2 := id rfl
@[simp] theorem retV_ev {i : Nat} : retV i ρ = match ρ[i]? with | some (.ow d) => .rt .own d | some (.bo is d) => .rt (.bor is) d | _ => .st := id rfl
@[simp] theorem raiS_ev {c : String} : raiS c ρ = .ex c ρ := id rfl
@[simp] theorem dropS_ev : dropS a ρ = (a ρ).out ρ fun _ => .nx ρ := id rfl
@[simp] theorem forS_ev {it : SI} {g : Tgt} : forS it g s ρ = (it ρ).out ρ fun kds => loopS g s kds.2 (frz kds.1.is ρ) := id rfl
@[simp] theorem loopS_nil {g : Tgt} : loopS g s [] ρ = .nx ρ := id rfl
theorem loopS_cons {g : Tgt} {ds : List D} : loopS g s (d :: ds) ρ = match g (.bor []) d ρ with | none => .st | some ρ1 => (s ρ1).turn (loopS g s ds) := id rfl
@[simp] theorem appS_ev {i : Nat} : appS i a ρ = match ρ[i]? with | some (.ow (.lst ds)) => (a ρ).out ρ fun x => if okIn x.1 [x.2] = true ∧ ds.length < LIM then .nx ((inv i ρ).set i (.ow (.lst (ds ++ [x.2])))) else .st | _ => .st := id rfl
@[simp] theorem tgN_ev {i : Nat} : tgN i k d ρ = some (ρ.set i (mkS k d)) := id rfl
@[simp] theorem tgT_tup {g : Tgts} {ds : List D} : tgT g k (.tup ds) ρ = g k.is ds ρ := id rfl
@[simp] theorem tgT_lst {g : Tgts} {ds : List D} : tgT g k (.lst ds) ρ = g k.is ds ρ := id rfl
@[simp] theorem tgNil_ev : tgNil is [] ρ = some ρ := id rfl
@[simp] theorem tgCons_ev {g : Tgt} {r : Tgts} {ds : List D} : tgCons g r is (d :: ds) ρ = (g (.bor is) d ρ).bind fun ρ' => r is ds ρ' := id rfl
@[simp] theorem tgCons_nil {g : Tgt} {r : Tgts} : tgCons g r is [] ρ = none := id rfl
@[simp] theorem runF_ev {m : Nat} {ds : List D} : runF m s ds = (s (ds.map (Sl.bo []) ++ List.replicate (m - ds.length) .no)).fin := id rfl
theorem mkF_ev {n m : Nat} {ds : List D} : mkF n m s ds = if ds.length = n then runF m s ds else .st := id rfl
@[simp] theorem mkS_int {i : Int} : mkS k (.int i) = .bo [] (.int i) := by cases k <;> rfl
@[simp] theorem mkS_bl {i : Bool} : mkS k (.bl i) = .bo [] (.bl i) := by cases k <;> rfl
@[simp] theorem mkS_str {i : Str} : mkS k (.str i) = .bo [] (.str i) := by cases k <;> rfl
@[simp] theorem mkS_non : mkS k .non = .bo [] .non := by cases k <;> rfl
@[simp] theorem mkS_ownL {ds : List D} : mkS .own (.lst ds) = .ow (.lst ds) := id rfl
@[simp] theorem mkS_ownT {ds : List D} : mkS .own (.tup ds) = .ow (.tup ds) := id rfl
@[simp] theorem mkS_ownD {ds : List (Key × D)} : mkS .own (.dic ds) = .ow (.dic ds) := id rfl
@[simp] theorem mkS_borL {ds : List D} : mkS (.bor is) (.lst ds) = .bo is (.lst ds) := id rfl
@[simp] theorem mkS_borT {ds : List D} : mkS (.bor is) (.tup ds) = .bo is (.tup ds) := id rfl
@[simp] theorem mkS_borS {ds : List D} : mkS (.bor is) (.scr ds) = .bo is (.scr ds) := id rfl
@[simp] theorem mkS_borD {ds : List (Key × D)} : mkS (.bor is) (.dic ds) = .bo is (.dic ds) := id rfl
@[simp] theorem Kd_is_own : Kd.is .own = [] := id rfl
@[simp] theorem Kd_is_bor : Kd.is (.bor is) = is := id rfl
@[simp] theorem jn_nil : jn [] = .own := id rfl
@[simp] theorem jn_cons {x : KD} {r : List KD} : jn (x :: r) = (nk x.1 x.2).join (jn r) := id rfl
@[simp] theorem join_oo : Kd.join .own .own = .own := id rfl
@[simp] theorem join_ob : Kd.join .own (.bor is) = .bor is := id rfl
@[simp] theorem join_bo : Kd.join (.bor is) .own = .bor is := by simp [Kd.join, Kd.is]
@[simp] theorem join_bb {js : List Nat} : Kd.join (.bor is) (.bor js) = .bor (is ++ js) := id rfl
@[simp] theorem retK_own : retK .own k = .own := id rfl
@[simp] theorem retK_bor : retK (.bor is) k = .bor k.is := id rfl
@[simp] theorem frz_nil : frz [] ρ = ρ := id rfl
@[simp] theorem frz_cons {j : Nat} : frz (j :: is) ρ = frz is (frz1 j ρ) := id rfl
@[simp] theorem frz1_ev {j : Nat} : frz1 j ρ = match ρ[j]? with | some (.ow d) => ρ.set j (.bo [] d) | _ => ρ := id rfl
@[simp] theorem inv_nil {i : Nat} : inv i [] = [] := id rfl
@[simp] theorem inv_no {i : Nat} : inv i (.no :: ρ) = .no :: inv i ρ := id rfl
@[simp] theorem inv_owc {i : Nat} : inv i (.ow d :: ρ) = .ow d :: inv i ρ := id rfl
@[simp] theorem inv_boc {i : Nat} : inv i (.bo is d :: ρ) = (if i ∈ is then .no else .bo is d) :: inv i ρ := id rfl
@[simp] theorem wipE_nil : wipE ρ [] = ρ := id rfl
@[simp] theorem wipE_cons {i : Nat} : wipE ρ (i :: is) = (wipE ρ is).set i .no := id rfl
@[simp] theorem notOw_ev {i : Nat} : notOw ρ i = (decide (i < ρ.length) && match ρ[i]? with | some (.ow _) => false | _ => true) := id rfl
@[simp] theorem slD_ow : slD (some (.ow d)) = some d := id rfl
@[simp] theorem slD_bo : slD (some (.bo is d)) = some d := id rfl
@[simp] theorem opB_add {i j : Int} : opB .Add (k, .int i) (k', .int j) = some (.own, .int (i + j)) := id rfl
@[simp] theorem opB_sub {i j : Int} : opB .Sub (k, .int i) (k', .int j) = some (.own, .int (i - j)) := id rfl
@[simp] theorem opB_mul {i j : Int} : opB .Mult (k, .int i) (k', .int j) = if mulOk i j = true then some (.own, .int (i * j)) else none := id rfl
@[simp] theorem opB_div {i j : Int} : opB .FloorDiv (k, .int i) (k', .int j) = if divOk j = true then some (.own, .int (i / j)) else none := id rfl
@[simp] theorem opB_mod {i j : Int} : opB .Mod (k, .int i) (k', .int j) = if 0 < j then some (.own, .int (i % j)) else none := id rfl
@[simp] theorem opB_pow {i j : Int} : opB .Pow (k, .int i) (k', .int j) = if powOk i j = true then some (.own, .int (i ^ j.toNat)) else none := id rfl
@[simp] theorem opB_addS {i j : Str} : opB .Add (k, .str i) (k', .str j) = if i.length + j.length ≤ LIM then some (.own, .str (i ++ j)) else none := id rfl
@[simp] theorem opB_addT {x y : List D} : opB .Add (k, .tup x) (k', .tup y) = if x.length + y.length ≤ LIM then some (k.join k', .tup (x ++ y)) else none := id rfl
@[simp] theorem opB_addL {x y : List D} : opB .Add (k, .lst x) (k', .lst y) = if x.length + y.length ≤ LIM then some (lk (k.join k') (x ++ y), .lst (x ++ y)) else none := id rfl
@[simp] theorem opB_mulT {x : List D} {j : Int} : opB .Mult (k, .tup x) (k', .int j) = if x ≠ [] ∧ 1 ≤ j ∧ j ≤ 1000 ∧ x.length ≤ 1000 ∧ noLs x = true then some (k, .tup (List.replicate j.toNat x).flatten) else none := id rfl
@[simp] theorem cmpB_lt {i j : Int} : cmpB .Lt (.int i) (.int j) = some (decide (i < j)) := id rfl
@[simp] theorem cmpB_le {i j : Int} : cmpB .LtE (.int i) (.int j) = some (decide (i ≤ j)) := id rfl
@[simp] theorem cmpB_gt {i j : Int} : cmpB .Gt (.int i) (.int j) = some (decide (i > j)) := id rfl
@[simp] theorem cmpB_ge {i j : Int} : cmpB .GtE (.int i) (.int j) = some (decide (i ≥ j)) := id rfl
@[simp] theorem cmpB_eq : cmpB .Eq d d' = eqD d d' := id rfl
@[simp] theorem cmpB_ne : cmpB .NotEq d d' = (eqD d d').map (!·) := id rfl
@[simp] theorem cmpB_is : cmpB .Is d .non = some (isNon d) := id rfl
@[simp] theorem cmpB_isnot : cmpB .IsNot d .non = some (!isNon d) := id rfl
@[simp] theorem cmpB_in : cmpB .In d d' = inD d d' := id rfl
@[simp] theorem cmpB_nin : cmpB .NotIn d d' = (inD d d').map (!·) := id rfl
@[simp] theorem isNon_non : isNon .non = true := id rfl
@[simp] theorem isNon_int {i : Int} : isNon (.int i) = false := id rfl
@[simp] theorem isNon_tup {l : List D} : isNon (.tup l) = false := id rfl
@[simp] theorem isNon_lst {l : List D} : isNon (.lst l) = false := id rfl
@[simp] theorem truD_bl {x : Bool} : truD (.bl x) = some x := id rfl
@[simp] theorem truD_int {x : Int} : truD (.int x) = some (x != 0) := id rfl
@[simp] theorem idxB_lst {l : List D} {i : Int} : idxB (k, .lst l) (.int i) = (atI l i).map fun d => (k, d) := id rfl
@[simp] theorem idxB_scr {l : List D} {i : Int} : idxB (k, .scr l) (.int i) = (atI l i).map fun d => (k, d) := id rfl
@[simp] theorem idxB_tup {l : List D} {i : Int} : idxB (k, .tup l) (.int i) = (atI l i).map fun d => (k, d) := id rfl
@[simp] theorem idxB_dic {l : List (Key × D)} : idxB (k, .dic l) d = (keyD d).bind fun q => (valD l q).map fun d => (k, d) := by cases d <;> rfl
@[simp] theorem slB_lst {l : List D} {lo hi : Option Int} : slB (k, .lst l) lo hi = some (lk k (cutD l lo hi), .lst (cutD l lo hi)) := id rfl
@[simp] theorem slB_scr {l : List D} {lo hi : Option Int} : slB (k, .scr l) lo hi = some (lk k (cutD l lo hi), .lst (cutD l lo hi)) := id rfl
@[simp] theorem slB_tup {l : List D} {lo hi : Option Int} : slB (k, .tup l) lo hi = some (k, .tup (cutD l lo hi)) := id rfl
@[simp] theorem bLen_ev {x : KD} : bLen [x] = (lenD x.2).map fun (n : Nat) => (Kd.own, D.int (n : Int)) := id rfl
@[simp] theorem lenD_lst {l : List D} : lenD (.lst l) = some l.length := id rfl
@[simp] theorem lenD_scr {l : List D} : lenD (.scr l) = some l.length := id rfl
@[simp] theorem lenD_tup {l : List D} : lenD (.tup l) = some l.length := id rfl
@[simp] theorem lenD_dic {l : List (Key × D)} : lenD (.dic l) = some l.length := id rfl
@[simp] theorem bMax_2 {i j : Int} : bMax [(k, .int i), (k', .int j)] = some (.own, .int (max i j)) := id rfl
@[simp] theorem bMax_l {l : List D} : bMax [(k, .lst l)] = ((intsD l).bind maxL).map fun n => (.own, .int n) := id rfl
@[simp] theorem bMax_t {l : List D} : bMax [(k, .tup l)] = ((intsD l).bind maxL).map fun n => (.own, .int n) := id rfl
@[simp] theorem bMin_2 {i j : Int} : bMin [(k, .int i), (k', .int j)] = some (.own, .int (min i j)) := id rfl
@[simp] theorem bMin_l {l : List D} : bMin [(k, .lst l)] = ((intsD l).bind minL).map fun n => (.own, .int n) := id rfl
@[simp] theorem bMin_t {l : List D} : bMin [(k, .tup l)] = ((intsD l).bind minL).map fun n => (.own, .int n) := id rfl
@[simp] theorem bSum_l {l : List D} : bSum [(k, .lst l)] = (intsD l).map fun ns => (.own, .int ns.sum) := id rfl
@[simp] theorem bSum_s {l : List D} : bSum [(k, .scr l)] = (intsD l).map fun ns => (.own, .int ns.sum) := id rfl
@[simp] theorem bAll_l {l : List D} : bAll [(k, .lst l)] = (blsD l).map fun ns => (.own, .bl (ns.all id)) := id rfl
@[simp] theorem bLst_l {l : List D} : bLst [(k, .lst l)] = some (lk k l, .lst l) := id rfl
@[simp] theorem bLst_t {l : List D} : bLst [(k, .tup l)] = some (lk k l, .lst l) := id rfl
@[simp] theorem bLst_s {l : List D} : bLst [(k, .scr l)] = some (lk k l, .lst l) := id rfl
@[simp] theorem noL_int {i : Int} : noL (.int i) = true := id rfl
@[simp] theorem noL_bl {i : Bool} : noL (.bl i) = true := id rfl
@[simp] theorem noL_str {i : Str} : noL (.str i) = true := id rfl
@[simp] theorem noL_non : noL .non = true := id rfl
@[simp] theorem noL_tup {l : List D} : noL (.tup l) = noLs l := by simp [noL]
@[simp] theorem noL_lst {l : List D} : noL (.lst l) = false := by simp [noL]
@[simp] theorem noL_dic {l : List (Key × D)} : noL (.dic l) = false := by simp [noL]
@[simp] theorem noLs_nil : noLs [] = true := by simp [noLs]
@[simp] theorem noLs_cons {l : List D} : noLs (d :: l) = (noL d && noLs l) := by simp [noLs]
@[simp] theorem noLs_app {l m : List D} : noLs (l ++ m) = (noLs l && noLs m) := by
  induction l with
  | nil => simp
  | cons x l ih => simp [ih, Bool.and_assoc]
theorem lk_own {l : List D} : lk .own l = .own := by unfold lk; split <;> rfl
@[simp] theorem lk_own' {l : List D} : lk .own l = .own := lk_own
theorem lk_noL {l : List D} (h : noLs l = true) : lk k l = .own := if_pos h
@[simp] theorem lk_ints {l : List Int} : lk k (l.map D.int) = .own := lk_noL (noLs_ints l)
@[simp] theorem okIn_own {l : List D} : okIn .own l = true := id rfl
@[simp] theorem okIn_bor {l : List D} : okIn (.bor is) l = noLs l := id rfl
@[simp] theorem noex_ok {α : Type} {x : α} : noex (.ok x) = .ok x := id rfl
@[simp] theorem R_of_ite {α : Type} {p : Prop} [Decidable p] {x y : Option α} : R.of (if p then x else y) = if p then R.of x else R.of y := by split <;> rfl
@[simp] theorem R_bind_ite {α β : Type} {p : Prop} [Decidable p] {x y : R α} {f : α → R β} : (if p then x else y).bind f = if p then x.bind f else y.bind f := by split <;> rfl
@[simp] theorem R_out_ite {α : Type} {p : Prop} [Decidable p] {x y : R α} {f : α → Out} : (if p then x else y).out ρ f = if p then x.out ρ f else y.out ρ f := by split <;> rfl
@[simp] theorem lim_lit : LIM = 16777216 := id rfl
end
end Cz
set_option maxHeartbeats 1000000
namespace Cz
open PySem PySem.Spec PyProof.Rows L2
section
variable {ρ : Env} {a b c : SE} {t u v : STs} {s s' : SS} {k k' : Kd} {d d' : D} {is : List Nat} {p : SPh} {r : SA}
@[simp] theorem locP_ev {i : Nat} : locP i ρ = match ρ[i]? with | some (.ow d) => .ok (i, [], d) | _ => .st := id rfl
@[simp] theorem idxP_ev : idxP p a ρ = (p ρ).bind fun x => (a ρ).bind fun y => match stepD x.2.2 y.2 with | some (i, d) => .ok (x.1, x.2.1 ++ [i], d) | none => .st := id rfl
@[simp] theorem stepD_lst {ds : List D} {n : Int} : stepD (.lst ds) (.int n) = (ixN ds.length n).bind fun j => ds[j]?.map fun d => (.at j, d) := id rfl
@[simp] theorem stepD_tup {ds : List D} {n : Int} : stepD (.tup ds) (.int n) = (ixN ds.length n).bind fun j => ds[j]?.map fun d => (.at j, d) := id rfl
@[simp] theorem stepD_dic {ds : List (Key × D)} : stepD (.dic ds) d = (keyD d).bind fun k => (valD ds k).map fun d => (.key k, d) := id rfl
@[simp] theorem mtS_ev {T : MT} {op : MOp} : mtS T p r op ρ = (p ρ).out ρ fun x => if T.ok x.2.2 = true then (r ρ).out ρ fun xs => match op x.2.2 xs with | some y => (match putAt ρ x y.2 with | some ρ' => .nx ρ' | none => .st) | none => .st else .st := id rfl
@[simp] theorem stoS_ev : stoS p a b ρ = (b ρ).out ρ fun x => (p ρ).out ρ fun y => (a ρ).out ρ fun z => match setB y.2.2 z.2 x with | some d => (match putAt ρ y d with | some ρ' => .nx ρ' | none => .st) | none => .st := id rfl
@[simp] theorem putAt_ev {i : Nat} {q : List Ix} {d0 : D} : putAt ρ (i, q, d0) d' = (setP q ((slD ρ[i]?).getD .non) d').map fun d' => (inv i ρ).set i (.ow d') := id rfl
@[simp] theorem setP_nil : setP [] d d' = some d' := by simp [setP]
@[simp] theorem setP_at {q : List Ix} {j : Nat} {ds : List D} : setP (.at j :: q) (.lst ds) d' = ds[j]?.bind fun d => (setP q d d').map fun d' => .lst (ds.set j d') := by simp [setP]
@[simp] theorem setP_atT {q : List Ix} {j : Nat} {ds : List D} : setP (.at j :: q) (.tup ds) d' = ds[j]?.bind fun d => (setP q d d').map fun d' => .tup (ds.set j d') := by simp [setP]
@[simp] theorem setP_key {q : List Ix} {k : Key} {ds : List (Key × D)} : setP (.key k :: q) (.dic ds) d' = (valD ds k).bind fun d => (setP q d d').map fun d' => .dic (putD ds k d') := by simp [setP]
@[simp] theorem setB_lst {ds : List D} {n : Int} {x : KD} : setB (.lst ds) (.int n) x = if okIn x.1 [x.2] = true then (ixN ds.length n).map fun j => .lst (ds.set j x.2) else none := id rfl
@[simp] theorem setB_dic {ds : List (Key × D)} {x : KD} : setB (.dic ds) d x = if okIn x.1 [x.2] = true then (keyD d).bind fun k => if ds.length < LIM then some (.dic (putD ds k x.2)) else none else none := id rfl
@[simp] theorem MTok_l {ds : List D} : MT.ok .l (.lst ds) = true := id rfl
@[simp] theorem MTok_d {ds : List (Key × D)} : MT.ok .d (.dic ds) = true := id rfl
@[simp] theorem opApp_ev {ds : List D} {x : KD} : opApp (.lst ds) [x] = if okIn x.1 [x.2] = true ∧ ds.length < LIM then some (.non, .lst (ds ++ [x.2])) else none := id rfl
@[simp] theorem opExt_ev {ds es : List D} : opExt (.lst ds) [(k, .lst es)] = if okIn k es = true ∧ ds.length + es.length ≤ LIM then some (.non, .lst (ds ++ es)) else none := id rfl
def Out.try (o : Out) (xs : List String) (hs : List (String × (Ec → SS))) : Out := match o with | .ex c ρ' => if xs.contains c.nm = true then hanS c hs ρ' else .st | o => o
@[simp] theorem tryS_ev' {xs : List String} {hs : List (String × (Ec → SS))} : tryS xs s hs ρ = (s ρ).try xs hs := id rfl
section
variable {xs : List String} {hs : List (String × (Ec → SS))}
@[simp] theorem try_nx : (Out.nx ρ).try xs hs = .nx ρ := id rfl
@[simp] theorem try_rt : (Out.rt k d).try xs hs = .rt k d := id rfl
@[simp] theorem try_bk : (Out.bk ρ).try xs hs = .bk ρ := id rfl
@[simp] theorem try_ct : (Out.ct ρ).try xs hs = .ct ρ := id rfl
@[simp] theorem try_st : Out.st.try xs hs = .st := id rfl
@[simp] theorem try_ex {c : Ec} : (Out.ex c ρ).try xs hs = if xs.contains c.nm = true then hanS c hs ρ else .st := id rfl
@[simp] theorem try_ite {q : Prop} [Decidable q] {x y : Out} : (if q then x else y).try xs hs = if q then x.try xs hs else y.try xs hs := by split <;> rfl
end
@[simp] theorem hanS_nil {c : Ec} : hanS c [] ρ = .ex c ρ := id rfl
@[simp] theorem hanS_cons {c : Ec} {D : String} {l : List (String × (Ec → SS))} {s : Ec → SS} : hanS c ((D, s) :: l) ρ = if subX c.nm D = true then (s c ρ).nox else hanS c l ρ := id rfl
@[simp] theorem nox_nx : (Out.nx ρ).nox = .nx ρ := id rfl
@[simp] theorem nox_rt : (Out.rt k d).nox = .rt k d := id rfl
@[simp] theorem nox_bk : (Out.bk ρ).nox = .bk ρ := id rfl
@[simp] theorem nox_ct : (Out.ct ρ).nox = .ct ρ := id rfl
@[simp] theorem nox_st : Out.st.nox = .st := id rfl
@[simp] theorem rngdI_ev : rngdI a b c ρ = (a ρ).bind fun x => (b ρ).bind fun y => (c ρ).bind fun z => match x.2, y.2, z.2 with | .int i, .int j, .int k => if k = -1 ∧ (rgOk i && rgOk j) = true then .ok (.own, rngc i (-1) (i - j).toNat) else if (0 < k ∧ k < 1073741824) ∧ (rgOk i && rgOk j) = true then .ok (.own, rngc i k (upN i j k)) else .st | _, _, _ => .st := id rfl
@[simp] theorem cmpB_ltT {l m : List D} : cmpB .Lt (.tup l) (.tup m) = (intsD l).bind fun ns => (intsD m).map fun ms => HT.lexLt ns ms := id rfl
@[simp] theorem cmpB_leT {l m : List D} : cmpB .LtE (.tup l) (.tup m) = (intsD l).bind fun ns => (intsD m).map fun ms => leT ns ms := id rfl
@[simp] theorem mkS_fn {x : String} : mkS .own (.fn x) = .ow (.fn x) := id rfl
@[simp] theorem mkS_fnb {x : String} : mkS (.bor is) (.fn x) = .bo is (.fn x) := id rfl
@[simp] theorem noL_fn {x : String} : noL (.fn x) = true := by simp [noL]
@[simp] theorem mkS_ownK {ds : List (List Key × D)} : mkS .own (.dtk ds) = .ow (.dtk ds) := id rfl
@[simp] theorem mkS_borK {ds : List (List Key × D)} : mkS (.bor is) (.dtk ds) = .bo is (.dtk ds) := id rfl
@[simp] theorem noL_dtk {l : List (List Key × D)} : noL (.dtk l) = false := by simp [noL]
@[simp] theorem noL_obj {t : Nat} {C : String} {l : List (Str × D)} : noL (.obj t C l) = false := by simp [noL]
@[simp] theorem noL_sob {C : String} {l : List (Str × D)} : noL (.sob C l) = true := by simp [noL]
@[simp] theorem noL_fdc {l : List (Key × D)} : noL (.fdc l) = true := by simp [noL]
@[simp] theorem noL_scr {l : List D} : noL (.scr l) = noLs l := by simp [noL]
@[simp] theorem nk_dtk {l : List (List Key × D)} : nk k (.dtk l) = k := by simp [nk]
@[simp] theorem keyT_tup {l : List D} : keyT (.tup l) = keysT l := id rfl
@[simp] theorem keysT_nil : keysT [] = some [] := id rfl
theorem keysT_cons {l : List D} : keysT (d :: l) = (match keyD d, keysT l with | some k, some ks => some (k :: ks) | _, _ => none) := id rfl
@[simp] theorem keysT_int {l : List D} {i : Int} : keysT (.int i :: l) = (keysT l).map (.inl i :: ·) := by rw [keysT_cons]; cases keysT l <;> rfl
@[simp] theorem keysT_str {l : List D} {i : Str} : keysT (.str i :: l) = (keysT l).map (.inr i :: ·) := by rw [keysT_cons]; cases keysT l <;> rfl
@[simp] theorem keysT_ints : ∀ l : List Int, keysT (l.map D.int) = some (l.map Sum.inl)
  | [] => rfl
  | i :: l => by rw [List.map_cons, keysT_int, keysT_ints l]; rfl
@[simp] theorem inD_dtk {l : List (List Key × D)} : inD d (.dtk l) = (keyT d).map fun k => (valD l k).isSome := id rfl
@[simp] theorem inD_fdc {l : List (Key × D)} : inD d (.fdc l) = (keyD d).map fun k => (valD l k).isSome := id rfl
@[simp] theorem idxB_dtk {l : List (List Key × D)} : idxB (k, .dtk l) d = (keyT d).bind fun q => (valD l q).map fun d => (k, d) := by cases d <;> rfl
@[simp] theorem idxB_fdc {l : List (Key × D)} : idxB (k, .fdc l) d = (keyD d).bind fun q => (valD l q).map fun d => (.own, d) := by cases d <;> rfl
@[simp] theorem setB_dtk {ds : List (List Key × D)} {x : KD} : setB (.dtk ds) d x = if okIn x.1 [x.2] = true then (keyT d).bind fun k => if ds.length < LIM then some (.dtk (putD ds k x.2)) else none else none := id rfl
end
end Cz
set_option maxHeartbeats 1000000
namespace Cz
open PySem PySem.Spec PyProof.Rows L2
section
variable {ρ : Env} {a b c : SE} {s s' : SS} {k k' : Kd} {d d' : D} {is : List Nat} {p : SPh} {r : SA} {m : SM} {f : Env → Kd → D → Out} {g : Tgt}
@[simp] theorem mE_ev : mE a ρ = (a ρ).out ρ fun x => .ri ρ x.1 x.2 := id rfl
@[simp] theorem asgM_ev : asgM g m ρ = (m ρ).thenM fun ρ k d => match g k d ρ with | some ρ' => .nx ρ' | none => .st := id rfl
@[simp] theorem retI_ev : retI m ρ = (m ρ).thenM fun ρ k d => .ri ρ k d := id rfl
@[simp] theorem ifM_ev : ifM m s s' ρ = (m ρ).thenM fun ρ _ d => match d with | .bl true => s ρ | .bl false => s' ρ | _ => .st := id rfl
@[simp] theorem thenM_ri : (Out.ri ρ k d).thenM f = f ρ k d := id rfl
@[simp] theorem thenM_ex {c : Ec} : (Out.ex c ρ).thenM f = .ex c ρ := id rfl
@[simp] theorem thenM_st : Out.st.thenM f = .st := id rfl
@[simp] theorem thenM_ite {q : Prop} [Decidable q] {x y : Out} : (if q then x else y).thenM f = if q then x.thenM f else y.thenM f := by split <;> rfl
theorem bosOk_ev : bosOk ρ = ρ.all fun s => match s with | .bo is _ => is.all fun j => decide (j < ρ.length) | _ => true := rfl
@[simp] theorem seq_ri {f : Env → Out} : (Out.ri ρ k d).seq f = .ri ρ k d := id rfl
@[simp] theorem turn_ri {f : Env → Out} : (Out.ri ρ k d).turn f = .ri ρ k d := id rfl
@[simp] theorem try_ri {xs : List String} {hs : List (String × (Ec → SS))} : (Out.ri ρ k d).try xs hs = .ri ρ k d := id rfl
@[simp] theorem nox_ri : (Out.ri ρ k d).nox = .ri ρ k d := id rfl
end
end Cz
set_option maxHeartbeats 1000000
namespace Cz
open PySem PySem.Spec PyProof.Rows L2
section
variable {ρ : Env} {a b : SE} {k : Kd} {z : Str} {ds : List D} {r : SA} {s : SS}
@[simp] theorem joinE_ev : joinE a b ρ = (a ρ).bind fun x => match x.2 with | .str z => (b ρ).bind fun y => R.of (joinB z y.2) | _ => .st := id rfl
theorem joinB_l {ys : List Str} (h : (ys.map (·.length)).sum + ys.length * z.length ≤ 16777216) : joinB z (.lst (ys.map D.str)) = some (.own, .str (Txt.join z ys)) := by
  show (strsD _).bind _ = _
  rw [strsD_map]
  exact if_pos h
@[simp] theorem ownK_own : ownK .own = true := id rfl
@[simp] theorem slO_0 {d : D} : slO 0 (d :: ds) = mkS .own d :: ds.map (Sl.bo []) := id rfl
@[simp] theorem slO_s {i : Nat} {d : D} : slO (i + 1) (d :: ds) = .bo [] d :: slO i ds := id rfl
end
end Cz
set_option maxHeartbeats 1000000
namespace Cz
open PySem PySem.Spec PyProof.Rows L2
section
variable {ρ : Env} {a b : SE} {k : Kd} {C C' m : String} {f : Str} {d : D} {t : Nat} {fs fs' : List (Str × D)} {cs : List String} {s : SS} {r : SA} {c : Ec} {p : SPh}
@[simp] theorem fldE_ev : fldE cs f a ρ = (a ρ).bind fun x => R.of (fldB cs f x) := id rfl
@[simp] theorem fldB_obj : fldB cs f (k, .obj t C fs) = if cs.contains C = true then (valD fs f).map fun d => (k, d) else none := id rfl
@[simp] theorem fldB_sob : fldB cs f (k, .sob C fs) = if cs.contains C = true then (valD fs f).map fun d => (.own, d) else none := id rfl
@[simp] theorem fldP_ev : fldP cs f p ρ = (p ρ).bind fun x => match x.2.2 with
  | .obj _ C fs => if cs.contains C = true then (match valD fs f with
    | some d => .ok (x.1, x.2.1 ++ [.fld f], d)
    | none => .st) else .st
  | _ => .st := id rfl
@[simp] theorem stfS_ev : stfS cs p f b ρ = (b ρ).out ρ fun x => (p ρ).out ρ fun y => match y.2.2 with
  | .obj t C fs => if cs.contains C = true ∧ okIn x.1 [x.2] = true ∧ fs.length < 1000 then (match putAt ρ y (.obj t C (putD fs f x.2)) with
    | some ρ' => .nx ρ'
    | none => .st) else .st
  | _ => .st := id rfl
theorem mkG_ev {n j : Nat} {ds : List D} : mkG C n j s t fs ds = if ds.length + 1 = n then runG C j s t fs ds else .st := id rfl
theorem runG_ev {j : Nat} {ds : List D} : runG C j s t fs ds = (s (.ow (.obj t C fs) :: (ds.map (Sl.bo []) ++ List.replicate (j - (ds.length + 1)) .no))).finG t C := id rfl
@[simp] theorem finG_nx : (Out.nx ρ).finG t C = finG t C ρ .non := id rfl
@[simp] theorem finG_ri : (Out.ri ρ k d).finG t C = if ownK k = true then finG t C ρ d else .st := id rfl
@[simp] theorem finG_ex : (Out.ex c ρ).finG t C = exG t C ρ c := id rfl
@[simp] theorem finG_ow : finG t C (.ow (.obj t C fs) :: ρ) d = .ok fs d := by simp [finG, selfG]
@[simp] theorem exG_ow : exG t C (.ow (.obj t C fs) :: ρ) c = .ex c fs := by simp [exG, selfG]
@[simp] theorem rmE_ev {fn : Fn} : rmE C m fn a r ρ = (a ρ).bind fun x => match x.2 with
  | .obj _ C' fs => if C' = C ∧ noKey fs (Str.ofString m) = true then (r ρ).bind fun xs => rmK C m fn x xs else .st
  | .sob C' fs => if C' = C ∧ noKey fs (Str.ofString m) = true then (r ρ).bind fun xs => rmK C m fn x xs else .st
  | _ => .st := id rfl
@[simp] theorem rmK_ev {fn : Fn} {x : KD} {xs : List KD} : rmK C m fn x xs = (fn (x.2 :: xs.map (·.2))).bind fun kd => .ok (retK kd.1 (jn (x :: xs)), kd.2) := id rfl
theorem mkE_ev {g : GFn} : mkE C g r ρ = (r ρ).bind fun xs => match allG fun t => g t [] (xs.map (·.2)) with
  | .ok fs' .non => .ok (.own, .obj 0 C fs')
  | .ex c _ => .ex c
  | _ => .st := id rfl
theorem mkzE_ev {g : GFn} : mkzE C g r ρ = (r ρ).bind fun xs => match allG fun t => g t [] (xs.map (·.2)) with
  | .ok fs' .non => R.of ((sealF fs').map fun fs2 => (Kd.own, D.sob C fs2))
  | .ex c _ => .ex c
  | _ => .st := id rfl
@[simp] theorem retP_ev : retP a ρ = (a ρ).out ρ fun x => .ri ρ (nk x.1 x.2) x.2 := id rfl
@[simp] theorem tapS_ev : tapS a b ρ = (a ρ).out ρ fun x => match x with
  | (.own, .lst ds) => (b ρ).out ρ fun y => if okIn y.1 [y.2] = true ∧ ds.length < LIM then .nx ρ else .st
  | _ => .st := id rfl
@[simp] theorem valD_nil {κ : Type} [DecidableEq κ] {q : κ} : valD ([] : List (κ × D)) q = none := id rfl
@[simp] theorem valD_cons {κ : Type} [DecidableEq κ] {q x : κ} {r : List (κ × D)} : valD ((x, d) :: r) q = if x = q then some d else valD r q := id rfl
@[simp] theorem putD_nil {κ : Type} [DecidableEq κ] {q : κ} : putD ([] : List (κ × D)) q d = [(q, d)] := id rfl
theorem putD_new {κ : Type} [DecidableEq κ] {q : κ} {r : List (κ × D)} (h : ∀ p ∈ r, p.1 ≠ q) : putD r q d = r ++ [(q, d)] := by
  unfold putD
  rw [if_neg (fun z => by obtain ⟨p, h1, h2⟩ := List.any_eq_true.mp z; exact h p h1 (of_decide_eq_true h2))]
@[simp] theorem mkS_ownSo : mkS .own (.sob C fs) = .ow (.sob C fs) := id rfl
@[simp] theorem mkS_borSo {is : List Nat} : mkS (.bor is) (.sob C fs) = .bo is (.sob C fs) := id rfl
@[simp] theorem mkS_ownF {kvs : List (Key × D)} : mkS .own (.fdc kvs) = .ow (.fdc kvs) := id rfl
@[simp] theorem mkS_borF {is : List Nat} {kvs : List (Key × D)} : mkS (.bor is) (.fdc kvs) = .bo is (.fdc kvs) := id rfl
@[simp] theorem mkS_ownO : mkS .own (.obj t C fs) = .ow (.obj t C fs) := id rfl
@[simp] theorem mkS_borO {is : List Nat} : mkS (.bor is) (.obj t C fs) = .bo is (.obj t C fs) := id rfl
@[simp] theorem nk_sob : nk k (.sob C fs) = .own := nk_noL (by simp [noL])
@[simp] theorem nk_fdc {kvs : List (Key × D)} : nk k (.fdc kvs) = .own := nk_noL (by simp [noL])
@[simp] theorem isNon_sob : isNon (.sob C fs) = false := id rfl
@[simp] theorem isNon_obj : isNon (.obj t C fs) = false := id rfl
@[simp] theorem opB_mulS {z : Str} {k' : Kd} {j : Int} : opB .Mult (k, .str z) (k', .int j) = if 2 ≤ j ∧ j ≤ 1000 ∧ 1 ≤ z.length ∧ z.length ≤ 1000 then some (.own, .str (strMul z j.toNat)) else none := id rfl
end
end Cz
set_option maxHeartbeats 1000000
namespace Cz
open PySem PySem.Spec PyProof.Rows L2
section
variable {ρ : Env} {a b : SE} {k : Kd}
end
end Cz
set_option maxHeartbeats 1000000
namespace Cz
open PySem PySem.Spec PyProof.Rows L2
theorem atI_lit {α : Type} (l : List α) (n : Nat) : atI l ((OfNat.ofNat n : Nat) : Int) = l[n]? := by
  show atI l (n : Int) = l[n]?
  cases h : l[n]? with
  | some v => exact atI_nat h
  | none =>
    unfold atI ixN
    have : l.length ≤ n := by simpa using h
    rw [if_pos (by omega), if_neg (by omega)]
    rfl
theorem atI_nn {α : Type} (l : List α) (i : Int) (h : 0 ≤ i) : atI l i = l[i.toNat]? := by
  have := atI_lit l i.toNat
  have e : ((OfNat.ofNat i.toNat : Nat) : Int) = i := by show ((i.toNat : Nat) : Int) = i; omega
  rw [e] at this
  exact this
theorem atI_neg1 {α : Type} (l : List α) : atI l (-1) = l.getLast? := by
  rcases List.eq_nil_or_concat l with h | ⟨r, x, h⟩
  · subst h; rfl
  · subst h; rw [List.concat_eq_append, atI_last]; simp
@[simp] theorem atI_0 {α : Type} (l : List α) : atI l 0 = l[0]? := atI_lit l 0
@[simp] theorem atI_1 {α : Type} (l : List α) : atI l 1 = l[1]? := atI_lit l 1
@[simp] theorem atI_ofNat {α : Type} (l : List α) (n : Nat) : atI l (no_index (@OfNat.ofNat Int n instOfNat)) = l[(OfNat.ofNat n : Nat)]? := atI_lit l n
@[simp] theorem atI_m1 {α : Type} (l : List α) : atI l (-1) = l.getLast? := atI_neg1 l
theorem sIx_pos (n d : Nat) (i : Int) (h : 0 ≤ i) : HT.sIx n d (some i) = min i.toNat n := by
  show (if i < 0 then (i + (n : Int)).toNat else min i.toNat n) = _
  rw [if_neg (by omega)]
theorem cut_to (l : List D) (i : Int) (h : 0 ≤ i) : cutD l none (some i) = l.take i.toNat := by
  unfold cutD
  rw [HT.sIx_none, sIx_pos _ _ _ h]
  simp only [List.drop_zero, Nat.sub_zero]
  rw [List.take_eq_take_iff]; omega
@[simp] theorem noLs_take {l : List D} {n : Nat} (h : noLs l = true) : noLs (l.take n) = true := by
  induction l generalizing n with
  | nil => simp
  | cons x l ih => cases n with
    | zero => simp
    | succ n => simp at h ⊢; exact ⟨h.1, ih h.2⟩
@[simp] theorem noLs_drop {l : List D} {n : Nat} (h : noLs l = true) : noLs (l.drop n) = true := by
  induction l generalizing n with
  | nil => simp
  | cons x l ih => cases n with
    | zero => simpa using h
    | succ n => simp at h ⊢; exact ih h.2
@[simp] theorem rng_len (lo : Int) (n : Nat) : (rng lo n).length = n := by simp [rng]
theorem rgOk_of {i : Int} (h1 : -4611686018427387904 ≤ i) (h2 : i < 4611686018427387904) : rgOk i = true := by
  unfold rgOk
  rw [@decide_eq_true _ (Classical.propDecidable _) (by omega), @decide_eq_true _ (Classical.propDecidable _) (by omega)]
  rfl
@[simp] theorem noLs_rng (lo : Int) (n : Nat) : noLs (rng lo n) = true := by
  have : rng lo n = ((List.range n).map fun (i : Nat) => lo + (i : Int)).map D.int := by simp [rng, Function.comp]
  rw [this]; exact noLs_ints _
theorem lcL_map {α : Type} {tg : Tgt} {elt : SE} {k : Kd} {ρ : Env} {f : α → D} {g : α → KD} : ∀ {l : List α}, (∀ a ∈ l, ∃ ρ1, tg (.bor k.is) (f a) ρ = some ρ1 ∧ elt ρ1 = .ok (g a)) → lcL tg yesT elt k ρ (l.map f) = .ok (l.map g)
  | [], _ => rfl
  | a :: l, h => by
    obtain ⟨ρ1, h1, h2⟩ := h a List.mem_cons_self
    have ih := lcL_map (l := l) fun a ha => h a (List.mem_cons_of_mem _ ha)
    rw [List.map_cons, lcL, h1]
    simp only [yesT_ev, R.bind_ok, if_true, h2, ih, List.map_cons]
theorem lcL_filter {α : Type} {tg : Tgt} {ifs : STs} {elt : SE} {k : Kd} {ρ : Env} {f : α → D} {p : α → Bool} {g : α → KD} : ∀ {l : List α}, (∀ a ∈ l, ∃ ρ1, tg (.bor k.is) (f a) ρ = some ρ1 ∧ ifs ρ1 = .ok (p a) ∧ (p a = true → elt ρ1 = .ok (g a))) →
    lcL tg ifs elt k ρ (l.map f) = .ok ((l.filter p).map g)
  | [], _ => rfl
  | a :: l, h => by
    obtain ⟨ρ1, h1, h2, h3⟩ := h a List.mem_cons_self
    have ih := lcL_filter (l := l) fun a ha => h a (List.mem_cons_of_mem _ ha)
    rw [List.map_cons, lcL, h1]
    simp only [h2, R.bind_ok]
    cases hp : p a with
    | true => simp [h3 hp, ih, hp]
    | false => simp [ih, hp]
theorem noLs_map {α : Type} {f : α → D} {l : List α} (h : ∀ a ∈ l, noL (f a) = true) : noLs (l.map f) = true := by
  induction l with
  | nil => simp
  | cons x l ih => simp [h x List.mem_cons_self, ih fun y hy => h y (List.mem_cons_of_mem _ hy)]
section
variable {α : Type} {it : SI} {own : List Nat} {tg : Tgt} {ifs : STs} {elt : SE} {ρ : Env} {k : Kd} {l : List α} {f h : α → D} {p : α → Bool}
theorem lcE_noL (hit : it ρ = .ok (k, l.map f)) (hown : own.all (notOw ρ) = true) (hlen : l.length ≤ 16777216) (hh : ∀ a ∈ l, ∃ ρ1 k', tg (.bor k.is) (f a) (wipE ρ own) = some ρ1 ∧ elt ρ1 = .ok (k', h a) ∧ noL (h a) = true) :
    lcE it own tg yesT elt ρ = .ok (.own, .lst (l.map h)) := by
  have hk : ∀ a : α, ∃ k', a ∈ l → ∃ ρ1, tg (.bor k.is) (f a) (wipE ρ own) = some ρ1 ∧ elt ρ1 = .ok (k', h a) := fun a => by
    by_cases ha : a ∈ l
    · obtain ⟨ρ1, k', h1, h2, _⟩ := hh a ha; exact ⟨k', fun _ => ⟨ρ1, h1, h2⟩⟩
    · exact ⟨.own, fun z => absurd z ha⟩
  have := lcL_map (tg := tg) (elt := elt) (k := k) (ρ := wipE ρ own) (f := f) (l := l) (g := fun a => ((hk a).choose, h a)) fun a ha => (hk a).choose_spec ha
  rw [lcE_ev, hit]
  simp only [R.bind_ok]
  rw [if_pos ⟨hown, by simpa using hlen⟩, this]
  simp only [noex_ok, R.bind_ok, List.map_map, Function.comp_def]
  rw [lk_noL (noLs_map fun a ha => let ⟨_, _, _, _, z⟩ := hh a ha; z)]
theorem lcE_filter (hit : it ρ = .ok (k, l.map f)) (hown : own.all (notOw ρ) = true) (hlen : l.length ≤ 16777216) (hh : ∀ a ∈ l, ∃ ρ1, tg (.bor k.is) (f a) (wipE ρ own) = some ρ1 ∧ ifs ρ1 = .ok (p a) ∧ (p a = true → ∃ k', elt ρ1 = .ok (k', h a) ∧ noL (h a) = true)) :
    lcE it own tg ifs elt ρ = .ok (.own, .lst ((l.filter p).map h)) := by
  have hk : ∀ a : α, ∃ k', a ∈ l → ∃ ρ1, tg (.bor k.is) (f a) (wipE ρ own) = some ρ1 ∧ ifs ρ1 = .ok (p a) ∧ (p a = true → elt ρ1 = .ok (k', h a)) := fun a => by
    by_cases ha : a ∈ l
    · obtain ⟨ρ1, h1, h2, h3⟩ := hh a ha
      cases hp : p a with
      | true => obtain ⟨k', h4, _⟩ := h3 hp; exact ⟨k', fun _ => ⟨ρ1, h1, by rw [h2, hp], fun _ => h4⟩⟩
      | false => exact ⟨.own, fun _ => ⟨ρ1, h1, by rw [h2, hp], fun z => by cases z⟩⟩
    · exact ⟨.own, fun z => absurd z ha⟩
  have := lcL_filter (tg := tg) (ifs := ifs) (elt := elt) (k := k) (ρ := wipE ρ own) (f := f) (l := l) (p := p) (g := fun a => ((hk a).choose, h a)) fun a ha => (hk a).choose_spec ha
  rw [lcE_ev, hit]
  simp only [R.bind_ok]
  rw [if_pos ⟨hown, by simpa using hlen⟩, this]
  simp only [noex_ok, R.bind_ok, List.map_map, Function.comp_def]
  rw [lk_noL (noLs_map fun a ha => let ⟨_, _, _, h3⟩ := hh a (List.mem_filter.mp ha).1; let ⟨_, _, z⟩ := h3 (List.mem_filter.mp ha).2; z)]
end
@[simp] theorem blsD_fn {α : Type} (f : α → Bool) : ∀ l : List α, blsD (l.map fun a => D.bl (f a)) = some (l.map f)
  | [] => rfl
  | x :: l => by simp [blsD, blsD_fn f l]
@[simp] theorem intsD_fn {α : Type} (f : α → Int) : ∀ l : List α, intsD (l.map fun a => D.int (f a)) = some (l.map f)
  | [] => rfl
  | x :: l => by simp [intsD, intsD_fn f l]
@[simp] theorem noLs_fnI {α : Type} (f : α → Int) (l : List α) : noLs (l.map fun a => D.int (f a)) = true := noLs_map fun _ _ => rfl
@[simp] theorem noLs_fnB {α : Type} (f : α → Bool) (l : List α) : noLs (l.map fun a => D.bl (f a)) = true := noLs_map fun _ _ => rfl
@[simp] theorem intsD_nil : intsD [] = some [] := rfl
@[simp] theorem intsD_cons {i : Int} {l : List D} : intsD (.int i :: l) = (intsD l).map (i :: ·) := by simp only [intsD]
@[simp] theorem intsD_appI {l : List Int} {m : List D} : intsD (l.map .int ++ m) = (intsD m).map (l ++ ·) := by
  induction l with
  | nil => simp
  | cons x l ih => simp [ih, Function.comp_def]
@[simp] theorem blsD_nil : blsD [] = some [] := rfl
@[simp] theorem blsD_cons {i : Bool} {l : List D} : blsD (.bl i :: l) = (blsD l).map (i :: ·) := by simp only [blsD]
@[simp] theorem maxL_cons {x : Int} {l : List Int} : maxL (x :: l) = some (l.foldl max x) := rfl
@[simp] theorem minL_cons {x : Int} {l : List Int} : minL (x :: l) = some (l.foldl min x) := rfl
@[simp] theorem intsD_takeI {l : List Int} {n : Nat} : intsD ((l.map D.int).take n) = some (l.take n) := by rw [← List.map_take]; exact intsD_map _
@[simp] theorem intsD_dropI {l : List Int} {n : Nat} : intsD ((l.map D.int).drop n) = some (l.drop n) := by rw [← List.map_drop]; exact intsD_map _
@[simp] theorem noLs_takeI {l : List Int} {n : Nat} : noLs ((l.map D.int).take n) = true := noLs_take (noLs_ints l)
@[simp] theorem noLs_dropI {l : List Int} {n : Nat} : noLs ((l.map D.int).drop n) = true := noLs_drop (noLs_ints l)
@[simp] theorem noLs_repI {x : Int} {n : Nat} : noLs (List.replicate n (D.int x)) = true := by
  induction n with
  | zero => simp
  | succ n ih => simp [List.replicate_succ, ih]
theorem log2_of {i : Int} {n : Nat} (h : i.natAbs < 2 ^ n) (h0 : 0 < n) : i.natAbs.log2 < n := PySem.Flt.log2_lt_of h0 h
theorem mulOk_of {i j : Int} {a b : Nat} (ha : i.natAbs < 2 ^ a) (hb : j.natAbs < 2 ^ b) (h0 : 0 < a) (h1 : 0 < b) (h : a + b ≤ 100000000) : mulOk i j = true := by
  have x := log2_of ha h0
  have y := log2_of hb h1
  exact decide_eq_true (by omega)
theorem mulOk_small {i j : Int} (h1 : -18446744073709551616 < i) (h2 : i < 18446744073709551616) (h3 : -18446744073709551616 < j) (h4 : j < 18446744073709551616) : mulOk i j = true :=
  mulOk_of (a := 64) (b := 64) (by omega) (by omega) (by decide) (by decide) (by decide)
theorem divOk_of {j : Int} {b : Nat} (h : 0 < j) (hb : j.natAbs < 2 ^ b) (h0 : 0 < b) (h9 : b ≤ 9000) : divOk j = true := by
  unfold divOk
  rw [decide_eq_true h, decide_eq_true (Nat.lt_of_lt_of_le (log2_of hb h0) h9)]
  rfl
mutual
def eqv2 : D → D → Bool
  | .non, .non => true
  | .bl a, .bl b => a == b
  | .bl a, .int j => (if a then 1 else 0) == j
  | .int i, .bl b => i == (if b then 1 else 0)
  | .int i, .int j => i == j
  | .str x, .str y => x == y
  | .lst x, .lst y => eqvs x y
  | .lst x, .scr y => eqvs x y
  | .scr x, .lst y => eqvs x y
  | .scr x, .scr y => eqvs x y
  | .tup x, .tup y => eqvs x y
  | _, _ => false
def eqvs : List D → List D → Bool
  | [], [] => true
  | x :: xs, y :: ys => eqv2 x y && eqvs xs ys
  | _, _ => false
end
mutual
def cmD : Nat → D → Bool
  | _, .non => true
  | _, .bl _ => true
  | _, .int _ => true
  | _, .str x => PyData.strOk x
  | 0, .tup _ => false
  | 0, .lst _ => false
  | 0, .scr _ => false
  | n + 1, .tup ds => cmDs n ds
  | n + 1, .lst ds => cmDs n ds
  | n + 1, .scr ds => cmDs n ds
  | _, .dic _ => false
  | _, .fn _ => false
  | _, .obj _ _ _ => false
  | _, .dtk _ => false
  | _, .sob _ _ => false
  | _, .fdc _ => false
  | _, .exv _ _ _ _ => false
  | _, .nod _ _ => false
  | _, .tg _ _ => false
  | _, .hol _ => false
def cmDs : Nat → List D → Bool
  | _, [] => true
  | n, d :: ds => cmD n d && cmDs n ds
end
mutual
theorem toP_of : ∀ {n : Nat} {d : D}, cmD n d = true → ∃ p, toP d = some p ∧ p.canLay0 = true ∧ p.depth ≤ n
  | _, .non, _ => ⟨.none, by simp [toP], by simp [PyData.canLay0], by simp [PyData.depth]⟩
  | _, .bl b, _ => ⟨.bool b, by simp [toP], by simp [PyData.canLay0], by simp [PyData.depth]⟩
  | _, .int b, _ => ⟨.int b, by simp [toP], by simp [PyData.canLay0], by simp [PyData.depth]⟩
  | _, .str b, h => ⟨.str b, by simp [toP], by simpa [PyData.canLay0, cmD] using h, by simp [PyData.depth]⟩
  | 0, .tup _, h => by simp [cmD] at h
  | 0, .lst _, h => by simp [cmD] at h
  | 0, .scr _, h => by simp [cmD] at h
  | n + 1, .tup ds, h => by
    obtain ⟨p, h1, h2, h3⟩ := toPs_of (n := n) (ds := ds) (by simpa [cmD] using h)
    exact ⟨.tuple p, by simp [toP, h1], by simpa [PyData.canLay0] using h2, by simpa [PyData.depth] using h3⟩
  | n + 1, .lst ds, h => by
    obtain ⟨p, h1, h2, h3⟩ := toPs_of (n := n) (ds := ds) (by simpa [cmD] using h)
    exact ⟨.list p, by simp [toP, h1], by simpa [PyData.canLay0] using h2, by simpa [PyData.depth] using h3⟩
  | n + 1, .scr ds, h => by
    obtain ⟨p, h1, h2, h3⟩ := toPs_of (n := n) (ds := ds) (by simpa [cmD] using h)
    exact ⟨.list p, by simp [toP, h1], by simpa [PyData.canLay0] using h2, by simpa [PyData.depth] using h3⟩
  | n, .dic _, h => by cases n <;> simp [cmD] at h
  | n, .fn _, h => by cases n <;> simp [cmD] at h
  | n, .obj _ _ _, h => by cases n <;> simp [cmD] at h
  | n, .dtk _, h => by cases n <;> simp [cmD] at h
  | n, .sob _ _, h => by cases n <;> simp [cmD] at h
  | n, .fdc _, h => by cases n <;> simp [cmD] at h
  | n, .exv _ _ _ _, h => by cases n <;> simp [cmD] at h
  | n, .nod _ _, h => by cases n <;> simp [cmD] at h
  | n, .tg _ _, h => by cases n <;> simp [cmD] at h
  | n, .hol _, h => by cases n <;> simp [cmD] at h
theorem toPs_of : ∀ {n : Nat} {ds : List D}, cmDs n ds = true → ∃ p, toPs ds = some p ∧ PyData.canLayAll0 p = true ∧ PyData.depthAll p ≤ n
  | _, [], _ => ⟨[], by simp [toPs], by simp [PyData.canLayAll0], by simp [PyData.depthAll]⟩
  | n, d :: ds, h => by
    have h : cmD n d = true ∧ cmDs n ds = true := by simpa [cmDs] using h
    obtain ⟨p, h1, h2, h3⟩ := toP_of h.1
    obtain ⟨q, h4, h5, h6⟩ := toPs_of h.2
    exact ⟨p :: q, by simp [toPs, h1, h4], by simp [PyData.canLayAll0, h2, h5], by simp [PyData.depthAll]; omega⟩
end
mutual
theorem eqv_of : ∀ {a b : D} {p q : PyData}, toP a = some p → toP b = some q → PyData.eqv p q = eqv2 a b
  | a, b, p, q, h1, h2 => by
    cases a with
    | tup x =>
      cases hx : toPs x with
      | none => simp [toP, hx] at h1
      | some x' =>
        simp [toP, hx] at h1; subst h1
        cases b with
        | tup y =>
          cases hy : toPs y with
          | none => simp [toP, hy] at h2
          | some y' => simp [toP, hy] at h2; subst h2; simp [PyData.eqv, eqv2]; exact eqvs_of hx hy
        | lst y => cases hy : toPs y <;> simp [toP, hy] at h2; subst h2; simp [PyData.eqv, eqv2]
        | scr y => cases hy : toPs y <;> simp [toP, hy] at h2; subst h2; simp [PyData.eqv, eqv2]
        | dic y => simp [toP] at h2
        | fn y => simp [toP] at h2
        | obj t y z => simp [toP] at h2
        | dtk y => simp [toP] at h2
        | sob y z => simp [toP] at h2
        | fdc y => simp [toP] at h2
        | exv y z u t => simp [toP] at h2
        | nod y z => simp [toP] at h2
        | tg y z => simp [toP] at h2
        | hol y => simp [toP] at h2
        | _ => simp [toP] at h2; subst h2; simp [PyData.eqv, eqv2]
    | lst x =>
      cases hx : toPs x with
      | none => simp [toP, hx] at h1
      | some x' =>
        simp [toP, hx] at h1; subst h1
        cases b with
        | lst y =>
          cases hy : toPs y with
          | none => simp [toP, hy] at h2
          | some y' => simp [toP, hy] at h2; subst h2; simp [PyData.eqv, eqv2]; exact eqvs_of hx hy
        | scr y =>
          cases hy : toPs y with
          | none => simp [toP, hy] at h2
          | some y' => simp [toP, hy] at h2; subst h2; simp [PyData.eqv, eqv2]; exact eqvs_of hx hy
        | tup y => cases hy : toPs y <;> simp [toP, hy] at h2; subst h2; simp [PyData.eqv, eqv2]
        | dic y => simp [toP] at h2
        | fn y => simp [toP] at h2
        | obj t y z => simp [toP] at h2
        | dtk y => simp [toP] at h2
        | sob y z => simp [toP] at h2
        | fdc y => simp [toP] at h2
        | exv y z u t => simp [toP] at h2
        | nod y z => simp [toP] at h2
        | tg y z => simp [toP] at h2
        | hol y => simp [toP] at h2
        | _ => simp [toP] at h2; subst h2; simp [PyData.eqv, eqv2]
    | scr x =>
      cases hx : toPs x with
      | none => simp [toP, hx] at h1
      | some x' =>
        simp [toP, hx] at h1; subst h1
        cases b with
        | lst y =>
          cases hy : toPs y with
          | none => simp [toP, hy] at h2
          | some y' => simp [toP, hy] at h2; subst h2; simp [PyData.eqv, eqv2]; exact eqvs_of hx hy
        | scr y =>
          cases hy : toPs y with
          | none => simp [toP, hy] at h2
          | some y' => simp [toP, hy] at h2; subst h2; simp [PyData.eqv, eqv2]; exact eqvs_of hx hy
        | tup y => cases hy : toPs y <;> simp [toP, hy] at h2; subst h2; simp [PyData.eqv, eqv2]
        | dic y => simp [toP] at h2
        | fn y => simp [toP] at h2
        | obj t y z => simp [toP] at h2
        | dtk y => simp [toP] at h2
        | sob y z => simp [toP] at h2
        | fdc y => simp [toP] at h2
        | exv y z u t => simp [toP] at h2
        | nod y z => simp [toP] at h2
        | tg y z => simp [toP] at h2
        | hol y => simp [toP] at h2
        | _ => simp [toP] at h2; subst h2; simp [PyData.eqv, eqv2]
    | dic x => simp [toP] at h1
    | fn x => simp [toP] at h1
    | obj t x z => simp [toP] at h1
    | dtk x => simp [toP] at h1
    | sob x z => simp [toP] at h1
    | fdc x => simp [toP] at h1
    | exv x z u t => simp [toP] at h1
    | nod x z => simp [toP] at h1
    | tg x z => simp [toP] at h1
    | hol x => simp [toP] at h1
    | _ =>
      simp [toP] at h1; subst h1
      cases b with
      | tup y => cases hy : toPs y <;> simp [toP, hy] at h2; subst h2; simp [PyData.eqv, eqv2]
      | lst y => cases hy : toPs y <;> simp [toP, hy] at h2; subst h2; simp [PyData.eqv, eqv2]
      | scr y => cases hy : toPs y <;> simp [toP, hy] at h2; subst h2; simp [PyData.eqv, eqv2]
      | dic y => simp [toP] at h2
      | fn y => simp [toP] at h2
      | obj t y z => simp [toP] at h2
      | dtk y => simp [toP] at h2
      | sob y z => simp [toP] at h2
      | fdc y => simp [toP] at h2
      | exv y z u t => simp [toP] at h2
      | nod y z => simp [toP] at h2
      | tg y z => simp [toP] at h2
      | hol y => simp [toP] at h2
      | _ => simp [toP] at h2; subst h2; simp [PyData.eqv, eqv2]
theorem eqvs_of : ∀ {a b : List D} {p q : List PyData}, toPs a = some p → toPs b = some q → PyData.eqvAll p q = eqvs a b
  | [], [], p, q, h1, h2 => by simp [toPs] at h1 h2; subst h1; subst h2; simp [PyData.eqvAll, eqvs]
  | [], y :: ys, p, q, h1, h2 => by
    simp [toPs] at h1; subst h1
    cases hy : toP y <;> cases hys : toPs ys <;> simp [toPs, hy, hys] at h2
    subst h2; simp [PyData.eqvAll, eqvs]
  | x :: xs, [], p, q, h1, h2 => by
    simp [toPs] at h2; subst h2
    cases hy : toP x <;> cases hys : toPs xs <;> simp [toPs, hy, hys] at h1
    subst h1; simp [PyData.eqvAll, eqvs]
  | x :: xs, y :: ys, p, q, h1, h2 => by
    cases hx : toP x <;> cases hxs : toPs xs <;> simp [toPs, hx, hxs] at h1
    cases hy : toP y <;> cases hys : toPs ys <;> simp [toPs, hy, hys] at h2
    subst h1; subst h2
    simp [PyData.eqvAll, eqvs, eqv_of hx hy, eqvs_of hxs hys]
end
theorem eqD_of {a b : D} (h1 : cmD 64 a = true) (h2 : cmD 64 b = true) : eqD a b = some (eqv2 a b) := by
  obtain ⟨p, e1, l1, d1⟩ := toP_of h1
  obtain ⟨q, e2, l2, d2⟩ := toP_of h2
  unfold eqD
  rw [e1, e2]
  have s1 : SeqAt.shaped p = true := by unfold SeqAt.shaped; rw [l1, decide_eq_true d1]; rfl
  have s2 : SeqAt.shaped q = true := by unfold SeqAt.shaped; rw [l2, decide_eq_true d2]; rfl
  simp only [s1, s2, if_true, eqv_of e1 e2]
section
variable {n : Nat}
@[simp] theorem cmD_int {i : Int} : cmD n (.int i) = true := by cases n <;> simp [cmD]
@[simp] theorem cmD_bl {i : Bool} : cmD n (.bl i) = true := by cases n <;> simp [cmD]
@[simp] theorem cmD_non : cmD n .non = true := by cases n <;> simp [cmD]
@[simp] theorem cmD_str {x : Str} : cmD n (.str x) = PyData.strOk x := by cases n <;> simp [cmD]
@[simp] theorem cmD_tup {l : List D} : cmD (n + 1) (.tup l) = cmDs n l := by simp [cmD]
@[simp] theorem cmD_lst {l : List D} : cmD (n + 1) (.lst l) = cmDs n l := by simp [cmD]
@[simp] theorem cmD_scr {l : List D} : cmD (n + 1) (.scr l) = cmDs n l := by simp [cmD]
@[simp] theorem cmDs_nil : cmDs n [] = true := by cases n <;> simp [cmDs]
@[simp] theorem cmDs_cons {d : D} {l : List D} : cmDs n (d :: l) = (cmD n d && cmDs n l) := by cases n <;> simp [cmDs]
theorem cmDs_all {l : List D} : cmDs n l = l.all (cmD n) := by
  induction l with
  | nil => simp
  | cons x l ih => simp [ih]
@[simp] theorem cmDs_map {α : Type} {f : α → D} {l : List α} : cmDs n (l.map f) = l.all (fun x => cmD n (f x)) := by rw [cmDs_all, List.all_map]; rfl
@[simp] theorem eqv2_int {i j : Int} : eqv2 (.int i) (.int j) = decide (i = j) := by simp only [eqv2]; rfl
@[simp] theorem eqv2_bl {i j : Bool} : eqv2 (.bl i) (.bl j) = decide (i = j) := by cases i <;> cases j <;> simp [eqv2]
@[simp] theorem eqv2_str {i j : Str} : eqv2 (.str i) (.str j) = decide (i = j) := by simp only [eqv2]; rfl
@[simp] theorem eqv2_tup {x y : List D} : eqv2 (.tup x) (.tup y) = eqvs x y := by simp only [eqv2]
@[simp] theorem eqv2_lst {x y : List D} : eqv2 (.lst x) (.lst y) = eqvs x y := by simp only [eqv2]
@[simp] theorem eqv2_tl {x y : List D} : eqv2 (.tup x) (.lst y) = false := by simp only [eqv2]
@[simp] theorem eqv2_lt {x y : List D} : eqv2 (.lst x) (.tup y) = false := by simp only [eqv2]
@[simp] theorem eqv2_ls {x : List D} {y : Str} : eqv2 (.lst x) (.str y) = false := by simp only [eqv2]
@[simp] theorem eqv2_is {x : Int} {y : Str} : eqv2 (.int x) (.str y) = false := by simp only [eqv2]
@[simp] theorem eqv2_bs {x : Bool} {y : Str} : eqv2 (.bl x) (.str y) = false := by simp only [eqv2]
@[simp] theorem eqv2_nn : eqv2 .non .non = true := by simp only [eqv2]
@[simp] theorem eqv2_tn {x : List D} : eqv2 (.tup x) .non = false := by simp only [eqv2]
@[simp] theorem eqv2_nt {x : List D} : eqv2 .non (.tup x) = false := by simp only [eqv2]
@[simp] theorem eqvs_nil : eqvs [] [] = true := by simp only [eqvs]
@[simp] theorem eqvs_cons {x y : D} {l m : List D} : eqvs (x :: l) (y :: m) = (eqv2 x y && eqvs l m) := by simp only [eqvs]
@[simp] theorem eqvs_nc {x : D} {l : List D} : eqvs [] (x :: l) = false := by simp only [eqvs]
@[simp] theorem eqvs_cn {x : D} {l : List D} : eqvs (x :: l) [] = false := by simp only [eqvs]
theorem eqvs_map {α : Type} [DecidableEq α] (f : α → D) (h : ∀ x y, eqv2 (f x) (f y) = decide (x = y)) : ∀ l m : List α, eqvs (l.map f) (m.map f) = decide (l = m)
  | [], [] => by simp
  | [], y :: m => by simp
  | x :: l, [] => by simp
  | x :: l, y :: m => by simp [h, eqvs_map f h l m]
@[simp] theorem eqvs_ints (l m : List Int) : eqvs (l.map D.int) (m.map D.int) = decide (l = m) := eqvs_map _ (fun _ _ => eqv2_int) l m
@[simp] theorem eqvs_tups (l m : List (List Int)) : eqvs (l.map fun r => D.tup (r.map D.int)) (m.map fun r => D.tup (r.map D.int)) = decide (l = m) := eqvs_map _ (fun _ _ => by simp) l m
@[simp] theorem eqvs_lsts (l m : List (List Int)) : eqvs (l.map fun r => D.lst (r.map D.int)) (m.map fun r => D.lst (r.map D.int)) = decide (l = m) := eqvs_map _ (fun _ _ => by simp) l m
@[simp] theorem eqD_int {i j : Int} : eqD (.int i) (.int j) = some (decide (i = j)) := by rw [eqD_of (by simp) (by simp)]; simp
@[simp] theorem eqD_bl {i j : Bool} : eqD (.bl i) (.bl j) = some (decide (i = j)) := by rw [eqD_of (by simp) (by simp)]; simp
@[simp] theorem eqD_tupI {l m : List Int} : eqD (.tup (l.map .int)) (.tup (m.map .int)) = some (decide (l = m)) := by rw [eqD_of (by simp) (by simp)]; simp
@[simp] theorem eqD_lstI {l m : List Int} : eqD (.lst (l.map .int)) (.lst (m.map .int)) = some (decide (l = m)) := by rw [eqD_of (by simp) (by simp)]; simp
theorem eqD_str {i j : Str} (h1 : PyData.strOk i = true) (h2 : PyData.strOk j = true) : eqD (.str i) (.str j) = some (decide (i = j)) := by rw [eqD_of (by simp [h1]) (by simp [h2])]; simp
end
end Cz
set_option maxHeartbeats 1000000
namespace Cz
open PySem PySem.Spec PyProof.Rows L2
theorem ixN_nn {n : Nat} {i : Int} (h0 : 0 ≤ i) (h1 : i < n) : ixN n i = some i.toNat := by
  unfold ixN
  rw [if_pos h0, if_pos (by omega)]
theorem shaped_of {n : Nat} {p : PyData} (h : p.canLay0 = true) (h2 : p.depth ≤ n) (hn : n ≤ 64) : SeqAt.shaped p = true := by
  unfold SeqAt.shaped
  rw [h, decide_eq_true (show p.depth ≤ 64 by omega)]; rfl
theorem any_of {x : D} {p : PyData} (hx : toP x = some p) : ∀ {ds : List D} {ps : List PyData}, toPs ds = some ps → (ps.any fun z => PyData.eqv z p) = ds.any fun d => eqv2 d x
  | [], ps, h => by simp [toPs] at h; subst h; rfl
  | d :: ds, ps, h => by
    cases hd : toP d <;> cases hds : toPs ds <;> simp [toPs, hd, hds] at h
    subst h
    simp [eqv_of hd hx, any_of hx hds]
theorem inD_lst {x : D} {ds : List D} (h1 : cmD 63 x = true) (h2 : cmDs 63 ds = true) : inD x (.lst ds) = some (ds.any fun d => eqv2 d x) := by
  obtain ⟨p, e1, l1, d1⟩ := toP_of h1
  obtain ⟨q, e2, l2, d2⟩ := toPs_of h2
  have s1 : SeqAt.shaped p = true := shaped_of l1 d1 (by decide)
  have s2 : SeqAt.shaped (.list q) = true := shaped_of (n := 64) (by simpa [PyData.canLay0] using l2) (by simp [PyData.depth]; omega) (by decide)
  simp only [inD, e1, e2, s1, s2, if_true, any_of e1 e2]
theorem any_fn {α : Type} [BEq α] [LawfulBEq α] {f : α → D} (h : ∀ x y, eqv2 (f x) (f y) = (x == y)) {x : α} : ∀ {l : List α}, ((l.map f).any fun d => eqv2 d (f x)) = decide (x ∈ l)
  | [] => by simp
  | y :: l => by
    have ih := any_fn h (x := x) (l := l)
    simp only [List.map_cons, List.any_cons, h, ih, List.mem_cons]
    by_cases e : y = x
    · simp [e]
    · simp [e, show x ≠ y from fun z => e z.symm]
theorem tupB (x y : List Int) : eqv2 (.tup (x.map D.int)) (.tup (y.map D.int)) = (x == y) := by
  rw [eqv2_tup, eqvs_ints, Bool.eq_iff_iff]; simp
theorem lstB (x y : List Int) : eqv2 (.lst (x.map D.int)) (.lst (y.map D.int)) = (x == y) := by
  rw [eqv2_lst, eqvs_ints, Bool.eq_iff_iff]; simp
theorem intB (x y : Int) : eqv2 (.int x) (.int y) = (x == y) := by rw [eqv2_int, Bool.eq_iff_iff]; simp
@[simp] theorem inD_ints {n : Int} {l : List Int} : inD (.int n) (.lst (l.map .int)) = some (decide (n ∈ l)) := by
  rw [inD_lst (by simp) (by simp), any_fn (f := D.int) intB]
@[simp] theorem inD_tups {n : List Int} {l : List (List Int)} : inD (.tup (n.map .int)) (.lst (l.map fun r => .tup (r.map .int))) = some (decide (n ∈ l)) := by
  rw [inD_lst (by simp) (by simp), any_fn (f := fun r : List Int => D.tup (r.map D.int)) tupB]
@[simp] theorem inD_lsts {n : List Int} {l : List (List Int)} : inD (.lst (n.map .int)) (.lst (l.map fun r => .lst (r.map .int))) = some (decide (n ∈ l)) := by
  rw [inD_lst (by simp) (by simp), any_fn (f := fun r : List Int => D.lst (r.map D.int)) lstB]
theorem inV_ints {n : Int} : ∀ {l : List Int}, inV (.int n) (l.map V.int) = decide (n ∈ l) := by
  intro l
  induction l with
  | nil => simp [inV]
  | cons m l ih =>
    simp only [inV] at ih ⊢
    first
      | (simp [List.any_cons, ih, List.mem_cons]; done)
      | skip
    simp only [List.map_cons, List.any_cons, ih, List.mem_cons]
    by_cases e : m = n
    · subst e; simp [eqV]
    · have e' : ¬ n = m := fun z => e z.symm
      simp [eqV, e, e']
@[simp] theorem fVs_ints : ∀ {l : List Int}, fVs (l.map D.int) = some (l.map V.int)
  | [] => rfl
  | n :: l => by simp [fVs, fV, fVs_ints]
@[simp] theorem inD_tupI {n : Int} {l : List Int} : inD (.int n) (.tup (l.map .int)) = some (decide (n ∈ l)) := by
  simp only [inD, fV, fVs_ints, inV_ints]
theorem okIn_noL {k : Kd} {l : List D} (h : noLs l = true) : okIn k l = true := by cases k <;> simp [okIn, h]
@[simp] theorem keyD_int {i : Int} : keyD (.int i) = some (.inl i) := id rfl
@[simp] theorem keyD_str {i : Str} : keyD (.str i) = some (.inr i) := id rfl
@[simp] theorem inD_dic {x : D} {l : List (Key × D)} : inD x (.dic l) = (keyD x).map fun k => (valD l k).isSome := id rfl
end Cz
set_option maxHeartbeats 1000000
namespace Cz
open PySem PySem.Spec PyProof.Rows L2
section
variable {ρ : Env} {a : SE}
end
theorem wEq2 (u v : Str) (h1 : PyData.strOk u = true) (h2 : PyData.strOk v = true) (b : Bool) (h : decide (u = v) = b) : eqD (.str u) (.str v) = some b := by rw [eqD_str h1 h2, h]
theorem sw_alike : PyData.strOk ("alike" : Str) = true := by decide +kernel
theorem sw_unlike : PyData.strOk ("unlike" : Str) = true := by decide +kernel
theorem sw_least : PyData.strOk ("least" : Str) = true := by decide +kernel
theorem sw_most : PyData.strOk ("most" : Str) = true := by decide +kernel
theorem sw_way : PyData.strOk ("way" : Str) = true := by decide +kernel
theorem sw_none : PyData.strOk ("none" : Str) = true := by decide +kernel
theorem sw_counts : PyData.strOk ("counts" : Str) = true := by decide +kernel
theorem sw_few : PyData.strOk ("few" : Str) = true := by decide +kernel
theorem sw_many : PyData.strOk ("many" : Str) = true := by decide +kernel
theorem sw_ring : PyData.strOk ("ring" : Str) = true := by decide +kernel
theorem sw_cases : PyData.strOk ("cases" : Str) = true := by decide +kernel
theorem sw_nothing : PyData.strOk ("nothing" : Str) = true := by decide +kernel
theorem sw_rings : PyData.strOk ("rings" : Str) = true := by decide +kernel
@[simp] theorem ew_alike_alike : eqD (.str "alike") (.str "alike") = some true := wEq2 _ _ sw_alike sw_alike _ (by decide +kernel)
@[simp] theorem ew_alike_unlike : eqD (.str "alike") (.str "unlike") = some false := wEq2 _ _ sw_alike sw_unlike _ (by decide +kernel)
@[simp] theorem ew_alike_least : eqD (.str "alike") (.str "least") = some false := wEq2 _ _ sw_alike sw_least _ (by decide +kernel)
@[simp] theorem ew_alike_most : eqD (.str "alike") (.str "most") = some false := wEq2 _ _ sw_alike sw_most _ (by decide +kernel)
@[simp] theorem ew_alike_way : eqD (.str "alike") (.str "way") = some false := wEq2 _ _ sw_alike sw_way _ (by decide +kernel)
@[simp] theorem ew_alike_none : eqD (.str "alike") (.str "none") = some false := wEq2 _ _ sw_alike sw_none _ (by decide +kernel)
@[simp] theorem ew_alike_counts : eqD (.str "alike") (.str "counts") = some false := wEq2 _ _ sw_alike sw_counts _ (by decide +kernel)
@[simp] theorem ew_alike_few : eqD (.str "alike") (.str "few") = some false := wEq2 _ _ sw_alike sw_few _ (by decide +kernel)
@[simp] theorem ew_alike_many : eqD (.str "alike") (.str "many") = some false := wEq2 _ _ sw_alike sw_many _ (by decide +kernel)
@[simp] theorem ew_alike_ring : eqD (.str "alike") (.str "ring") = some false := wEq2 _ _ sw_alike sw_ring _ (by decide +kernel)
@[simp] theorem ew_alike_cases : eqD (.str "alike") (.str "cases") = some false := wEq2 _ _ sw_alike sw_cases _ (by decide +kernel)
@[simp] theorem ew_unlike_alike : eqD (.str "unlike") (.str "alike") = some false := wEq2 _ _ sw_unlike sw_alike _ (by decide +kernel)
@[simp] theorem ew_unlike_unlike : eqD (.str "unlike") (.str "unlike") = some true := wEq2 _ _ sw_unlike sw_unlike _ (by decide +kernel)
@[simp] theorem ew_unlike_least : eqD (.str "unlike") (.str "least") = some false := wEq2 _ _ sw_unlike sw_least _ (by decide +kernel)
@[simp] theorem ew_unlike_most : eqD (.str "unlike") (.str "most") = some false := wEq2 _ _ sw_unlike sw_most _ (by decide +kernel)
@[simp] theorem ew_unlike_way : eqD (.str "unlike") (.str "way") = some false := wEq2 _ _ sw_unlike sw_way _ (by decide +kernel)
@[simp] theorem ew_unlike_none : eqD (.str "unlike") (.str "none") = some false := wEq2 _ _ sw_unlike sw_none _ (by decide +kernel)
@[simp] theorem ew_unlike_counts : eqD (.str "unlike") (.str "counts") = some false := wEq2 _ _ sw_unlike sw_counts _ (by decide +kernel)
@[simp] theorem ew_unlike_few : eqD (.str "unlike") (.str "few") = some false := wEq2 _ _ sw_unlike sw_few _ (by decide +kernel)
@[simp] theorem ew_unlike_many : eqD (.str "unlike") (.str "many") = some false := wEq2 _ _ sw_unlike sw_many _ (by decide +kernel)
@[simp] theorem ew_unlike_ring : eqD (.str "unlike") (.str "ring") = some false := wEq2 _ _ sw_unlike sw_ring _ (by decide +kernel)
@[simp] theorem ew_unlike_cases : eqD (.str "unlike") (.str "cases") = some false := wEq2 _ _ sw_unlike sw_cases _ (by decide +kernel)
@[simp] theorem ew_least_alike : eqD (.str "least") (.str "alike") = some false := wEq2 _ _ sw_least sw_alike _ (by decide +kernel)
@[simp] theorem ew_least_unlike : eqD (.str "least") (.str "unlike") = some false := wEq2 _ _ sw_least sw_unlike _ (by decide +kernel)
@[simp] theorem ew_least_least : eqD (.str "least") (.str "least") = some true := wEq2 _ _ sw_least sw_least _ (by decide +kernel)
@[simp] theorem ew_least_most : eqD (.str "least") (.str "most") = some false := wEq2 _ _ sw_least sw_most _ (by decide +kernel)
@[simp] theorem ew_least_way : eqD (.str "least") (.str "way") = some false := wEq2 _ _ sw_least sw_way _ (by decide +kernel)
@[simp] theorem ew_least_none : eqD (.str "least") (.str "none") = some false := wEq2 _ _ sw_least sw_none _ (by decide +kernel)
@[simp] theorem ew_least_counts : eqD (.str "least") (.str "counts") = some false := wEq2 _ _ sw_least sw_counts _ (by decide +kernel)
@[simp] theorem ew_least_few : eqD (.str "least") (.str "few") = some false := wEq2 _ _ sw_least sw_few _ (by decide +kernel)
@[simp] theorem ew_least_many : eqD (.str "least") (.str "many") = some false := wEq2 _ _ sw_least sw_many _ (by decide +kernel)
@[simp] theorem ew_least_ring : eqD (.str "least") (.str "ring") = some false := wEq2 _ _ sw_least sw_ring _ (by decide +kernel)
@[simp] theorem ew_least_cases : eqD (.str "least") (.str "cases") = some false := wEq2 _ _ sw_least sw_cases _ (by decide +kernel)
@[simp] theorem ew_most_alike : eqD (.str "most") (.str "alike") = some false := wEq2 _ _ sw_most sw_alike _ (by decide +kernel)
@[simp] theorem ew_most_unlike : eqD (.str "most") (.str "unlike") = some false := wEq2 _ _ sw_most sw_unlike _ (by decide +kernel)
@[simp] theorem ew_most_least : eqD (.str "most") (.str "least") = some false := wEq2 _ _ sw_most sw_least _ (by decide +kernel)
@[simp] theorem ew_most_most : eqD (.str "most") (.str "most") = some true := wEq2 _ _ sw_most sw_most _ (by decide +kernel)
@[simp] theorem ew_most_way : eqD (.str "most") (.str "way") = some false := wEq2 _ _ sw_most sw_way _ (by decide +kernel)
@[simp] theorem ew_most_none : eqD (.str "most") (.str "none") = some false := wEq2 _ _ sw_most sw_none _ (by decide +kernel)
@[simp] theorem ew_most_counts : eqD (.str "most") (.str "counts") = some false := wEq2 _ _ sw_most sw_counts _ (by decide +kernel)
@[simp] theorem ew_most_few : eqD (.str "most") (.str "few") = some false := wEq2 _ _ sw_most sw_few _ (by decide +kernel)
@[simp] theorem ew_most_many : eqD (.str "most") (.str "many") = some false := wEq2 _ _ sw_most sw_many _ (by decide +kernel)
@[simp] theorem ew_most_ring : eqD (.str "most") (.str "ring") = some false := wEq2 _ _ sw_most sw_ring _ (by decide +kernel)
@[simp] theorem ew_most_cases : eqD (.str "most") (.str "cases") = some false := wEq2 _ _ sw_most sw_cases _ (by decide +kernel)
@[simp] theorem ew_way_alike : eqD (.str "way") (.str "alike") = some false := wEq2 _ _ sw_way sw_alike _ (by decide +kernel)
@[simp] theorem ew_way_unlike : eqD (.str "way") (.str "unlike") = some false := wEq2 _ _ sw_way sw_unlike _ (by decide +kernel)
@[simp] theorem ew_way_least : eqD (.str "way") (.str "least") = some false := wEq2 _ _ sw_way sw_least _ (by decide +kernel)
@[simp] theorem ew_way_most : eqD (.str "way") (.str "most") = some false := wEq2 _ _ sw_way sw_most _ (by decide +kernel)
@[simp] theorem ew_way_way : eqD (.str "way") (.str "way") = some true := wEq2 _ _ sw_way sw_way _ (by decide +kernel)
@[simp] theorem ew_way_none : eqD (.str "way") (.str "none") = some false := wEq2 _ _ sw_way sw_none _ (by decide +kernel)
@[simp] theorem ew_way_counts : eqD (.str "way") (.str "counts") = some false := wEq2 _ _ sw_way sw_counts _ (by decide +kernel)
@[simp] theorem ew_way_few : eqD (.str "way") (.str "few") = some false := wEq2 _ _ sw_way sw_few _ (by decide +kernel)
@[simp] theorem ew_way_many : eqD (.str "way") (.str "many") = some false := wEq2 _ _ sw_way sw_many _ (by decide +kernel)
@[simp] theorem ew_way_ring : eqD (.str "way") (.str "ring") = some false := wEq2 _ _ sw_way sw_ring _ (by decide +kernel)
@[simp] theorem ew_way_cases : eqD (.str "way") (.str "cases") = some false := wEq2 _ _ sw_way sw_cases _ (by decide +kernel)
@[simp] theorem ew_none_alike : eqD (.str "none") (.str "alike") = some false := wEq2 _ _ sw_none sw_alike _ (by decide +kernel)
@[simp] theorem ew_none_unlike : eqD (.str "none") (.str "unlike") = some false := wEq2 _ _ sw_none sw_unlike _ (by decide +kernel)
@[simp] theorem ew_none_least : eqD (.str "none") (.str "least") = some false := wEq2 _ _ sw_none sw_least _ (by decide +kernel)
@[simp] theorem ew_none_most : eqD (.str "none") (.str "most") = some false := wEq2 _ _ sw_none sw_most _ (by decide +kernel)
@[simp] theorem ew_none_way : eqD (.str "none") (.str "way") = some false := wEq2 _ _ sw_none sw_way _ (by decide +kernel)
@[simp] theorem ew_none_none : eqD (.str "none") (.str "none") = some true := wEq2 _ _ sw_none sw_none _ (by decide +kernel)
@[simp] theorem ew_none_counts : eqD (.str "none") (.str "counts") = some false := wEq2 _ _ sw_none sw_counts _ (by decide +kernel)
@[simp] theorem ew_none_few : eqD (.str "none") (.str "few") = some false := wEq2 _ _ sw_none sw_few _ (by decide +kernel)
@[simp] theorem ew_none_many : eqD (.str "none") (.str "many") = some false := wEq2 _ _ sw_none sw_many _ (by decide +kernel)
@[simp] theorem ew_none_ring : eqD (.str "none") (.str "ring") = some false := wEq2 _ _ sw_none sw_ring _ (by decide +kernel)
@[simp] theorem ew_none_cases : eqD (.str "none") (.str "cases") = some false := wEq2 _ _ sw_none sw_cases _ (by decide +kernel)
@[simp] theorem ew_counts_alike : eqD (.str "counts") (.str "alike") = some false := wEq2 _ _ sw_counts sw_alike _ (by decide +kernel)
@[simp] theorem ew_counts_unlike : eqD (.str "counts") (.str "unlike") = some false := wEq2 _ _ sw_counts sw_unlike _ (by decide +kernel)
@[simp] theorem ew_counts_least : eqD (.str "counts") (.str "least") = some false := wEq2 _ _ sw_counts sw_least _ (by decide +kernel)
@[simp] theorem ew_counts_most : eqD (.str "counts") (.str "most") = some false := wEq2 _ _ sw_counts sw_most _ (by decide +kernel)
@[simp] theorem ew_counts_way : eqD (.str "counts") (.str "way") = some false := wEq2 _ _ sw_counts sw_way _ (by decide +kernel)
@[simp] theorem ew_counts_none : eqD (.str "counts") (.str "none") = some false := wEq2 _ _ sw_counts sw_none _ (by decide +kernel)
@[simp] theorem ew_counts_counts : eqD (.str "counts") (.str "counts") = some true := wEq2 _ _ sw_counts sw_counts _ (by decide +kernel)
@[simp] theorem ew_counts_few : eqD (.str "counts") (.str "few") = some false := wEq2 _ _ sw_counts sw_few _ (by decide +kernel)
@[simp] theorem ew_counts_many : eqD (.str "counts") (.str "many") = some false := wEq2 _ _ sw_counts sw_many _ (by decide +kernel)
@[simp] theorem ew_counts_ring : eqD (.str "counts") (.str "ring") = some false := wEq2 _ _ sw_counts sw_ring _ (by decide +kernel)
@[simp] theorem ew_counts_cases : eqD (.str "counts") (.str "cases") = some false := wEq2 _ _ sw_counts sw_cases _ (by decide +kernel)
@[simp] theorem ew_few_alike : eqD (.str "few") (.str "alike") = some false := wEq2 _ _ sw_few sw_alike _ (by decide +kernel)
@[simp] theorem ew_few_unlike : eqD (.str "few") (.str "unlike") = some false := wEq2 _ _ sw_few sw_unlike _ (by decide +kernel)
@[simp] theorem ew_few_least : eqD (.str "few") (.str "least") = some false := wEq2 _ _ sw_few sw_least _ (by decide +kernel)
@[simp] theorem ew_few_most : eqD (.str "few") (.str "most") = some false := wEq2 _ _ sw_few sw_most _ (by decide +kernel)
@[simp] theorem ew_few_way : eqD (.str "few") (.str "way") = some false := wEq2 _ _ sw_few sw_way _ (by decide +kernel)
@[simp] theorem ew_few_none : eqD (.str "few") (.str "none") = some false := wEq2 _ _ sw_few sw_none _ (by decide +kernel)
@[simp] theorem ew_few_counts : eqD (.str "few") (.str "counts") = some false := wEq2 _ _ sw_few sw_counts _ (by decide +kernel)
@[simp] theorem ew_few_few : eqD (.str "few") (.str "few") = some true := wEq2 _ _ sw_few sw_few _ (by decide +kernel)
@[simp] theorem ew_few_many : eqD (.str "few") (.str "many") = some false := wEq2 _ _ sw_few sw_many _ (by decide +kernel)
@[simp] theorem ew_few_ring : eqD (.str "few") (.str "ring") = some false := wEq2 _ _ sw_few sw_ring _ (by decide +kernel)
@[simp] theorem ew_few_cases : eqD (.str "few") (.str "cases") = some false := wEq2 _ _ sw_few sw_cases _ (by decide +kernel)
@[simp] theorem ew_many_alike : eqD (.str "many") (.str "alike") = some false := wEq2 _ _ sw_many sw_alike _ (by decide +kernel)
@[simp] theorem ew_many_unlike : eqD (.str "many") (.str "unlike") = some false := wEq2 _ _ sw_many sw_unlike _ (by decide +kernel)
@[simp] theorem ew_many_least : eqD (.str "many") (.str "least") = some false := wEq2 _ _ sw_many sw_least _ (by decide +kernel)
@[simp] theorem ew_many_most : eqD (.str "many") (.str "most") = some false := wEq2 _ _ sw_many sw_most _ (by decide +kernel)
@[simp] theorem ew_many_way : eqD (.str "many") (.str "way") = some false := wEq2 _ _ sw_many sw_way _ (by decide +kernel)
@[simp] theorem ew_many_none : eqD (.str "many") (.str "none") = some false := wEq2 _ _ sw_many sw_none _ (by decide +kernel)
@[simp] theorem ew_many_counts : eqD (.str "many") (.str "counts") = some false := wEq2 _ _ sw_many sw_counts _ (by decide +kernel)
@[simp] theorem ew_many_few : eqD (.str "many") (.str "few") = some false := wEq2 _ _ sw_many sw_few _ (by decide +kernel)
@[simp] theorem ew_many_many : eqD (.str "many") (.str "many") = some true := wEq2 _ _ sw_many sw_many _ (by decide +kernel)
@[simp] theorem ew_many_ring : eqD (.str "many") (.str "ring") = some false := wEq2 _ _ sw_many sw_ring _ (by decide +kernel)
@[simp] theorem ew_many_cases : eqD (.str "many") (.str "cases") = some false := wEq2 _ _ sw_many sw_cases _ (by decide +kernel)
@[simp] theorem ew_ring_alike : eqD (.str "ring") (.str "alike") = some false := wEq2 _ _ sw_ring sw_alike _ (by decide +kernel)
@[simp] theorem ew_ring_unlike : eqD (.str "ring") (.str "unlike") = some false := wEq2 _ _ sw_ring sw_unlike _ (by decide +kernel)
@[simp] theorem ew_ring_least : eqD (.str "ring") (.str "least") = some false := wEq2 _ _ sw_ring sw_least _ (by decide +kernel)
@[simp] theorem ew_ring_most : eqD (.str "ring") (.str "most") = some false := wEq2 _ _ sw_ring sw_most _ (by decide +kernel)
@[simp] theorem ew_ring_way : eqD (.str "ring") (.str "way") = some false := wEq2 _ _ sw_ring sw_way _ (by decide +kernel)
@[simp] theorem ew_ring_none : eqD (.str "ring") (.str "none") = some false := wEq2 _ _ sw_ring sw_none _ (by decide +kernel)
@[simp] theorem ew_ring_counts : eqD (.str "ring") (.str "counts") = some false := wEq2 _ _ sw_ring sw_counts _ (by decide +kernel)
@[simp] theorem ew_ring_few : eqD (.str "ring") (.str "few") = some false := wEq2 _ _ sw_ring sw_few _ (by decide +kernel)
@[simp] theorem ew_ring_many : eqD (.str "ring") (.str "many") = some false := wEq2 _ _ sw_ring sw_many _ (by decide +kernel)
@[simp] theorem ew_ring_ring : eqD (.str "ring") (.str "ring") = some true := wEq2 _ _ sw_ring sw_ring _ (by decide +kernel)
@[simp] theorem ew_ring_cases : eqD (.str "ring") (.str "cases") = some false := wEq2 _ _ sw_ring sw_cases _ (by decide +kernel)
@[simp] theorem ew_cases_alike : eqD (.str "cases") (.str "alike") = some false := wEq2 _ _ sw_cases sw_alike _ (by decide +kernel)
@[simp] theorem ew_cases_unlike : eqD (.str "cases") (.str "unlike") = some false := wEq2 _ _ sw_cases sw_unlike _ (by decide +kernel)
@[simp] theorem ew_cases_least : eqD (.str "cases") (.str "least") = some false := wEq2 _ _ sw_cases sw_least _ (by decide +kernel)
@[simp] theorem ew_cases_most : eqD (.str "cases") (.str "most") = some false := wEq2 _ _ sw_cases sw_most _ (by decide +kernel)
@[simp] theorem ew_cases_way : eqD (.str "cases") (.str "way") = some false := wEq2 _ _ sw_cases sw_way _ (by decide +kernel)
@[simp] theorem ew_cases_none : eqD (.str "cases") (.str "none") = some false := wEq2 _ _ sw_cases sw_none _ (by decide +kernel)
@[simp] theorem ew_cases_counts : eqD (.str "cases") (.str "counts") = some false := wEq2 _ _ sw_cases sw_counts _ (by decide +kernel)
@[simp] theorem ew_cases_few : eqD (.str "cases") (.str "few") = some false := wEq2 _ _ sw_cases sw_few _ (by decide +kernel)
@[simp] theorem ew_cases_many : eqD (.str "cases") (.str "many") = some false := wEq2 _ _ sw_cases sw_many _ (by decide +kernel)
@[simp] theorem ew_cases_ring : eqD (.str "cases") (.str "ring") = some false := wEq2 _ _ sw_cases sw_ring _ (by decide +kernel)
@[simp] theorem ew_cases_cases : eqD (.str "cases") (.str "cases") = some true := wEq2 _ _ sw_cases sw_cases _ (by decide +kernel)
@[simp] theorem ew_nothing_alike : eqD (.str "nothing") (.str "alike") = some false := wEq2 _ _ sw_nothing sw_alike _ (by decide +kernel)
@[simp] theorem ew_nothing_unlike : eqD (.str "nothing") (.str "unlike") = some false := wEq2 _ _ sw_nothing sw_unlike _ (by decide +kernel)
@[simp] theorem ew_nothing_least : eqD (.str "nothing") (.str "least") = some false := wEq2 _ _ sw_nothing sw_least _ (by decide +kernel)
@[simp] theorem ew_nothing_most : eqD (.str "nothing") (.str "most") = some false := wEq2 _ _ sw_nothing sw_most _ (by decide +kernel)
@[simp] theorem ew_nothing_way : eqD (.str "nothing") (.str "way") = some false := wEq2 _ _ sw_nothing sw_way _ (by decide +kernel)
@[simp] theorem ew_nothing_none : eqD (.str "nothing") (.str "none") = some false := wEq2 _ _ sw_nothing sw_none _ (by decide +kernel)
@[simp] theorem ew_nothing_counts : eqD (.str "nothing") (.str "counts") = some false := wEq2 _ _ sw_nothing sw_counts _ (by decide +kernel)
@[simp] theorem ew_nothing_few : eqD (.str "nothing") (.str "few") = some false := wEq2 _ _ sw_nothing sw_few _ (by decide +kernel)
@[simp] theorem ew_nothing_many : eqD (.str "nothing") (.str "many") = some false := wEq2 _ _ sw_nothing sw_many _ (by decide +kernel)
@[simp] theorem ew_nothing_ring : eqD (.str "nothing") (.str "ring") = some false := wEq2 _ _ sw_nothing sw_ring _ (by decide +kernel)
@[simp] theorem ew_nothing_cases : eqD (.str "nothing") (.str "cases") = some false := wEq2 _ _ sw_nothing sw_cases _ (by decide +kernel)
@[simp] theorem ew_rings_alike : eqD (.str "rings") (.str "alike") = some false := wEq2 _ _ sw_rings sw_alike _ (by decide +kernel)
@[simp] theorem ew_rings_unlike : eqD (.str "rings") (.str "unlike") = some false := wEq2 _ _ sw_rings sw_unlike _ (by decide +kernel)
@[simp] theorem ew_rings_least : eqD (.str "rings") (.str "least") = some false := wEq2 _ _ sw_rings sw_least _ (by decide +kernel)
@[simp] theorem ew_rings_most : eqD (.str "rings") (.str "most") = some false := wEq2 _ _ sw_rings sw_most _ (by decide +kernel)
@[simp] theorem ew_rings_way : eqD (.str "rings") (.str "way") = some false := wEq2 _ _ sw_rings sw_way _ (by decide +kernel)
@[simp] theorem ew_rings_none : eqD (.str "rings") (.str "none") = some false := wEq2 _ _ sw_rings sw_none _ (by decide +kernel)
@[simp] theorem ew_rings_counts : eqD (.str "rings") (.str "counts") = some false := wEq2 _ _ sw_rings sw_counts _ (by decide +kernel)
@[simp] theorem ew_rings_few : eqD (.str "rings") (.str "few") = some false := wEq2 _ _ sw_rings sw_few _ (by decide +kernel)
@[simp] theorem ew_rings_many : eqD (.str "rings") (.str "many") = some false := wEq2 _ _ sw_rings sw_many _ (by decide +kernel)
@[simp] theorem ew_rings_ring : eqD (.str "rings") (.str "ring") = some false := wEq2 _ _ sw_rings sw_ring _ (by decide +kernel)
@[simp] theorem ew_rings_cases : eqD (.str "rings") (.str "cases") = some false := wEq2 _ _ sw_rings sw_cases _ (by decide +kernel)
@[simp] theorem ki_alike : ([("alike", 3), ("unlike", 3), ("least", 2), ("most", 2)] : List (String × Int)).any (fun p => decide (Str.ofString p.1 = ("alike" : Str))) = true := by decide +kernel
@[simp] theorem ki_unlike : ([("alike", 3), ("unlike", 3), ("least", 2), ("most", 2)] : List (String × Int)).any (fun p => decide (Str.ofString p.1 = ("unlike" : Str))) = true := by decide +kernel
@[simp] theorem ki_least : ([("alike", 3), ("unlike", 3), ("least", 2), ("most", 2)] : List (String × Int)).any (fun p => decide (Str.ofString p.1 = ("least" : Str))) = true := by decide +kernel
@[simp] theorem ki_most : ([("alike", 3), ("unlike", 3), ("least", 2), ("most", 2)] : List (String × Int)).any (fun p => decide (Str.ofString p.1 = ("most" : Str))) = true := by decide +kernel
end Cz
set_option maxHeartbeats 1000000
namespace Cz
open PySem PySem.Spec PyProof.Rows L2
section
variable {ρ : Env} {a b : SE} {k k' : Kd} {d : D} {ds x y : List D} {c : Ec} {t : Nat → Nat} {ch : List Nat} {s : SS}
@[simp] theorem opB_addSL : opB .Add (k, .scr x) (k', .lst y) = if x.length + y.length ≤ LIM then some (lk (k.join k') (x ++ y), .lst (x ++ y)) else none := id rfl
@[simp] theorem bSum_scr : bSum [(k, .scr ds)] = (intsD ds).map fun ns => (.own, .int ns.sum) := id rfl
@[simp] theorem bLen_scr' : bLen [(k, .scr ds)] = some (.own, .int ds.length) := id rfl
@[simp] theorem noL_tg {n : Nat} : noL (.tg n d) = false := by simp [noL]
@[simp] theorem mkS_borR {is : List Nat} : mkS (.bor is) (.scr ds) = .bo is (.scr ds) := id rfl
@[simp] theorem mkS_ownR : mkS .own (.scr ds) = .ow (.scr ds) := id rfl
@[simp] theorem hanN_nil : hanN c [] ρ = .ex c ρ := id rfl
@[simp] theorem hanN_cons {C : String} {i : Nat} {h : Addr → Addr → SS} {r : NmS} : hanN c ((C, i, h) :: r) ρ = if c.nm = C then hanC i h ρ c else if subX c.nm C = true then .st else hanN c r ρ := id rfl
@[simp] theorem hanC_ev {i : Nat} {h : Addr → Addr → SS} {nm fld : String} : hanC i h ρ (.p nm fld d) = allA fun a dx => (h a dx (ρ.set i (.bo [] (.exv a dx fld d)))).rtO i := id rfl
@[simp] theorem rtO_rt {i : Nat} : (Out.rt k d).rtO i = .rt k d := id rfl
@[simp] theorem rtO_ri {i : Nat} : (Out.ri ρ k d).rtO i = if notOw ρ i = true then .ri (ρ.set i .no) k d else .st := id rfl
@[simp] theorem locQ_ev (i : Nat) : locQ i ρ = match ρ[i]? with | some (.ow (.tg _ d)) => .ok (.bor [i], d) | _ => .st := id rfl
@[simp] theorem locQP_ev (i : Nat) : locQP i ρ = match ρ[i]? with | some (.ow (.tg _ d)) => .ok (i, [.un], d) | _ => .st := id rfl
@[simp] theorem getP_un {q : List Ix} {n : Nat} : getP (.un :: q) (.tg n d) = getP q d := id rfl
@[simp] theorem setP_un {q : List Ix} {n : Nat} {d' : D} : setP (.un :: q) (.tg n d) d' = (setP q d d').map fun d' => .tg n d' := id rfl
@[simp] theorem nilH_ev : nilH ρ = .ok [] := id rfl
@[simp] theorem vH_ev {r : SAH} : vH a r ρ = (a ρ).bind fun x => (r ρ).bind fun xs => .ok (.v x :: xs) := id rfl
@[simp] theorem pH_ev {p : SPh} {r : SAH} : pH p r ρ = (p ρ).bind fun x => (r ρ).bind fun xs => .ok (.p x :: xs) := id rfl
@[simp] theorem isH_nil : isH [] = [] := id rfl
@[simp] theorem isH_v {x : KD} {r : List AX} : isH (.v x :: r) = (nk x.1 x.2).is ++ isH r := id rfl
@[simp] theorem isH_p {x : Nat × List Ix × D} {r : List AX} : isH (.p x :: r) = isH r := id rfl
@[simp] theorem pzH_nil {i : Nat} : pzH i [] = [] := id rfl
@[simp] theorem pzH_v {i : Nat} {x : KD} {r : List AX} : pzH i (.v x :: r) = pzH (i + 1) r := id rfl
@[simp] theorem pzH_p {i : Nat} {x : Nat × List Ix × D} {r : List AX} : pzH i (.p x :: r) = (i, x) :: pzH (i + 1) r := id rfl
@[simp] theorem AXd_v {x : KD} : (AX.v x).d = x.2 := id rfl
@[simp] theorem AXd_p {x : Nat × List Ix × D} : (AX.p x).d = x.2.2 := id rfl
@[simp] theorem putsAt_nil : putsAt ρ [] [] = some ρ := id rfl
@[simp] theorem putsAt_cons {x : Nat × (Nat × List Ix × D)} {r : List (Nat × (Nat × List Ix × D))} {d : D} {cs : List D} : putsAt ρ (x :: r) (d :: cs) = (putAt ρ x.2 d).bind fun ρ' => putsAt ρ' r cs := id rfl
@[simp] theorem refD_lst : refD (.lst ds) = true := id rfl
@[simp] theorem refD_obj {n : Nat} {C : String} {fs : List (Str × D)} : refD (.obj n C fs) = true := id rfl
@[simp] theorem refD_dic {fs : List (Key × D)} : refD (.dic fs) = true := id rfl
@[simp] theorem hcM_ev {fn : HFn} {r : SAH} : hcM fn ch r ρ = (r ρ).out ρ fun xs => if (pzH 0 xs).map (·.1) = ch ∧ ((pzH 0 xs).map (·.2.1)).Nodup ∧ (∀ q ∈ (pzH 0 xs).map (·.2.1), q ∉ isH xs) ∧ (pzH 0 xs).all (fun q => refD q.2.2.2) = true then match allH fun t => fn t (xs.map AX.d) with
  | .ok cs d => (match putsAt ρ (pzH 0 xs) cs with
    | some ρ' => .ri ρ' .own d
    | none => .st)
  | .ex c cs => (match putsAt ρ (pzH 0 xs) cs with
    | some ρ' => .ex c ρ'
    | none => .st)
  | .st => .st else .st := id rfl
theorem mkH_ev {n m : Nat} : mkH ch n m s t ds = if ds.length = n then runH ch m s t ds else .st := id rfl
@[simp] theorem runH_ev {m : Nat} : runH ch m s t ds = (s (slH ch t 0 ds ++ List.replicate (m - ds.length) .no)).finH ch t := id rfl
@[simp] theorem slH_nil {i : Nat} : slH ch t i [] = [] := id rfl
@[simp] theorem slH_cons {i : Nat} : slH ch t i (d :: ds) = (if ch.contains i = true then .ow (.tg (t i) d) else .bo [] d) :: slH ch t (i + 1) ds := id rfl
@[simp] theorem finH_nx : (Out.nx ρ).finH ch t = RH.of (fun cs => .ok cs .non) (getsH t ρ ch) := id rfl
@[simp] theorem finH_ri : (Out.ri ρ k d).finH ch t = if ownK k = true then RH.of (fun cs => .ok cs d) (getsH t ρ ch) else .st := id rfl
@[simp] theorem finH_ex : (Out.ex c ρ).finH ch t = RH.of (fun cs => .ex c cs) (getsH t ρ ch) := id rfl
@[simp] theorem RHof_some {f : List D → RH} : RH.of f (some ds) = f ds := id rfl
@[simp] theorem getsH_nil : getsH t ρ [] = some [] := id rfl
@[simp] theorem getsH_cons {i : Nat} {is : List Nat} : getsH t ρ (i :: is) = (getH t ρ i).bind fun d => (getsH t ρ is).map (d :: ·) := id rfl
@[simp] theorem getH_ev {i : Nat} : getH t ρ i = match (ρ[i]? : Option Sl) with | some (.ow (.tg t' d)) => if t' = t i then some d else none | _ => none := id rfl
@[simp] theorem mcM_ev {C m : String} {g : GFn} {p : SPh} {r : SA} : mcM C m g p r ρ = (p ρ).out ρ fun x => match x.2.2 with
  | .obj t C' fs => if C' = C ∧ noKey fs (Str.ofString m) = true then (r ρ).out ρ fun xs => if x.1 ∈ (jn xs).is then .st else match allG fun t => g t fs (xs.map (·.2)) with
    | .ok fs' d => (match putAt ρ x (.obj t C fs') with
      | some ρ' => .ri ρ' .own d
      | none => .st)
    | .ex c fs' => (match putAt ρ x (.obj t C fs') with
      | some ρ' => .ex c ρ'
      | none => .st)
    | .st => .st else .st
  | _ => .st := id rfl
end
end Cz
set_option maxHeartbeats 1000000
namespace Cz
open PySem PySem.Spec PyProof.Rows L2
section
variable {ρ : Env} {a b e : SE} {k k' : Kd} {d : D} {ds x y : List D} {c : Ec} {s : SS} {m r : SM} {p : SPh} {q : List Ix} {i j n : Nat} {z : Str} {v : SE} {kvs : List (Key × D)}
@[simp] theorem dsv_nil : dsv [] ρ = .ok [] := id rfl
@[simp] theorem dsv_cons {l : List (Str × SE)} : dsv ((z, v) :: l) ρ = (v ρ).bind fun y => if ownK (nk y.1 y.2) = true then (dsv l ρ).bind fun ys => .ok ((z, y.2) :: ys) else .st := id rfl
@[simp] theorem dspE_ev {l : List (Str × SE)} : dspE l ρ = (dsv l ρ).bind fun ys => if ys.length ≤ 15 ∧ (ys.map (·.1)).Nodup then .ok (.own, .dic (keysR ys)) else .st := id rfl
@[simp] theorem keysR_nil : keysR [] = [] := id rfl
@[simp] theorem keysR_cons {l : List (Str × D)} : keysR ((z, d) :: l) = (Sum.inr z, d) :: keysR l := id rfl
@[simp] theorem dpopS_ev : dpopS p b ρ = (p ρ).out ρ fun x => match x.2.2 with
  | .dic kvs => (b ρ).out ρ fun y => (match keyD y.2 with
    | some k => (match valD kvs k with
      | some _ => (match putAt ρ x (.dic (dropD kvs k)) with
        | some ρ' => .nx ρ'
        | none => .st)
      | none => .st)
    | none => .st)
  | _ => .st := id rfl
@[simp] theorem dpop2S_ev : dpop2S p b e ρ = (p ρ).out ρ fun x => match x.2.2 with
  | .dic kvs => (b ρ).out ρ fun y => (e ρ).out ρ fun _ => (match keyD y.2 with
    | some k => (match valD kvs k with
      | some _ => (match putAt ρ x (.dic (dropD kvs k)) with
        | some ρ' => .nx ρ'
        | none => .st)
      | none => .nx ρ)
    | none => .st)
  | _ => .st := id rfl
@[simp] theorem opRemS_ev : opRemS (.lst ds) [(k, .str z)] = (strsD ds).bind fun ys => if z ∈ ys then some (.non, .lst (ds.eraseIdx (ys.idxOf z))) else none := id rfl
variable {f : Env → List KD → Out} {g : Env → List KD → OL} {xs : List KD} {sa : SA} {sm : SAM} {t : STs}
@[simp] theorem oloutM_ok : (OL.ok ρ xs).outM f = f ρ xs := id rfl
@[simp] theorem oloutM_ex : (OL.ex c ρ).outM f = .ex c ρ := id rfl
@[simp] theorem olmore_ok : (OL.ok ρ xs).more g = g ρ xs := id rfl
@[simp] theorem olmore_ex : (OL.ex c ρ).more g = .ex c ρ := id rfl
@[simp] theorem pA_ev : pA sa ρ = match sa ρ with
  | .ok xs => .ok ρ xs
  | .ex c => .ex c ρ
  | .st => .st := id rfl
@[simp] theorem cvA_ev : cvA m sm ρ = match m ρ with
  | .ri ρ1 k d => if noL d = true then (sm ρ1).more fun ρ2 xs => .ok ρ2 ((.own, d) :: xs) else if ownK k = true then (sm ρ1).more fun ρ2 xs => if bosOk ρ2 = true then .ok ρ2 ((.own, d) :: xs) else .st else .st
  | .ex c ρ1 => .ex c ρ1
  | _ => .st := id rfl
@[simp] theorem clA_ev : clA m ρ = match m ρ with
  | .ri ρ1 k d => .ok ρ1 [(k, d)]
  | .ex c ρ1 => .ex c ρ1
  | _ => .st := id rfl
@[simp] theorem tupM_ev : tupM sm ρ = (sm ρ).outM fun ρ' xs => if xs.length ≤ LIM then .ri ρ' (jn xs) (.tup (xs.map (·.2))) else .st := id rfl
@[simp] theorem lstM_ev : lstM sm ρ = (sm ρ).outM fun ρ' xs => if xs.length ≤ LIM then .ri ρ' (lk (jn xs) (xs.map (·.2))) (.lst (xs.map (·.2))) else .st := id rfl
@[simp] theorem callM_ev {fn : Fn} : callM fn sm ρ = (sm ρ).outM fun ρ' xs => match fn (xs.map (·.2)) with
  | .ok kd => .ri ρ' (retK kd.1 (jn xs)) kd.2
  | .ex c => .ex c ρ'
  | .st => .st := id rfl
@[simp] theorem mT_ev : mT t ρ = (t ρ).out ρ fun b => .ri ρ .own (.bl b) := id rfl
@[simp] theorem thB_ri {fb : Env → Bool → Out} {bb : Bool} : thB (.ri ρ k (.bl bb)) fb = fb ρ bb := id rfl
@[simp] theorem thB_ex {fb : Env → Bool → Out} : thB (.ex c ρ) fb = .ex c ρ := id rfl
@[simp] theorem notM_ev : notM m ρ = thB (m ρ) fun ρ1 b => .ri ρ1 .own (.bl (!b)) := id rfl
@[simp] theorem andM_ev : andM m r ρ = thB (m ρ) fun ρ1 b => if b = true then r ρ1 else .ri ρ1 .own (.bl false) := id rfl
@[simp] theorem iteM_ev {m1 m2 : SM} : iteM m m1 m2 ρ = thB (m ρ) fun ρ1 t => if t = true then m1 ρ1 else m2 ρ1 := id rfl
@[simp] theorem untE_ev {xx : Nat} : untE xx i q ρ = match (ρ[i]? : Option Sl), (ρ[xx]? : Option Sl) with
  | some (.ow D), some (.bo _ _) => (match getP q D with
    | some (.tg _ d) => (setP q D d).map fun D' => (ρ.set i (.ow D')).set xx .no
    | _ => none)
  | _, _ => none := id rfl
@[simp] theorem unt_nx {xx : Nat} : (Out.nx ρ).unt xx i q = match untE xx i q ρ with
    | some ρ' => .nx ρ'
    | none => .st := id rfl
@[simp] theorem unt_ex {xx : Nat} : (Out.ex c ρ).unt xx i q = match untE xx i q ρ with
    | some ρ' => .ex c ρ'
    | none => .st := id rfl
@[simp] theorem unt_ri {xx : Nat} : (Out.ri ρ k d).unt xx i q = match untE xx i q ρ with
    | some ρ' => if ownK k = true then .ri ρ' k d else .st
    | none => .st := id rfl
@[simp] theorem unt_rt {xx : Nat} : (Out.rt k d).unt xx i q = .rt k d := id rfl
end
end Cz
set_option maxHeartbeats 1000000
namespace Cz
open PySem PySem.Spec PyProof.Rows L2
section
variable {ρ : Env} {k : Kd} {d : D} {ds xs : List D} {c : Ec} {s : SS} {m r : SM} {a b : SE} {sa : SA} {fn : Fn} {n i : Nat} {C mm : String}
@[simp] theorem hasT_nil : hasT [] = false := rfl
@[simp] theorem hasT_cons {z : Sl} {l : List Sl} : hasT (z :: l) = (z.isT || hasT l) := rfl
@[simp] theorem isT_tb : Sl.tb.isT = true := rfl
@[simp] theorem isT_no : Sl.no.isT = false := rfl
@[simp] theorem isT_ow : (Sl.ow d).isT = false := rfl
@[simp] theorem isT_bo {is : List Nat} : (Sl.bo is d).isT = false := rfl
@[simp] theorem hasT_app {l l' : List Sl} : hasT (l ++ l') = (hasT l || hasT l') := List.any_append
@[simp] theorem inv_tbc : inv i (.tb :: ρ) = .tb :: inv i ρ := id rfl
@[simp] theorem isT_mkS : (mkS k d).isT = false := by
  unfold mkS
  split <;> rfl
@[simp] theorem finT_nx : (Out.nx ρ).finT = if hasT ρ = true then .ok (.own, .non) else .st := id rfl
@[simp] theorem finT_ri : (Out.ri ρ k d).finT = if hasT ρ = true then .ok (nk k d, d) else .st := id rfl
@[simp] theorem finT_ex : (Out.ex c ρ).finT = if hasT ρ = true then .ex c else .st := id rfl
@[simp] theorem mkT_ev : mkT n i s ds = if ds.length = n then runT i s ds else .st := id rfl
@[simp] theorem runT_ev : runT i s ds = (s (slT i ds)).finT := id rfl
@[simp] theorem slT_ev : slT i ds = (ds.map (Sl.bo []) ++ List.replicate (i - ds.length) Sl.no).set (i - 1) Sl.tb := id rfl
@[simp] theorem callT_ev : callT fn sa xs ρ = if hasT ρ = true then (sa ρ).out ρ fun ys => (match fn (ys.map (·.2) ++ xs) with
  | .ok kd => .ri ρ (retK kd.1 (jn ys)) kd.2
  | .ex c => .ex c ρ
  | .st => .st) else .st := id rfl
@[simp] theorem rmT_ev : rmT C mm fn a ρ = if hasT ρ = true then (a ρ).out ρ fun x => (match x.2 with
  | .obj _ C' fs => if C' = C ∧ noKey fs (Str.ofString mm) = true then (match fn [x.2] with
    | .ok kd => .ri ρ (retK kd.1 (jn [x])) kd.2
    | .ex c => .ex c ρ
    | .st => .st) else .st
  | _ => .st) else .st := id rfl
@[simp] theorem srtK_ev : srtK a ρ = if hasT ρ = true then (a ρ).out ρ fun x => (match x.2 with
  | .lst ds => if ds.all prkB = true then .ri ρ .own (.lst (srtP ds)) else .st
  | _ => .st) else .st := id rfl
@[simp] theorem tapM_ev : tapM m b ρ = (m ρ).thenM fun ρ1 k d => (match k, d with
  | .own, .lst ds => (b ρ1).out ρ1 fun y => if okIn y.1 [y.2] = true ∧ ds.length < LIM then .nx ρ1 else .st
  | _, _ => .st) := id rfl
end
end Cz
namespace Cz
open PySem PySem.Spec PyProof.Rows L2
noncomputable def b_p_look_many : SS := (ifS (notT (chnT .LtE .LtE (conE (.int 1)) (locE 0) (conE (.int 9)))) (raiS "BadMany") nilS)
noncomputable def f_p_look_many : Fn := mkF 1 1 b_p_look_many
noncomputable def e_p_good_name_1 : SE := (boolE (cmpT .In (locE 1) (conE (.str "abcdefghijklmnopqrstuvwxyz"))))
theorem e_p_good_name_1_ev {ρ : Env} : e_p_good_name_1 ρ = (boolE (cmpT .In (locE 1) (conE (.str "abcdefghijklmnopqrstuvwxyz")))) ρ := rfl
noncomputable def b_p_good_name : SS := (retS (boolE (andT (chnT .LtE .LtE (conE (.int 1)) (bltE bLen (consA (locE 0) nilA)) (conE (.int 12))) (bvT (bltE bAll (consA (lcE (seqI (locE 0)) [1] (tgN 1) yesT e_p_good_name_1) nilA))))))
noncomputable def f_p_good_name : Fn := mkF 1 2 b_p_good_name
noncomputable def b_p_Room___init__ : SS := (seqS (stfS ["Room"] (locP 0) "box" (locE 1))
    (seqS (stfS ["Room"] (locP 0) "people" (lstE nilA))
    (seqS (stfS ["Room"] (locP 0) "scores" dnwE)
    (seqS (stfS ["Room"] (locP 0) "ended" (lstE nilA))
    (seqS (stfS ["Room"] (locP 0) "filled" (conE (.int 0)))
    (seqS (stfS ["Room"] (locP 0) "lifted" (lstE nilA))
    (seqS (stfS ["Room"] (locP 0) "heard" dnwE)
    (stfS ["Room"] (locP 0) "wrote" dnwE))))))))
noncomputable def f_p_Room___init__ : GFn := mkG "Room" 2 2 b_p_Room___init__
noncomputable def b_p_Room_look_listener : SS := (ifS (cmpT .NotIn (locE 1) (fldE ["Room"] "scores" (locE 0))) (raiS "NoListener") nilS)
noncomputable def f_p_Room_look_listener : Fn := mkF 2 2 b_p_Room_look_listener
noncomputable def b_p_Room_listeners : SS := (retS (bltE bLst (consA (fldE ["Room"] "people" (locE 0)) nilA)))
noncomputable def f_p_Room_listeners : Fn := mkF 1 1 b_p_Room_listeners
noncomputable def e_p_Room_standings_1 : SE := (tupE (consA (locE 2) (consA (idxE (fldE ["Room"] "scores" (locE 0)) (locE 2)) nilA)))
theorem e_p_Room_standings_1_ev {ρ : Env} : e_p_Room_standings_1 ρ = (tupE (consA (locE 2) (consA (idxE (fldE ["Room"] "scores" (locE 0)) (locE 2)) nilA))) ρ := rfl
noncomputable def b_p_Room_standings : SS := (seqS (asgS (tgN 1) (lcE (seqI (fldE ["Room"] "people" (locE 0))) [2] (tgN 2) yesT e_p_Room_standings_1))
    (retI (srtK (locE 1))))
noncomputable def f_p_Room_standings : Fn := mkT 1 4 b_p_Room_standings
noncomputable def b_l_draw_1 : SS := (seqS (asgS (tgN 3) (binE .Mod (binE .Add (binE .Mult (binE .Mod (binE .Mult (locE 3) (locE 3)) (conE (.int 2147483647))) (binE .Add (locE 3) (conE (.int 17)))) (conE (.int 12553))) (conE (.int 2147483647))))
    (seqS (appS 4 (iteE (cmpT .Gt (locE 2) (conE (.int 0))) (binE .Mod (locE 2) (locE 5)) (binE .Mod (binE .Add (binE .FloorDiv (locE 3) (conE (.int 59))) (binE .Mult (binE .Mod (locE 3) (conE (.int 8191))) (conE (.int 31)))) (locE 5))))
    (asgS (tgN 2) (binE .FloorDiv (locE 2) (locE 5)))))
theorem b_l_draw_1_ev {ρ : Env} : b_l_draw_1 ρ = (seqS (asgS (tgN 3) (binE .Mod (binE .Add (binE .Mult (binE .Mod (binE .Mult (locE 3) (locE 3)) (conE (.int 2147483647))) (binE .Add (locE 3) (conE (.int 17)))) (conE (.int 12553))) (conE (.int 2147483647))))
    (seqS (appS 4 (iteE (cmpT .Gt (locE 2) (conE (.int 0))) (binE .Mod (locE 2) (locE 5)) (binE .Mod (binE .Add (binE .FloorDiv (locE 3) (conE (.int 59))) (binE .Mult (binE .Mod (locE 3) (conE (.int 8191))) (conE (.int 31)))) (locE 5))))
    (asgS (tgN 2) (binE .FloorDiv (locE 2) (locE 5))))) ρ := rfl
noncomputable def b_l_draw : SS := (seqS (asgS (tgN 2) (iteE (cmpT .GtE (locE 0) (binE .Pow (conE (.int 10)) (conE (.int 18)))) (locE 0) (conE (.int 0))))
    (seqS (asgS (tgN 3) (binE .Mod (binE .Add (binE .Mult (binE .Mod (locE 0) (conE (.int 2147483629))) (conE (.int 48271))) (conE (.int 7919))) (conE (.int 2147483647))))
    (seqS (asgS (tgN 4) (lstE nilA))
    (seqS (forS (seqI (locE 1)) (tgN 5) b_l_draw_1)
    (retV 4)))))
noncomputable def f_l_draw : Fn := mkF 2 6 b_l_draw
noncomputable def b_l_cell : SS := (seqS (ifS (cmpT .Lt (locE 1) (bltE bLen (consA (locE 0) nilA))) (retS (idxE (locE 0) (locE 1))) nilS)
    (retS (binE .Add (binE .Add (binE .Mult (binE .Mod (bltE bSum (consA (locE 0) nilA)) (conE (.int 1000003))) (conE (.int 131))) (binE .Mult (bltE bLen (consA (locE 0) nilA)) (conE (.int 7919)))) (binE .Mult (locE 1) (conE (.int 104729))))))
noncomputable def f_l_cell : Fn := mkF 2 2 b_l_cell
noncomputable def b_l_many : SS := (retS (bltE bMax (consA (locE 1) (consA (bltE bMin (consA (bltE bLen (consA (locE 0) nilA)) (consA (conE (.int 63)) nilA))) nilA))))
noncomputable def f_l_many : Fn := mkF 2 2 b_l_many
noncomputable def b_l_num : SS := (retS (boolE (andT (bvT (isiE (locE 0) "int")) (notT (bvT (isiE (locE 0) "bool"))))))
noncomputable def f_l_num : Fn := mkF 1 1 b_l_num
noncomputable def b_l_split_1 : SS := (ifS (valT (locE 6)) (seqS (appS 5 (binE .Add (binE .Pow (conE (.int 10)) (conE (.int 18))) (binE .Mod (locE 0) (locE 4))))
    (asgS (tgN 0) (binE .FloorDiv (locE 0) (locE 4)))) (appS 5 (binE .Add (binE .Mult (locE 0) (binE .Add (binE .Mult (conE (.int 2)) (locE 7)) (conE (.int 3)))) (binE .Mult (conE (.int 7919)) (locE 7)))))
theorem b_l_split_1_ev {ρ : Env} : b_l_split_1 ρ = (ifS (valT (locE 6)) (seqS (appS 5 (binE .Add (binE .Pow (conE (.int 10)) (conE (.int 18))) (binE .Mod (locE 0) (locE 4))))
    (asgS (tgN 0) (binE .FloorDiv (locE 0) (locE 4)))) (appS 5 (binE .Add (binE .Mult (locE 0) (binE .Add (binE .Mult (conE (.int 2)) (locE 7)) (conE (.int 3)))) (binE .Mult (conE (.int 7919)) (locE 7))))) ρ := rfl
noncomputable def b_l_split : SS := (seqS (asgS (tgN 3) (binE .Mult (binE .Pow (conE (.int 10)) (conE (.int 60))) (binE .Pow (conE (.int 10)) (conE (.int 60)))))
    (seqS (asgS (tgN 4) (idxE (lstE (consA (binE .Pow (conE (.int 10)) (conE (.int 30))) (consA (locE 3) (consA (binE .Mult (binE .Mult (binE .Mult (locE 3) (locE 3)) (locE 3)) (locE 3)) nilA)))) (locE 2)))
    (seqS (asgS (tgN 5) (lstE nilA))
    (seqS (asgS (tgN 6) (boolE (cmpT .GtE (locE 0) (binE .Pow (conE (.int 10)) (conE (.int 18))))))
    (seqS (forS (rng1I (locE 1)) (tgN 7) b_l_split_1)
    (retV 5))))))
noncomputable def f_l_split : Fn := mkF 3 8 b_l_split
noncomputable def b_l_refused : SS := (retS (boolE (andT (bvT (isiE (locE 0) "list")) (andT (cmpT .Eq (bltE bLen (consA (locE 0) nilA)) (conE (.int 1))) (cmpT .Eq (idxE (locE 0) (conE (.int 0))) (conE (.str "refused")))))))
noncomputable def f_l_refused : Fn := mkF 1 1 b_l_refused
noncomputable def e_l_total_1 : SE := (locE 2)
theorem e_l_total_1_ev {ρ : Env} : e_l_total_1 ρ = (locE 2) ρ := rfl
noncomputable def b_l_total : SS := (retS (bltE bSum (consA (lcE (seqI (locE 0)) [1, 2] (tgT (tgCons (tgN 1) (tgCons (tgN 2) tgNil))) yesT e_l_total_1) nilA)))
noncomputable def f_l_total : Fn := mkF 1 3 b_l_total
noncomputable def b_l_model : SS := (seqS (asgS (tgN 1) (dspE [("left", (bltE bLst (consA (locE 0) nilA))), ("people", (lstE nilA)), ("points", dnwE), ("size", (conE (.int 0)))]))
    (seqS (stoS (locP 1) (conE (.str "opened")) (lstE nilA))
    (seqS (stoS (locP 1) (conE (.str "given")) dnwE)
    (seqS (stoS (locP 1) (conE (.str "wrote")) dnwE)
    (seqS (stoS (locP 1) (conE (.str "gone")) (lstE nilA))
    (retV 1))))))
noncomputable def f_l_model : Fn := mkF 1 2 b_l_model
noncomputable def e_l_name_ok_1 : SE := (boolE (cmpT .In (locE 1) (conE (.str "abcdefghijklmnopqrstuvwxyz"))))
noncomputable def b_l_name_ok : SS := (retS (boolE (andT (chnT .LtE .LtE (conE (.int 1)) (bltE bLen (consA (locE 0) nilA)) (conE (.int 12))) (bvT (bltE bAll (consA (lcE (seqI (locE 0)) [1] (tgN 1) yesT e_l_name_ok_1) nilA))))))
noncomputable def f_l_name_ok : Fn := mkF 1 2 b_l_name_ok
noncomputable def b_l_leave_1 : SS := (dpop2S (idxP (locQP 0) (locE 2)) (locE 1) (conE .non))
theorem b_l_leave_1_ev {ρ : Env} : b_l_leave_1 ρ = (dpop2S (idxP (locQP 0) (locE 2)) (locE 1) (conE .non)) ρ := rfl
noncomputable def b_l_leave : SS := (seqS (ifS (cmpT .NotIn (locE 1) (idxE (locQ 0) (conE (.str "people")))) (retP (tupE (consA (conE (.str "NoListener")) (consA (conE .non) nilA)))) nilS)
    (seqS (mtS .l (idxP (locQP 0) (conE (.str "people"))) (consA (locE 1) nilA) opRemS)
    (seqS (forS (seqI (lstE (consA (conE (.str "points")) (consA (conE (.str "given")) (consA (conE (.str "wrote")) nilA))))) (tgN 2) b_l_leave_1)
    (retP (tupE (consA (conE (.str "")) (consA (conE .non) nilA)))))))
noncomputable def f_l_leave : HFn := mkH [0] 2 3 b_l_leave
noncomputable def e_l_standings_1 : SE := (idxE (idxE (locE 0) (conE (.str "points"))) (locE 3))
theorem e_l_standings_1_ev {ρ : Env} : e_l_standings_1 ρ = (idxE (idxE (locE 0) (conE (.str "points"))) (locE 3)) ρ := rfl
noncomputable def t_l_standings_3 : STs := (cmpT .Eq (idxE (idxE (locE 0) (conE (.str "points"))) (locE 3)) (locE 2))
theorem t_l_standings_3_ev {ρ : Env} : t_l_standings_3 ρ = (cmpT .Eq (idxE (idxE (locE 0) (conE (.str "points"))) (locE 3)) (locE 2)) ρ := rfl
noncomputable def e_l_standings_3 : SE := (tupE (consA (locE 3) (consA (locE 2) nilA)))
theorem e_l_standings_3_ev {ρ : Env} : e_l_standings_3 ρ = (tupE (consA (locE 3) (consA (locE 2) nilA))) ρ := rfl
noncomputable def b_l_standings_2 : SS := (mtS .l (locP 1) (consA (lcE (seqI (idxE (locE 0) (conE (.str "people")))) [3] (tgN 3) t_l_standings_3 e_l_standings_3) nilA) opExt)
noncomputable def b_l_standings : SS := (seqS (asgS (tgN 1) (lstE nilA))
    (seqS (forS (rngdI (bltE bMax (consA (binE .Add (lstE (consA (conE (.int 0)) nilA)) (lcE (seqI (idxE (locE 0) (conE (.str "people")))) [3] (tgN 3) yesT e_l_standings_1)) nilA)) (negE (conE (.int 1))) (negE (conE (.int 1)))) (tgN 2) b_l_standings_2)
    (retV 1)))
noncomputable def f_l_standings : Fn := mkF 1 4 b_l_standings
noncomputable def b_l_drawn_v2 : SS := (seqS (asgS (tgN 3) (idxE (locE 2) (idxE (locE 0) (conE (.int 0)))))
    (seqS (asgS (tgN 4) (binE .Mod (idxE (locE 0) (conE (.int 2))) (bltE bLen (consA (locE 3) nilA))))
    (seqS (ifS (cmpT .Eq (idxE (locE 0) (conE (.int 1))) (conE (.int 0))) (seqS (asgS (tgN 5) (binE .Add (binE .Add (slE (locE 3) noO (someO (locE 4))) (idxE (conE (.str "A 0-_\nB9{")) (binE .Mod (idxE (locE 0) (conE (.int 2))) (conE (.int 9))))) (slE (locE 3) (someO (binE .Add (locE 4) (conE (.int 1)))) noO)))
    (retS (tupE (consA (conE (.str "come")) (consA (idxE (lstE (consA (conE (.str "")) (consA (locE 5) (consA (slE (binE .Mult (locE 3) (conE (.int 13))) noO (someO (conE (.int 13)))) (consA (slE (binE .Mult (locE 3) (conE (.int 12))) noO (someO (conE (.int 12)))) nilA))))) (binE .Mod (idxE (locE 0) (conE (.int 3))) (conE (.int 4)))) nilA))))) nilS)
    (seqS (ifS (cmpT .Eq (idxE (locE 0) (conE (.int 4))) (conE (.int 0))) (retS (tupE (consA (conE (.str "leave")) (consA (iteE (andT (cmpT .Gt (idxE (locE 0) (conE (.int 3))) (conE (.int 0))) (cmpT .Gt (bltE bLen (consA (locE 1) nilA)) (conE (.int 0)))) (idxE (locE 1) (binE .Mod (idxE (locE 0) (conE (.int 2))) (bltE bLen (consA (locE 1) nilA)))) (locE 3)) nilA)))) nilS)
    (retS (tupE (consA (conE (.str "come")) (consA (locE 3) nilA))))))))
noncomputable def f_l_drawn_v2 : Fn := mkF 3 6 b_l_drawn_v2
noncomputable def b_p_Sayings___init__ : SS := (seqS (dropS (callE f_p_look_many (consA (locE 1) nilA) []))
    (seqS (stfS ["Sayings"] (locP 0) "size" (locE 1))
    (stfS ["Sayings"] (locP 0) "given" (lstE nilA))))
noncomputable def f_p_Sayings___init__ : GFn := mkG "Sayings" 2 2 b_p_Sayings___init__
noncomputable def b_p_Tray___init___1 : SS := (seqS (ifS (orT (notT (valT (callE f_p_good_name (consA (locE 2) nilA) []))) (orT (cmpT .In (locE 2) (fldE ["Tray"] "stock" (locE 0))) (notT (chnT .LtE .LtE (conE (.int 0)) (locE 3) (conE (.int 99)))))) (raiS "BadTray") nilS)
    (stoS (fldP ["Tray"] "stock" (locP 0)) (locE 2) (locE 3)))
theorem b_p_Tray___init___1_ev {ρ : Env} : b_p_Tray___init___1 ρ = (seqS (ifS (orT (notT (valT (callE f_p_good_name (consA (locE 2) nilA) []))) (orT (cmpT .In (locE 2) (fldE ["Tray"] "stock" (locE 0))) (notT (chnT .LtE .LtE (conE (.int 0)) (locE 3) (conE (.int 99)))))) (raiS "BadTray") nilS)
    (stoS (fldP ["Tray"] "stock" (locP 0)) (locE 2) (locE 3))) ρ := rfl
noncomputable def b_p_Tray___init__ : SS := (seqS (ifS (notT (chnT .LtE .LtE (conE (.int 1)) (bltE bLen (consA (locE 1) nilA)) (conE (.int 6)))) (raiS "BadTray") nilS)
    (seqS (stfS ["Tray"] (locP 0) "stock" dnwE)
    (forS (seqI (locE 1)) (tgT (tgCons (tgN 2) (tgCons (tgN 3) tgNil))) b_p_Tray___init___1)))
noncomputable def f_p_Tray___init__ : GFn := mkG "Tray" 2 4 b_p_Tray___init__
noncomputable def b_p_Room_leave : SS := (seqS (dropS (rmE "Room" "look_listener" f_p_Room_look_listener (locE 0) (consA (locE 1) nilA)))
    (seqS (mtS .l (fldP ["Room"] "people" (locP 0)) (consA (locE 1) nilA) opRemS)
    (seqS (dpopS (fldP ["Room"] "scores" (locP 0)) (locE 1))
    (seqS (dpop2S (fldP ["Room"] "heard" (locP 0)) (locE 1) (conE .non))
    (dpop2S (fldP ["Room"] "wrote" (locP 0)) (locE 1) (conE .non))))))
noncomputable def f_p_Room_leave : GFn := mkG "Room" 2 2 b_p_Room_leave
noncomputable def b_p_Room_points : SS := (seqS (dropS (rmE "Room" "look_listener" f_p_Room_look_listener (locE 0) (consA (locE 1) nilA)))
    (retS (idxE (fldE ["Room"] "scores" (locE 0)) (locE 1))))
noncomputable def f_p_Room_points : Fn := mkF 2 2 b_p_Room_points
noncomputable def e_l_names_1 : SE := (conE (.int 12))
theorem e_l_names_1_ev {ρ : Env} : e_l_names_1 ρ = (conE (.int 12)) ρ := rfl
noncomputable def e_l_names_2 : SE := (conE (.int 26))
theorem e_l_names_2_ev {ρ : Env} : e_l_names_2 ρ = (conE (.int 26)) ρ := rfl
noncomputable def e_l_names_4 : SE := (iteE (cmpT .Eq (idxE (locE 4) (conE (.int 1))) (conE (.int 0))) (idxE (locE 4) (binE .Add (binE .Add (binE .Add (conE (.int 4)) (locE 1)) (binE .Mult (conE (.int 12)) (locE 3))) (locE 8))) (idxE (locE 4) (conE (.int 2))))
theorem e_l_names_4_ev {ρ : Env} : e_l_names_4 ρ = (iteE (cmpT .Eq (idxE (locE 4) (conE (.int 1))) (conE (.int 0))) (idxE (locE 4) (binE .Add (binE .Add (binE .Add (conE (.int 4)) (locE 1)) (binE .Mult (conE (.int 12)) (locE 3))) (locE 8))) (idxE (locE 4) (conE (.int 2)))) ρ := rfl
noncomputable def e_l_names_5 : SE := (idxE (locE 2) (binE .Mod (locE 9) (conE (.int 26))))
theorem e_l_names_5_ev {ρ : Env} : e_l_names_5 ρ = (idxE (locE 2) (binE .Mod (locE 9) (conE (.int 26)))) ρ := rfl
noncomputable def b_l_names_3 : SS := (seqS (asgS (tgN 6) (binE .Add (binE .Add (idxE (locE 4) (conE (.int 0))) (conE (.int 1))) (binE .Mod (idxE (locE 4) (binE .Add (conE (.int 4)) (locE 3))) (binE .Sub (conE (.int 12)) (idxE (locE 4) (conE (.int 0)))))))
    (seqS (asgS (tgN 7) (lcE (rng1I (locE 6)) [8] (tgN 8) yesT e_l_names_4))
    (seqS (stoS (locP 7) (idxE (locE 4) (conE (.int 0))) (binE .Add (idxE (locE 4) (conE (.int 3))) (binE .Mult (conE (.int 5)) (locE 3))))
    (appS 5 (joinE (conE (.str "")) (lcE (seqI (locE 7)) [9] (tgN 9) yesT e_l_names_5))))))
theorem b_l_names_3_ev {ρ : Env} : b_l_names_3 ρ = (seqS (asgS (tgN 6) (binE .Add (binE .Add (idxE (locE 4) (conE (.int 0))) (conE (.int 1))) (binE .Mod (idxE (locE 4) (binE .Add (conE (.int 4)) (locE 3))) (binE .Sub (conE (.int 12)) (idxE (locE 4) (conE (.int 0)))))))
    (seqS (asgS (tgN 7) (lcE (rng1I (locE 6)) [8] (tgN 8) yesT e_l_names_4))
    (seqS (stoS (locP 7) (idxE (locE 4) (conE (.int 0))) (binE .Add (idxE (locE 4) (conE (.int 3))) (binE .Mult (conE (.int 5)) (locE 3))))
    (appS 5 (joinE (conE (.str "")) (lcE (seqI (locE 7)) [9] (tgN 9) yesT e_l_names_5)))))) ρ := rfl
noncomputable def b_l_names : SS := (seqS (asgS (tgN 2) (conE (.str "abcdefghijklmnopqrstuvwxyz")))
    (seqS (asgS (tgN 4) (callE f_l_draw (consA (locE 0) (consA (binE .Add (binE .Add (lstE (consA (conE (.int 12)) (consA (conE (.int 2)) (consA (conE (.int 26)) (consA (conE (.int 26)) nilA))))) (lcE (rng1I (locE 1)) [3] (tgN 3) yesT e_l_names_1)) (lcE (rng1I (binE .Mult (conE (.int 12)) (locE 1))) [3] (tgN 3) yesT e_l_names_2)) nilA)) []))
    (seqS (asgS (tgN 5) (lstE nilA))
    (seqS (forS (rng1I (locE 1)) (tgN 3) b_l_names_3)
    (retV 5)))))
noncomputable def f_l_names : Fn := mkF 2 10 b_l_names
noncomputable def b_l_pair_of_wood : SS := (retS (boolE (andT (bvT (isiE (locE 0) "tuple")) (andT (cmpT .Eq (bltE bLen (consA (locE 0) nilA)) (conE (.int 2))) (andT (bvT (isiE (idxE (locE 0) (conE (.int 0))) "str")) (bvT (callE f_l_num (consA (idxE (locE 0) (conE (.int 1))) nilA) [])))))))
noncomputable def f_l_pair_of_wood : Fn := mkF 1 1 b_l_pair_of_wood
noncomputable def e_l_saying_ok_1 : SE := (callE f_l_num (consA (locE 2) nilA) [])
noncomputable def b_l_saying_ok : SS := (seqS (ifS (orT (notT (valT (isiE (locE 0) "tuple"))) (orT (cmpT .NotEq (bltE bLen (consA (locE 0) nilA)) (bltE bLen (consA (locE 1) nilA))) (notT (valT (isiE (idxE (locE 0) (conE (.int 0))) "str"))))) (retS (conE (.bl false))) nilS)
    (retS (boolE (andT (bvT (bltE bAll (consA (lcE (seqI (slE (locE 0) (someO (conE (.int 1))) noO)) [2] (tgN 2) yesT e_l_saying_ok_1) nilA))) (cmpT .Eq (locE 0) (locE 1))))))
noncomputable def f_l_saying_ok : Fn := mkF 2 3 b_l_saying_ok
noncomputable def b_l_come : SS := (seqS (ifS (notT (valT (callE f_l_name_ok (consA (locE 1) nilA) []))) (retP (tupE (consA (conE (.str "BadName")) (consA (conE .non) nilA)))) nilS)
    (seqS (ifS (cmpT .In (locE 1) (idxE (locQ 0) (conE (.str "people")))) (retP (tupE (consA (conE (.str "Taken")) (consA (conE .non) nilA)))) nilS)
    (seqS (ifS (cmpT .Gt (bltE bLen (consA (idxE (locQ 0) (conE (.str "people"))) nilA)) (conE (.int 8))) (retP (tupE (consA (conE (.str "Full")) (consA (conE .non) nilA)))) nilS)
    (seqS (mtS .l (idxP (locQP 0) (conE (.str "people"))) (consA (locE 1) nilA) opApp)
    (seqS (stoS (idxP (locQP 0) (conE (.str "points"))) (locE 1) (conE (.int 0)))
    (seqS (ifS (cmpT .Gt (idxE (locQ 0) (conE (.str "size"))) (conE (.int 0))) (stoS (idxP (locQP 0) (conE (.str "given"))) (locE 1) (lstE nilA)) nilS)
    (retP (tupE (consA (conE (.str "")) (consA (conE .non) nilA))))))))))
noncomputable def f_l_come : HFn := mkH [0] 2 2 b_l_come
noncomputable def e_l_woods_1 : SE := (conE (.int 100))
theorem e_l_woods_1_ev {ρ : Env} : e_l_woods_1 ρ = (conE (.int 100)) ρ := rfl
noncomputable def e_l_woods_2 : SE := (tupE (consA (idxE (locE 4) (locE 6)) (consA (binE .Mod (idxE (locE 3) (binE .Add (conE (.int 2)) (locE 6))) (locE 5)) nilA)))
theorem e_l_woods_2_ev {ρ : Env} : e_l_woods_2 ρ = (tupE (consA (idxE (locE 4) (locE 6)) (consA (binE .Mod (idxE (locE 3) (binE .Add (conE (.int 2)) (locE 6))) (locE 5)) nilA))) ρ := rfl
noncomputable def b_l_woods : SS := (seqS (asgS (tgT (tgCons (tgN 1) (tgCons (tgN 2) tgNil))) (callE f_l_split (consA (locE 0) (consA (conE (.int 2)) nilA)) [.int 0]))
    (seqS (asgS (tgN 3) (callE f_l_draw (consA (locE 1) (consA (binE .Add (lstE (consA (conE (.int 6)) (consA (conE (.int 3)) nilA))) (lcE (rng1I (conE (.int 6))) [6] (tgN 6) yesT e_l_woods_1)) nilA)) []))
    (seqS (asgS (tgN 4) (callE f_l_names (consA (locE 2) (consA (conE (.int 7)) nilA)) []))
    (seqS (asgS (tgN 5) (idxE (lstE (consA (conE (.int 4)) (consA (conE (.int 12)) (consA (conE (.int 100)) nilA)))) (idxE (locE 3) (conE (.int 1)))))
    (retS (tupE (consA (lcE (rng1I (binE .Add (idxE (locE 3) (conE (.int 0))) (conE (.int 1)))) [6] (tgN 6) yesT e_l_woods_2) (consA (idxE (locE 4) (conE (.int 6))) nilA))))))))
noncomputable def f_l_woods : Fn := mkF 1 7 b_l_woods
noncomputable def e_l_result_ok_1 : SE := (callE f_l_pair_of_wood (consA (locE 3) nilA) [])
noncomputable def b_l_result_ok : SS := (seqS (ifS (cmpT .NotEq (idxE (locE 0) (conE (.int 0))) (idxE (locE 1) (conE (.int 0)))) (retS (conE (.bl false))) nilS)
    (seqS (asgS (tgN 2) (idxE (locE 0) (conE (.int 1))))
    (seqS (ifS (cmpT .Is (idxE (locE 1) (conE (.int 1))) (conE .non)) (retS (boolE (cmpT .Is (locE 2) (conE .non)))) nilS)
    (seqS (ifS (valT (isiE (idxE (locE 1) (conE (.int 1))) "int")) (retS (boolE (andT (bvT (callE f_l_num (consA (locE 2) nilA) [])) (cmpT .Eq (locE 2) (idxE (locE 1) (conE (.int 1))))))) nilS)
    (seqS (ifS (valT (isiE (idxE (locE 1) (conE (.int 1))) "tuple")) (retS (callE f_l_saying_ok (consA (locE 2) (consA (idxE (locE 1) (conE (.int 1))) nilA)) [])) nilS)
    (retS (boolE (andT (bvT (isiE (locE 2) "list")) (andT (bvT (bltE bAll (consA (lcE (seqI (locE 2)) [3] (tgN 3) yesT e_l_result_ok_1) nilA))) (cmpT .Eq (locE 2) (idxE (locE 1) (conE (.int 1)))))))))))))
noncomputable def f_l_result_ok : Fn := mkF 2 4 b_l_result_ok
noncomputable def e_l_pairs_told_1 : SE := (callE f_l_pair_of_wood (consA (locE 2) nilA) [])
theorem e_l_pairs_told_1_ev {ρ : Env} : e_l_pairs_told_1 ρ = (callE f_l_pair_of_wood (consA (locE 2) nilA) []) ρ := rfl
noncomputable def b_l_pairs_told : SS := (retS (boolE (andT (bvT (isiE (locE 0) "list")) (andT (bvT (bltE bAll (consA (lcE (seqI (locE 0)) [2] (tgN 2) yesT e_l_pairs_told_1) nilA))) (cmpT .Eq (locE 0) (locE 1))))))
noncomputable def f_l_pairs_told : Fn := mkF 2 3 b_l_pairs_told
noncomputable def b_l_points_1 : SS := (retS (rmE "Room" "points" f_p_Room_points (locE 0) (consA (locE 1) nilA)))
theorem b_l_points_1_ev {ρ : Env} : b_l_points_1 ρ = (retS (rmE "Room" "points" f_p_Room_points (locE 0) (consA (locE 1) nilA))) ρ := rfl
noncomputable def b_l_points : SS := (tryS ["NoListener"] b_l_points_1 [("NoListener", fun _ => (retS (lstE (consA (conE (.str "refused")) nilA))))])
noncomputable def f_l_points : Fn := mkF 2 2 b_l_points
noncomputable def b_p_Room_come : SS := (seqS (ifS (notT (valT (callE f_p_good_name (consA (locE 1) nilA) []))) (raiS "BadName") nilS)
    (seqS (ifS (cmpT .In (locE 1) (fldE ["Room"] "scores" (locE 0))) (raiS "Taken") nilS)
    (seqS (ifS (cmpT .GtE (bltE bLen (consA (fldE ["Room"] "people" (locE 0)) nilA)) (conE (.int 9))) (raiS "Full") nilS)
    (seqS (mtS .l (fldP ["Room"] "people" (locP 0)) (consA (locE 1) nilA) opApp)
    (seqS (stoS (fldP ["Room"] "scores" (locP 0)) (locE 1) (conE (.int 0)))
    (ifS (cmpT .Gt (fldE ["Room"] "filled" (locE 0)) (conE (.int 0))) (stoS (fldP ["Room"] "heard" (locP 0)) (locE 1) (mkE "Sayings" f_p_Sayings___init__ (consA (fldE ["Room"] "filled" (locE 0)) nilA))) nilS))))))
noncomputable def f_p_Room_come : GFn := mkG "Room" 2 2 b_p_Room_come
noncomputable def b_l_people_ok_1 : SS := (seqS (asgS (tgN 5) (callE f_l_points (consA (locE 0) (consA (locE 4) nilA)) []))
    (ifS (orT (notT (valT (callE f_l_num (consA (locE 5) nilA) []))) (cmpT .NotEq (locE 5) (idxE (idxE (locE 1) (conE (.str "points"))) (locE 4)))) (retP (conE (.bl false))) nilS))
noncomputable def b_l_people_ok : SS := (seqS (asgS (tgN 3) (rmE "Room" "listeners" f_p_Room_listeners (locE 0) nilA))
    (seqS (ifS (orT (notT (valT (isiE (locE 3) "list"))) (cmpT .NotEq (locE 3) (idxE (locE 1) (conE (.str "people"))))) (retP (conE (.bl false))) nilS)
    (seqS (forS (seqI (idxE (locE 1) (conE (.str "people")))) (tgN 4) b_l_people_ok_1)
    (retI (andM (mE (callE f_l_refused (consA (callE f_l_points (consA (locE 0) (consA (locE 2) nilA)) []) nilA) [])) (callM f_l_pairs_told (cvA (rmT "Room" "standings" f_p_Room_standings (locE 0)) (pA (consA (callE f_l_standings (consA (locE 1) nilA) []) nilA)))))))))
noncomputable def f_l_people_ok : Fn := mkT 3 7 b_l_people_ok
noncomputable def e_l_rich_woods_2 : SE := (tupE (consA (locE 5) (consA (bltE bMin (consA (conE (.int 99)) (consA (binE .Add (locE 6) (conE (.int 2))) nilA))) nilA)))
theorem e_l_rich_woods_2_ev {ρ : Env} : e_l_rich_woods_2 ρ = (tupE (consA (locE 5) (consA (bltE bMin (consA (conE (.int 99)) (consA (binE .Add (locE 6) (conE (.int 2))) nilA))) nilA))) ρ := rfl
noncomputable def b_l_rich_woods_1 : SS := (ifS (cmpT .Lt (callE f_l_total (consA (locE 2) nilA) []) (locE 1)) (asgS (tgN 2) (lcE (seqI (locE 2)) [5, 6] (tgT (tgCons (tgN 5) (tgCons (tgN 6) tgNil))) yesT e_l_rich_woods_2)) nilS)
theorem b_l_rich_woods_1_ev {ρ : Env} : b_l_rich_woods_1 ρ = (ifS (cmpT .Lt (callE f_l_total (consA (locE 2) nilA) []) (locE 1)) (asgS (tgN 2) (lcE (seqI (locE 2)) [5, 6] (tgT (tgCons (tgN 5) (tgCons (tgN 6) tgNil))) yesT e_l_rich_woods_2)) nilS) ρ := rfl
noncomputable def b_l_rich_woods : SS := (seqS (asgS (tgT (tgCons (tgN 2) (tgCons (tgN 3) tgNil))) (callE f_l_woods (consA (locE 0) nilA) []))
    (seqS (forS (rng1I (locE 1)) (tgN 4) b_l_rich_woods_1)
    (retS (tupE (consA (locE 2) (consA (locE 3) nilA))))))
noncomputable def f_l_rich_woods : Fn := mkF 2 7 b_l_rich_woods
noncomputable def b_l_begun : SS := (seqS (asgS (tgT (tgCons (tgN 1) (tgCons (tgN 2) (tgCons (tgN 3) tgNil)))) (callE f_l_split (consA (locE 0) (consA (conE (.int 3)) (consA (conE (.int 1)) nilA))) []))
    (seqS (asgS (tgT (tgCons (tgN 4) (tgCons (tgN 5) tgNil))) (callE f_l_woods (consA (locE 1) nilA) []))
    (seqS (ifS (cmpT .Gt (idxE (callE f_l_draw (consA (locE 3) (consA (lstE (consA (conE (.int 4)) nilA)) nilA)) []) (conE (.int 0))) (conE (.int 0))) (asgS (tgT (tgCons (tgN 4) (tgCons (tgN 5) tgNil))) (callE f_l_rich_woods (consA (locE 1) (consA (conE (.int 24)) nilA)) [])) nilS)
    (seqS (asgS (tgN 6) (callE f_l_names (consA (locE 2) (consA (conE (.int 12)) nilA)) []))
    (retS (tupE (consA (locE 4) (consA (slE (locE 6) noO (someO (conE (.int 11)))) (consA (idxE (locE 6) (conE (.int 11))) nilA)))))))))
noncomputable def f_l_begun : Fn := mkF 1 7 b_l_begun
noncomputable def b_l_tried_v19_1 : SS := (retI (tupM (cvA (mE (conE (.str ""))) (clA (iteM (mT (cmpT .Eq (idxE (locE 1) (conE (.int 0))) (conE (.str "come")))) (mcM "Room" "come" f_p_Room_come (locQP 0) (consA (idxE (locE 1) (conE (.int 1))) nilA)) (mcM "Room" "leave" f_p_Room_leave (locQP 0) (consA (idxE (locE 1) (conE (.int 1))) nilA)))))))
theorem b_l_tried_v19_1_ev {ρ : Env} : b_l_tried_v19_1 ρ = (retI (tupM (cvA (mE (conE (.str ""))) (clA (iteM (mT (cmpT .Eq (idxE (locE 1) (conE (.int 0))) (conE (.str "come")))) (mcM "Room" "come" f_p_Room_come (locQP 0) (consA (idxE (locE 1) (conE (.int 1))) nilA)) (mcM "Room" "leave" f_p_Room_leave (locQP 0) (consA (idxE (locE 1) (conE (.int 1))) nilA))))))) ρ := rfl
noncomputable def b_l_tried_v19 : SS := (tryS ["BadMany", "BadName", "Full", "NoListener", "Taken"] b_l_tried_v19_1 [("BadName", fun _ => (retP (tupE (consA (conE (.str "BadName")) (consA (conE .non) nilA))))), ("Taken", fun _ => (retP (tupE (consA (conE (.str "Taken")) (consA (conE .non) nilA))))), ("Full", fun _ => (retP (tupE (consA (conE (.str "Full")) (consA (conE .non) nilA))))), ("NoListener", fun _ => (retP (tupE (consA (conE (.str "NoListener")) (consA (conE .non) nilA)))))])
noncomputable def f_l_tried_v19 : HFn := mkH [0] 2 2 b_l_tried_v19
noncomputable def b_l_law_k51_v2_1 : SS := (seqS (asgS (tgN 7) (callE f_l_draw (consA (callE f_l_cell (consA (locE 0) (consA (locE 6) nilA)) []) (consA (lstE (consA (conE (.int 11)) (consA (conE (.int 8)) (consA (conE (.int 36)) (consA (conE (.int 5)) (consA (conE (.int 5)) (consA (conE (.int 2)) nilA))))))) nilA)) []))
    (seqS (asgS (tgN 8) (callE f_l_drawn_v2 (consA (locE 7) (consA (idxE (locE 5) (conE (.str "people"))) (consA (locE 2) nilA))) []))
    (seqS (asgM (tgN 9) (iteM (mT (cmpT .Eq (idxE (locE 8) (conE (.int 0))) (conE (.str "come")))) (hcM f_l_come [0] (pH (locP 5) (vH (idxE (locE 8) (conE (.int 1))) nilH))) (hcM f_l_leave [0] (pH (locP 5) (vH (idxE (locE 8) (conE (.int 1))) nilH)))))
    (seqS (ifM (notM (callM f_l_result_ok (cvA (hcM f_l_tried_v19 [0] (pH (locP 4) (vH (locE 8) nilH))) (pA (consA (locE 9) nilA))))) (retP (conE (.bl false))) nilS)
    (ifS (orT (cmpT .Eq (idxE (locE 7) (conE (.int 5))) (conE (.int 0))) (cmpT .Gt (locE 6) (conE (.int 50)))) (seqS (ifM (callT f_l_people_ok (consA (locE 4) (consA (locE 5) (consA (locE 3) nilA))) []) nilS (retP (conE (.bl false))))
    (seqS (tapS (rmE "Room" "listeners" f_p_Room_listeners (locE 4) nilA) (locE 3))
    (tapM (rmT "Room" "standings" f_p_Room_standings (locE 4)) (tupE (consA (locE 3) (consA (conE (.int 0)) nilA)))))) nilS)))))
noncomputable def b_l_law_k51_v2 : SS := (seqS (asgS (tgT (tgCons (tgN 1) (tgCons (tgN 2) (tgCons (tgN 3) tgNil)))) (callE f_l_begun (consA (callE f_l_cell (consA (locE 0) (consA (conE (.int 0)) nilA)) []) nilA) []))
    (seqS (asgS (tgN 4) (mkE "Room" f_p_Room___init__ (consA (mkzE "Tray" f_p_Tray___init__ (consA (locE 1) nilA)) nilA)))
    (seqS (asgS (tgN 5) (callE f_l_model (consA (locE 1) nilA) []))
    (seqS (forS (rng2I (conE (.int 1)) (callE f_l_many (consA (locE 0) (consA (conE (.int 16)) nilA)) [])) (tgN 6) b_l_law_k51_v2_1)
    (retI (callT f_l_people_ok (consA (locE 4) (consA (locE 5) (consA (locE 3) nilA))) []))))))
noncomputable def f_l_law_k51_v2 : Fn := mkT 1 11 b_l_law_k51_v2
end Cz
set_option maxHeartbeats 1000000
set_option exponentiation.threshold 20000
namespace Cz
open PySem PySem.Spec PyProof.Rows L2
inductive InR : List Int → List Int → Prop
  | nil : InR [] []
  | cons {l x : Int} {ls xs : List Int} : 0 ≤ x → x < l → InR ls xs → InR (l :: ls) (x :: xs)
theorem InR.len {ls xs : List Int} (h : InR ls xs) : xs.length = ls.length := by induction h <;> simp_all
theorem InR.get {ls xs : List Int} (h : InR ls xs) : ∀ {i : Nat} {l : Int}, ls[i]? = some l → ∃ x, xs[i]? = some x ∧ 0 ≤ x ∧ x < l := by
  induction h with
  | nil => intro i l e; simp at e
  | cons h1 h2 _ ih =>
    intro i l e
    cases i with
    | zero => simp at e; subst e; exact ⟨_, rfl, h1, h2⟩
    | succ i => simp at e ⊢; exact ih e
theorem InR.app {ms : List Int} : ∀ {ls : List Int} {xs : List Int}, InR (ls ++ ms) xs → ∃ a b, xs = a ++ b ∧ InR ls a ∧ InR ms b
  | [], xs, h => ⟨[], xs, rfl, .nil, h⟩
  | l :: ls, _, .cons h1 h2 h => by
    obtain ⟨a, b, e, h3, h4⟩ := InR.app h
    exact ⟨_ :: a, b, by rw [e]; rfl, .cons h1 h2 h3, h4⟩
def LimOk (l : Int) : Prop := 0 < l ∧ l.natAbs < 2 ^ 9000
theorem LimOk.of {l : Int} (h : 0 < l) (h2 : l < 18446744073709551616) : LimOk l := ⟨h, Nat.lt_of_lt_of_le (show l.natAbs < 2 ^ 64 by omega) (Nat.pow_le_pow_right (by decide) (by decide))⟩
theorem LimOk.pow {l : Int} {n : Nat} (h : 0 < l) (h2 : l.natAbs < 2 ^ n) (h3 : n ≤ 9000) : LimOk l := ⟨h, Nat.lt_of_lt_of_le h2 (Nat.pow_le_pow_right (by decide) h3)⟩
theorem LimOk.div {l : Int} (h : LimOk l) : divOk l = true := divOk_of h.1 h.2 (by decide) (by decide)
theorem draw_loop (ls : List Int) (hl : ∀ l ∈ ls, LimOk l) (a0 a1 : D) : ∀ (rest seed : Int) (acc : List Int) (s5 : Sl), 0 ≤ rest → 0 ≤ seed → seed < 2147483647 → acc.length + ls.length < 16777216 →
    ∃ rest' seed' s5' row, loopS (tgN 5) b_l_draw_1 (ls.map D.int) [.bo [] a0, .bo [] a1, .bo [] (.int rest), .bo [] (.int seed), .ow (.lst (acc.map .int)), s5] =
      .nx [.bo [] a0, .bo [] a1, .bo [] (.int rest'), .bo [] (.int seed'), .ow (.lst ((acc ++ row).map .int)), s5'] ∧ InR ls row := by
  induction ls with
  | nil => intro rest seed acc s5 _ _ _ _; exact ⟨_, _, _, [], by simp; exact ⟨rfl, rfl, rfl⟩, .nil⟩
  | cons l ls ih =>
    intro rest seed acc s5 h1 h2 h3 h4
    have hl0 := hl l List.mem_cons_self
    have hd := hl0.div
    have hp := hl0.1
    simp only [List.length_cons] at h4
    have m1 : mulOk seed seed = true := mulOk_small (by omega) (by omega) (by omega) (by omega)
    obtain ⟨q, hq⟩ : ∃ q, q = seed * seed % 2147483647 := ⟨_, rfl⟩
    have hq1 : 0 ≤ q := by omega
    have hq2 : q < 2147483647 := by omega
    have m2 : mulOk q (seed + 17) = true := mulOk_small (by omega) (by omega) (by omega) (by omega)
    obtain ⟨n, hn⟩ : ∃ n, n = (q * (seed + 17) + 12553) % 2147483647 := ⟨_, rfl⟩
    have hn1 : 0 ≤ n := by omega
    have hn2 : n < 2147483647 := by omega
    have m3 : mulOk (n % 8191) 31 = true := mulOk_small (by omega) (by omega) (by omega) (by omega)
    have d59 : divOk 59 = true := by decide
    obtain ⟨x, hx, hx1, hx2⟩ : ∃ x, x = (if 0 < rest then rest % l else (n / 59 + n % 8191 * 31) % l) ∧ 0 ≤ x ∧ x < l := by
      refine ⟨_, rfl, ?_, ?_⟩
      · split <;> exact Int.emod_nonneg _ (by omega)
      · split <;> exact Int.emod_lt_of_pos _ hp
    have hr : 0 ≤ rest / l := Int.ediv_nonneg h1 (by omega)
    obtain ⟨rest', seed', s5', row, e, r⟩ := ih (fun l' h' => hl l' (List.mem_cons_of_mem _ h')) (rest / l) n (acc ++ [x]) (.bo [] (.int l)) hr hn1 hn2 (by simp; omega)
    refine ⟨rest', seed', s5', x :: row, ?_, .cons hx1 hx2 r⟩
    rw [List.map_cons, loopS_cons]
    have hlen : acc.length < 16777216 := by omega
    by_cases h0 : 0 < rest
    · simp only [if_pos h0] at hx
      simp [b_l_draw_1_ev, m1, ← hq, m2, ← hn, h0, hp, ← hx, hd, hlen]
      simpa using e
    · simp only [if_neg h0] at hx
      simp [b_l_draw_1_ev, m1, ← hq, m2, ← hn, h0, m3, d59, hp, ← hx, hd, hlen]
      simpa using e
theorem draw_ok (c : Int) (ls : List Int) (hl : ∀ l ∈ ls, LimOk l) (hn : ls.length < 16777216) : ∃ row, f_l_draw [.int c, .lst (ls.map .int)] = .ok (.own, .lst (row.map .int)) ∧ InR ls row := by
  have p1 : powOk 10 18 = true := by decide
  obtain ⟨r, hr, hr0⟩ : ∃ r, r = (if (1000000000000000000 : Int) ≤ c then c else 0) ∧ 0 ≤ r := ⟨_, rfl, by split <;> omega⟩
  have m1 : mulOk (c % 2147483629) 48271 = true := mulOk_small (by omega) (by omega) (by omega) (by omega)
  obtain ⟨s, hs⟩ : ∃ s, s = (c % 2147483629 * 48271 + 7919) % 2147483647 := ⟨_, rfl⟩
  obtain ⟨rest', seed', s5', row, e, i⟩ := draw_loop ls hl (.int c) (.lst (ls.map .int)) r s [] .no hr0 (by omega) (by omega) (by simpa using hn)
  refine ⟨row, ?_, i⟩
  simp at e
  by_cases h : (1000000000000000000 : Int) ≤ c
  · rw [if_pos h] at hr
    subst hr
    simp [f_l_draw, mkF_ev, b_l_draw, p1, h, m1, ← hs, e]
  · rw [if_neg h] at hr
    subst hr
    simp [f_l_draw, mkF_ev, b_l_draw, p1, h, m1, ← hs, e]
end Cz
set_option maxHeartbeats 1000000
namespace Cz
open PySem PySem.Spec PyProof.Rows L2
theorem lims_of {ls : List Int} (h : ls.all (fun l => decide (0 < l) && decide (l < 18446744073709551616)) = true) : ∀ l ∈ ls, LimOk l := fun l hl => by
  have := List.all_eq_true.mp h l hl
  simp at this
  exact .of this.1 this.2
theorem draw_lit (c : Int) (ls : List Int) (h : ls.all (fun l => decide (0 < l) && decide (l < 18446744073709551616)) = true) (hn : ls.length < 16777216) : ∃ row, f_l_draw [.int c, .lst (ls.map .int)] = .ok (.own, .lst (row.map .int)) ∧ InR ls row := draw_ok c ls (lims_of h) hn
def turns (ns : List Int) (few : Int) : Int := max few (min ns.length 63)
theorem many_ok (ns : List Int) (few : Int) : f_l_many [.scr (ns.map .int), .int few] = .ok (.own, .int (turns ns few)) := by
  simp [f_l_many, mkF_ev, b_l_many, turns]
def Cel (j : Nat) (c : Int) : Prop := c.natAbs < 2 ^ (1048700 + 2000 * j)
theorem Cel.small {j : Nat} {c : Int} (h : c.natAbs < 2 ^ 2000) : Cel j c := Nat.lt_of_lt_of_le h (Nat.pow_le_pow_right (by decide) (by omega))
theorem Cel.mono {i j : Nat} {c : Int} (h : Cel i c) (hij : i ≤ j) : Cel j c := Nat.lt_of_lt_of_le h (Nat.pow_le_pow_right (by decide) (by omega))
theorem Cel.mul {j : Nat} {c m : Int} (h : Cel j c) (hj : j ≤ 40000) (hm : m.natAbs < 2 ^ 64) : mulOk c m = true := mulOk_of h hm (by omega) (by decide) (by omega)
theorem Cel.add {j : Nat} {c m a : Int} (h : Cel j c) (hm : m.natAbs < 2 ^ 64) (ha : a.natAbs < 2 ^ 64) : Cel (j + 1) (c * m + a) := by
  unfold Cel at h ⊢
  have e1 : (c * m).natAbs < 2 ^ (1048700 + 2000 * j + 64) := by
    rw [Int.natAbs_mul, Nat.pow_add]
    exact Nat.mul_lt_mul'' h hm
  have e2 : 2 ^ (1048700 + 2000 * j + 64) + 2 ^ 64 ≤ 2 ^ (1048700 + 2000 * (j + 1)) := by
    have : (2 : Nat) ^ 64 ≤ 2 ^ (1048700 + 2000 * j + 64) := Nat.pow_le_pow_right (by decide) (by omega)
    have h3 : (2 : Nat) ^ (1048700 + 2000 * j + 64) * 2 ≤ 2 ^ (1048700 + 2000 * (j + 1)) := by
      rw [← Nat.pow_succ]; exact Nat.pow_le_pow_right (by decide) (by omega)
    omega
  have e3 := Int.natAbs_add_le (c * m) a
  omega
def cellI (ns : List Int) (k : Nat) : Int := if k < ns.length then ns.getD k 0 else ns.sum % 1000003 * 131 + ns.length * 7919 + k * 104729
theorem cell_ok (ns : List Int) (k : Nat) (hk : k < 1000000) (hl : ns.length < 1000000) : f_l_cell [.scr (ns.map .int), .int k] = .ok (.own, .int (cellI ns k)) := by
  have m1 : mulOk (ns.sum % 1000003) 131 = true := mulOk_small (by omega) (by omega) (by omega) (by omega)
  have m2 : mulOk (ns.length : Int) 7919 = true := mulOk_small (by omega) (by omega) (by omega) (by omega)
  have m3 : mulOk (k : Int) 104729 = true := mulOk_small (by omega) (by omega) (by omega) (by omega)
  by_cases h : k < ns.length
  · have h' : (k : Int) < ns.length := by omega
    have e : atI (ns.map D.int) (k : Int) = some (.int (ns.getD k 0)) := by
      rw [atI_nn _ _ (by omega)]
      simp [List.getD, h]
    simp [f_l_cell, mkF_ev, b_l_cell, cellI, h, h', e]
  · have h' : ¬ (k : Int) < ns.length := by omega
    simp [f_l_cell, mkF_ev, b_l_cell, cellI, h, h', m1, m2, m3]
theorem intBits_lt {z : Int} {n : Nat} (h : Builtin.Int.intBits z ≤ n) : z.natAbs < 2 ^ n := by
  by_cases h0 : z = 0
  · subst h0; simp; exact Nat.two_pow_pos n
  · unfold Builtin.Int.intBits at h
    rw [if_neg (by simpa using h0)] at h
    exact (Nat.log2_lt (by omega)).mp (by omega)
theorem cell_cel (ns : List Int) (k : Nat) (hk : k < 1000000) (hl : ns.length < 1000000) (hb : ∀ z ∈ ns, Builtin.Int.intBits z ≤ 1048576) : Cel 0 (cellI ns k) := by
  unfold cellI
  split
  · rename_i h
    have : ns.getD k 0 ∈ ns := by simp [List.getD, h]
    exact Nat.lt_of_lt_of_le (intBits_lt (hb _ this)) (Nat.pow_le_pow_right (by decide) (by decide))
  · refine Cel.small ?_
    have : (2 : Nat) ^ 64 ≤ 2 ^ 2000 := Nat.pow_le_pow_right (by decide) (by decide)
    have := Int.emod_nonneg ns.sum (show (1000003 : Int) ≠ 0 by decide)
    have := Int.emod_lt_of_pos ns.sum (show (0 : Int) < 1000003 by decide)
    omega
theorem split_loop (w : Int) (hw : LimOk w) (hw2 : w.natAbs < 2 ^ 1900) (a1 a2 a3 : D) (ks : List Nat) (hk : ∀ k ∈ ks, k < 1000) : ∀ (j : Nat) (c : Int) (big : Bool) (acc : List Int) (s7 : Sl), Cel j c → j ≤ 30000 → acc.length + ks.length < 16777216 →
    ∃ (c' : Int) (s7' : Sl) (row : List Int), loopS (tgN 7) b_l_split_1 (ks.map fun (i : Nat) => .int (0 + (i : Int))) [.bo [] (.int c), .bo [] a1, .bo [] a2, .bo [] a3, .bo [] (.int w), .ow (.lst (acc.map .int)), .bo [] (.bl big), s7] =
      .nx [.bo [] (.int c'), .bo [] a1, .bo [] a2, .bo [] a3, .bo [] (.int w), .ow (.lst ((acc ++ row).map .int)), .bo [] (.bl big), s7'] ∧ row.length = ks.length ∧ ∀ x ∈ row, Cel (j + 1) x := by
  induction ks with
  | nil => intro j c big acc s7 _ _ _; exact ⟨_, _, [], by simp; exact ⟨rfl, rfl⟩, rfl, by simp⟩
  | cons k ks ih =>
    intro j c big acc s7 h1 h2 h3
    simp only [List.length_cons] at h3
    have hk0 := hk k List.mem_cons_self
    have hd := hw.div
    have hp := hw.1
    have p18 : powOk 10 18 = true := by decide
    have hlen : acc.length < 16777216 := by omega
    cases big with
    | true =>
      have c2 : Cel j (c / w) := by
        have : (c / w).natAbs ≤ c.natAbs := by
          by_cases hc : 0 ≤ c
          · have := Int.ediv_le_self w hc
            have := Int.ediv_nonneg hc (show 0 ≤ w by omega)
            omega
          · have e1 := Int.ediv_mul_le c (show w ≠ 0 by omega)
            have e2 : c ≤ c / w := by
              rcases Int.lt_or_le (c / w) c with h | h
              · exfalso
                have e3 : c < (c / w + 1) * w := Int.lt_ediv_add_one_mul_self c hp
                have e4 : c / w + 1 ≤ c := by omega
                have e5 : (c / w + 1) * w ≤ c * w := Int.mul_le_mul_of_nonneg_right e4 (by omega)
                have e6 : c * w ≤ c * 1 := Int.mul_le_mul_of_nonpos_left (by omega) (by omega)
                omega
              · exact h
            have e7 : c / w ≤ 0 := Int.ediv_nonpos_of_nonpos_of_neg (by omega) (by omega)
            omega
        exact Nat.lt_of_le_of_lt this h1
      obtain ⟨c', s7', row, e, hl, hr⟩ := ih (fun k' h' => hk k' (List.mem_cons_of_mem _ h')) j (c / w) true (acc ++ [1000000000000000000 + c % w]) (.bo [] (.int k)) c2 h2 (by simp; omega)
      refine ⟨c', s7', (1000000000000000000 + c % w) :: row, ?_, by simp [hl], fun x hx => ?_⟩
      · rw [List.map_cons, loopS_cons]
        simp [b_l_split_1_ev, p18, hp, hd, hlen]
        simpa using e
      · rcases List.mem_cons.mp hx with e | hx
        · subst e
          refine Cel.small ?_
          have := Int.emod_nonneg c (show w ≠ 0 by omega)
          have := Int.emod_lt_of_pos c hp
          have : (2 : Nat) ^ 1900 * 2 ≤ 2 ^ 2000 := by rw [← Nat.pow_succ]; exact Nat.pow_le_pow_right (by decide) (by decide)
          have : (2 : Nat) ^ 64 ≤ 2 ^ 1900 := Nat.pow_le_pow_right (by decide) (by decide)
          omega
        · exact hr x hx
    | false =>
      have hm : ((2 * (k : Int) + 3)).natAbs < 2 ^ 64 := by omega
      have ha : (7919 * (k : Int)).natAbs < 2 ^ 64 := by omega
      have m1 : mulOk 2 (k : Int) = true := mulOk_small (by omega) (by omega) (by omega) (by omega)
      have m2 : mulOk 7919 (k : Int) = true := mulOk_small (by omega) (by omega) (by omega) (by omega)
      have m3 : mulOk c (2 * (k : Int) + 3) = true := h1.mul (by omega) hm
      obtain ⟨c', s7', row, e, hl, hr⟩ := ih (fun k' h' => hk k' (List.mem_cons_of_mem _ h')) j c false (acc ++ [c * (2 * (k : Int) + 3) + 7919 * (k : Int)]) (.bo [] (.int k)) h1 h2 (by simp; omega)
      refine ⟨c', s7', (c * (2 * (k : Int) + 3) + 7919 * (k : Int)) :: row, ?_, by simp [hl], fun x hx => ?_⟩
      · rw [List.map_cons, loopS_cons]
        simp [b_l_split_1_ev, m1, m2, m3, hlen]
        simpa using e
      · rcases List.mem_cons.mp hx with e | hx
        · subst e
          exact h1.add hm ha
        · exact hr x hx
def wA : Int := 10 ^ 60
def wB : Int := wA * wA
def wW (w : Nat) : Int := if w = 0 then 1000000000000000000000000000000 else if w = 1 then wB else wB * wB * wB * wB
theorem mul_lt2 {x y : Int} {a b : Nat} (h1 : x.natAbs < 2 ^ a) (h2 : y.natAbs < 2 ^ b) : (x * y).natAbs < 2 ^ (a + b) := by rw [Int.natAbs_mul, Nat.pow_add]; exact Nat.mul_lt_mul'' h1 h2
theorem wA_lt : wA.natAbs < 2 ^ 200 := by decide +kernel
theorem wA_pos : 0 < wA := by decide +kernel
theorem wB_pos : 0 < wB := Int.mul_pos wA_pos wA_pos
theorem wB_lt : wB.natAbs < 2 ^ 400 := mul_lt2 wA_lt wA_lt
theorem wB2_lt : (wB * wB).natAbs < 2 ^ 800 := mul_lt2 wB_lt wB_lt
theorem wB3_lt : (wB * wB * wB).natAbs < 2 ^ 1200 := mul_lt2 wB2_lt wB_lt
theorem wB4_lt : (wB * wB * wB * wB).natAbs < 2 ^ 1600 := mul_lt2 wB3_lt wB_lt
theorem w30_lt : (1000000000000000000000000000000 : Int).natAbs < 2 ^ 100 := by decide +kernel
theorem w30_pos : 0 < (1000000000000000000000000000000 : Int) := by decide +kernel
theorem wW_lim (w : Nat) : LimOk (wW w) ∧ (wW w).natAbs < 2 ^ 1900 := by
  have up : ∀ {x : Int} {a : Nat}, 0 < x → x.natAbs < 2 ^ a → a ≤ 1900 → LimOk x ∧ x.natAbs < 2 ^ 1900 := fun h0 h1 h2 => ⟨.pow h0 h1 (Nat.le_trans h2 (by decide)), Nat.lt_of_lt_of_le h1 (Nat.pow_le_pow_right (by decide) h2)⟩
  unfold wW
  split
  · exact up w30_pos w30_lt (by decide)
  · split
    · exact up wB_pos wB_lt (by decide)
    · exact up (Int.mul_pos (Int.mul_pos (Int.mul_pos wB_pos wB_pos) wB_pos) wB_pos) wB4_lt (by decide)
theorem wW_at (w : Nat) (hw : w < 3) : atI [D.int 1000000000000000000000000000000, D.int wB, D.int (wB * wB * wB * wB)] (w : Int) = some (.int (wW w)) := by
  match w, hw with
  | 0, _ => rfl
  | 1, _ => rfl
  | 2, _ => rfl
theorem wA_eq : (10 : Int) ^ 60 = wA := id rfl
theorem wB_eq : wA * wA = wB := id rfl
theorem split_ev (c : Int) (n w : Nat) (W : Int) (big : Bool) (x y : Sl) (c' : Int) (row : List Int) (hbig : big = decide (1000000000000000000 ≤ c)) (rg : rgOk (n : Int) = true) (hW : atI [D.int 1000000000000000000000000000000, D.int wB, D.int (wB * wB * wB * wB)] (w : Int) = some (.int W))
    (e : loopS (tgN 7) b_l_split_1 ((List.range n).map fun (i : Nat) => .int (i : Int)) [.bo [] (.int c), .bo [] (.int n), .bo [] (.int w), .bo [] (.int wB), .bo [] (.int W), .ow (.lst []), .bo [] (.bl big), .no] =
      .nx [.bo [] (.int c'), .bo [] (.int n), .bo [] (.int w), .bo [] (.int wB), .bo [] (.int W), .ow (.lst (row.map .int)), x, y]) : f_l_split [.int c, .int n, .int w] = .ok (.own, .lst (row.map .int)) := by
  have p18 : powOk 10 18 = true := by decide
  have p30 : powOk 10 30 = true := by decide
  have p60 : powOk 10 60 = true := by decide
  have m1 : mulOk wA wA = true := mulOk_of wA_lt wA_lt (by decide) (by decide) (by decide)
  have m2 : mulOk wB wB = true := mulOk_of wB_lt wB_lt (by decide) (by decide) (by decide)
  have m3 : mulOk (wB * wB) wB = true := mulOk_of wB2_lt wB_lt (by decide) (by decide) (by decide)
  have m4 : mulOk (wB * wB * wB) wB = true := mulOk_of wB3_lt wB_lt (by decide) (by decide) (by decide)
  simp [f_l_split, mkF_ev, b_l_split, p18, p30, p60, wA_eq, wB_eq, m1, m2, m3, m4, rg, rng, hW, ← hbig, e]
theorem split_ok (c : Int) (j : Nat) (n : Nat) (w : Nat) (hc : Cel j c) (hj : j ≤ 30000) (hn : n ≤ 1000) (hw : w < 3) : ∃ row : List Int, f_l_split [.int c, .int n, .int w] = .ok (.own, .lst (row.map .int)) ∧ row.length = n ∧ ∀ x ∈ row, Cel (j + 1) x := by
  have rg : rgOk (n : Int) = true := rgOk_of (by omega) (by omega)
  obtain ⟨l1, l2⟩ := wW_lim w
  obtain ⟨c', s7', row, e, hl, hr⟩ := split_loop (wW w) l1 l2 (.int n) (.int w) (.int wB) (List.range n) (fun k hk => by have := List.mem_range.mp hk; omega) j c (decide (1000000000000000000 ≤ c)) [] .no hc hj (by simp; omega)
  refine ⟨row, split_ev c n w (wW w) _ (.bo [] (.bl (decide (1000000000000000000 ≤ c)))) s7' c' row rfl rg (wW_at w hw) ?_, by simpa using hl, hr⟩
  simpa using e
end Cz
set_option maxHeartbeats 1000000
namespace Cz
open PySem PySem.Spec PyProof.Rows L2
def wayGo : Int → List Int → Bool
  | _, [] => true
  | ab, x :: xs => decide (0 ≤ x) && decide (x ≤ ab) && wayGo (max ab (x + 1)) xs
def isWay (l : List Int) : Bool := decide (1 ≤ l.length) && decide (l.length ≤ 9) && wayGo 0 l
def wayAb (ab : Int) (l : List Int) : Int := l.foldl (fun a x => max a (x + 1)) ab
theorem wayGo_app (l m : List Int) : ∀ ab, wayGo ab (l ++ m) = (wayGo ab l && wayGo (wayAb ab l) m) := by
  induction l with
  | nil => intro ab; simp [wayGo, wayAb]
  | cons x l ih => intro ab; simp [wayGo, wayAb, ih, Bool.and_assoc]
end Cz
set_option maxHeartbeats 1000000
namespace Cz
open PySem PySem.Spec PyProof.Rows L2
@[simp] theorem kit_ii : kitB "int" "int" = some true := by decide +kernel
@[simp] theorem kit_ib : kitB "int" "bool" = some false := by decide +kernel
@[simp] theorem kit_bi : kitB "bool" "int" = some true := by decide +kernel
@[simp] theorem kit_bb : kitB "bool" "bool" = some true := by decide +kernel
@[simp] theorem kit_tt : kitB "tuple" "tuple" = some true := by decide +kernel
@[simp] theorem kit_lt : kitB "list" "tuple" = some false := by decide +kernel
@[simp] theorem kit_ll : kitB "list" "list" = some true := by decide +kernel
@[simp] theorem kit_tl : kitB "tuple" "list" = some false := by decide +kernel
@[simp] theorem kit_il : kitB "int" "list" = some false := by decide +kernel
@[simp] theorem kit_bl : kitB "bool" "list" = some false := by decide +kernel
@[simp] theorem kit_nl : kitB "NoneType" "list" = some false := by decide +kernel
@[simp] theorem kit_ss : kitB "str" "str" = some true := by decide +kernel
@[simp] theorem kit_sl : kitB "str" "list" = some false := by decide +kernel
@[simp] theorem kit_ls : kitB "list" "str" = some false := by decide +kernel
@[simp] theorem kit_lb : kitB "list" "bool" = some false := by decide +kernel
@[simp] theorem tyD_non : tyD .non = "NoneType" := id rfl
@[simp] theorem tyD_int {i : Int} : tyD (.int i) = "int" := id rfl
@[simp] theorem tyD_bl {i : Bool} : tyD (.bl i) = "bool" := id rfl
@[simp] theorem tyD_str {i : Str} : tyD (.str i) = "str" := id rfl
@[simp] theorem tyD_tup {i : List D} : tyD (.tup i) = "tuple" := id rfl
@[simp] theorem tyD_lst {i : List D} : tyD (.lst i) = "list" := id rfl
@[simp] theorem num_ok (i : Int) : f_l_num [.int i] = .ok (.own, .bl true) := by simp [f_l_num, mkF_ev, b_l_num]
@[simp] theorem refused_ok : f_l_refused [.lst [.str "refused"]] = .ok (.own, .bl true) := by
  have e : eqD (.str "refused") (.str "refused") = some true := by rw [eqD_str (by decide +kernel) (by decide +kernel)]; simp
  simp [f_l_refused, mkF_ev, b_l_refused, e]
def seenI (s : List Int) (n : Int) : List Int := if n ∈ s then s else s ++ [n]
def numGo : List Int → List Int → List Int
  | _, [] => []
  | s, n :: r => ((seenI s n).idxOf n : Int) :: numGo (seenI s n) r
def numW (l : List Int) : List Int := numGo [] l
theorem numGo_len (l : List Int) : ∀ s, (numGo s l).length = l.length := by
  induction l with
  | nil => intro s; rfl
  | cons n l ih => intro s; simp [numGo, ih]
@[simp] theorem numW_len (l : List Int) : (numW l).length = l.length := numGo_len l []
@[simp] theorem intsD_mapI (l : List Int) : intsD (l.map D.int) = some l := intsD_map _
theorem seq_step {a r : SS} {ρ ρ' : Env} (h : a ρ = .nx ρ') : seqS a r ρ = r ρ' := by rw [seqS_ev, h, seq_nx]
end Cz
set_option maxHeartbeats 2000000
namespace Cz
open PySem PySem.Spec PyProof.Rows L2
def tx (l : List Nat) : Str := ⟨l.toArray⟩
theorem tx_app (a b : List Nat) : tx a ++ tx b = tx (a ++ b) := by
  show Str.mk _ = Str.mk _
  simp [tx]
theorem tx_len (a : List Nat) : (tx a).length = a.length := by simp [tx, Str.length]
theorem tx_nil : ("" : Str) = tx [] := by decide +kernel
theorem join_eq (s : Str) (ys : List Str) : Txt.join s ys = Str.join s ys := by unfold Txt.join; rw [StrLaws.glued_eq_join]
theorem join_ones' : ∀ cs : List Nat, Txt.join "" (cs.map fun c => tx [c]) = tx cs := fun cs => by
  rw [join_eq, tx_nil]
  induction cs with
  | nil => rfl
  | cons c cs ih =>
    cases cs with
    | nil => rfl
    | cons d ds =>
      show tx [c] ++ tx [] ++ Str.join (tx []) ((d :: ds).map fun c => tx [c]) = _
      rw [ih, tx_app, tx_app]; rfl
end Cz
set_option maxHeartbeats 2000000
namespace Cz
open PySem PySem.Spec PyProof.Rows L2
@[simp] theorem lenD_str' (z : Str) : lenD (.str z) = if z.length ≤ 16777216 then some z.length else none := id rfl
def lets : List Nat := (List.range 26).map (· + 97)
theorem lets_tx : ("abcdefghijklmnopqrstuvwxyz" : Str) = tx lets := by decide +kernel
theorem mem_lets {c : Nat} : c ∈ lets ↔ 97 ≤ c ∧ c < 123 := by
  unfold lets
  simp only [List.mem_map, List.mem_range]
  exact ⟨fun ⟨i, h1, h2⟩ => by omega, fun h => ⟨c - 97, by omega, by omega⟩⟩
def letB (c : Nat) : Bool := decide (c ∈ lets)
def goodN (y : Str) : Bool := decide (1 ≤ y.length) && decide (y.length ≤ 12) && y.cps.toList.all letB
theorem goodN_len {y : Str} (h : goodN y = true) : 1 ≤ y.length ∧ y.length ≤ 12 := by
  simp [goodN] at h; exact h.1
theorem goodN_ok {y : Str} (h : goodN y = true) : PyData.strOk y = true := by
  simp only [goodN, Bool.and_eq_true, List.all_eq_true] at h
  show y.cps.all _ = true
  rw [← Array.all_toList, List.all_eq_true]
  intro c hc
  have := of_decide_eq_true (h.2 c hc)
  rw [mem_lets] at this
  exact decide_eq_true (by omega)
theorem goodN_tx {l : List Nat} (h1 : 1 ≤ l.length) (h2 : l.length ≤ 12) (h : ∀ c ∈ l, 97 ≤ c ∧ c < 123) : goodN (tx l) = true := by
  simp only [goodN, tx_len, Bool.and_eq_true, decide_eq_true_eq, List.all_eq_true]
  exact ⟨⟨h1, h2⟩, fun c hc => decide_eq_true (mem_lets.mpr (h c (by simpa [tx] using hc)))⟩
theorem good_name_ok (y : Str) (hy : y.length ≤ 16777216) : f_p_good_name [.str y] = .ok (.own, .bl (goodN y)) := by
  have hl : y.cps.toList.length = y.length := by simp [Str.length]
  have e1 := lcE_noL (it := seqI (locE 0)) (own := [1]) (tg := tgN 1) (elt := e_p_good_name_1) (k := .own) (l := y.cps.toList) (f := fun c => .str ⟨#[c]⟩) (h := fun c => .bl (letB c))
    (ρ := [.bo [] (.str y), .no]) (by simp) (by simp) (by omega) (fun c hc => ⟨_, .own, rfl, by
      have : inD (.str ⟨#[c]⟩) (.str ("abcdefghijklmnopqrstuvwxyz" : Str)) = some (letB c) := by
        rw [lets_tx]; rfl
      simp [e_p_good_name_1_ev, this], rfl⟩)
  have e2 : blsD (y.cps.toList.map fun c => D.bl (letB c)) = some (y.cps.toList.map letB) := blsD_fn _ _
  have e3 : (y.cps.toList.map letB).all id = y.cps.toList.all letB := by rw [List.all_map]; rfl
  by_cases h1 : 1 ≤ y.length
  · have h1' : (1 : Int) ≤ (y.length : Int) := by omega
    by_cases h2 : y.length ≤ 12
    · have h2' : (y.length : Int) ≤ 12 := by omega
      simp [f_p_good_name, mkF_ev, b_p_good_name, e1, e2, e3, h1, h2, h1', h2', hy, goodN]
    · have h2' : ¬ (y.length : Int) ≤ 12 := by omega
      simp [f_p_good_name, mkF_ev, b_p_good_name, h1, h2, h1', h2', hy, goodN]
  · have h1' : ¬ (1 : Int) ≤ (y.length : Int) := by omega
    simp [f_p_good_name, mkF_ev, b_p_good_name, h1, h1', hy, goodN]
end Cz
set_option maxHeartbeats 4000000
namespace Cz
open PySem PySem.Spec PyProof.Rows L2
@[simp] theorem idxB_str {k : Kd} {z : Str} {i : Int} : idxB (k, .str z) (.int i) = if z.length ≤ 16777216 then (atI z.cps.toList i).map fun c => (.own, .str ⟨#[c]⟩) else none := id rfl
theorem getD_memX {r : List Int} {i : Nat} (h : i < r.length) : r.getD i 0 ∈ r := by simp [List.getD, h]
theorem atX {u : List Int} {k : Nat} (h : k < u.length) : atI (u.map D.int) (k : Int) = some (.int (u.getD k 0)) := by
  rw [atI_nn _ _ (by omega)]; simp [List.getD, h]
def ltn (n : Int) : Nat := 97 + (n % 26).toNat
theorem ltn_rng (n : Int) : 97 ≤ ltn n ∧ ltn n < 123 := by unfold ltn; omega
theorem lets_at (n : Int) : atI (tx lets).cps.toList (n % 26) = some (ltn n) := by
  rw [atI_nn _ _ (by omega)]
  have : ∀ k < 26, (tx lets).cps.toList[k]? = some (97 + k) := by decide +kernel
  rw [this _ (by omega)]; rfl
def NmAt (p : Nat) (x : Int) (j : Nat) (y : Str) : Prop := goodN y = true ∧ y.cps.toList[p]? = some (ltn (x + 5 * j))
theorem names_step (z : Int) (n : Nat) (hn : n ≤ 12) (row : List Int) (rl : row.length = 4 + n + 12 * n) (hr : ∀ x ∈ row, 0 ≤ x ∧ x < 26) (h0 : row.getD 0 0 < 12) (j : Nat) (hj : j < n) (acc : List Str) (ha : acc.length < 1000) (s6 s7 : Sl) :
    ∃ y s6' s7', NmAt (row.getD 0 0).toNat (row.getD 3 0) j y ∧ b_l_names_3 [.bo [] (.int z), .bo [] (.int n), .bo [] (.str "abcdefghijklmnopqrstuvwxyz"), .bo [] (.int j), .ow (.lst (row.map .int)), .ow (.lst (acc.map .str)), s6, s7, .no, .no] =
      .nx [.bo [] (.int z), .bo [] (.int n), .bo [] (.str "abcdefghijklmnopqrstuvwxyz"), .bo [] (.int j), .ow (.lst (row.map .int)), .ow (.lst ((acc ++ [y]).map .str)), s6', s7', .no, .no] := by
  have at1 : ∀ i : Nat, i < row.length → atI (row.map D.int) (i : Int) = some (.int (row.getD i 0)) := fun i h => atX h
  have rb : ∀ i : Nat, i < row.length → 0 ≤ row.getD i 0 ∧ row.getD i 0 < 26 := fun i h => hr _ (getD_memX h)
  have a0 : atI (row.map D.int) 0 = some (.int (row.getD 0 0)) := at1 0 (by omega)
  have a1 : atI (row.map D.int) 1 = some (.int (row.getD 1 0)) := at1 1 (by omega)
  have a2 : atI (row.map D.int) 2 = some (.int (row.getD 2 0)) := at1 2 (by omega)
  have a3 : atI (row.map D.int) 3 = some (.int (row.getD 3 0)) := at1 3 (by omega)
  have a4 : atI (row.map D.int) (4 + (j : Int)) = some (.int (row.getD (4 + j) 0)) := by have := at1 (4 + j) (by omega); simpa using this
  have b0 := rb 0 (by omega); have b4 := rb (4 + j) (by omega); have b3 := rb 3 (by omega)
  obtain ⟨p, hp⟩ : ∃ p : Nat, row.getD 0 0 = (p : Int) := ⟨(row.getD 0 0).toNat, by omega⟩
  have a5 : ∀ k : Nat, k < 12 → atI (row.map D.int) (4 + (n : Int) + 12 * j + (k : Int)) = some (.int (row.getD (4 + n + 12 * j + k) 0)) := fun k hk => by
    have := at1 (4 + n + 12 * j + k) (by omega)
    simpa using this
  rw [hp] at a0 h0
  obtain ⟨sz, hsz, hs1, hs2⟩ : ∃ sz : Nat, (p : Int) + 1 + row.getD (4 + j) 0 % (12 - (p : Int)) = (sz : Int) ∧ p < sz ∧ sz ≤ 12 := by
    have m1 := Int.emod_nonneg (row.getD (4 + j) 0) (show (12 - (p : Int)) ≠ 0 by omega)
    have m2 := Int.emod_lt_of_pos (row.getD (4 + j) 0) (show 0 < (12 - (p : Int)) by omega)
    exact ⟨((p : Int) + 1 + row.getD (4 + j) 0 % (12 - (p : Int))).toNat, by omega, by omega, by omega⟩
  obtain ⟨v, hv⟩ : ∃ v, v = row.getD 3 0 + 5 * (j : Int) := ⟨_, rfl⟩
  obtain ⟨sg, hsg⟩ : ∃ sg : Nat → Int, sg = fun k => if row.getD 1 0 = 0 then row.getD (4 + n + 12 * j + k) 0 else row.getD 2 0 := ⟨_, rfl⟩
  have mo : mulOk 12 (j : Int) = true := mulOk_small (by omega) (by omega) (by omega) (by omega)
  have mo5 : mulOk 5 (j : Int) = true := mulOk_small (by omega) (by omega) (by omega) (by omega)
  have mon : mulOk 12 (n : Int) = true := mulOk_small (by omega) (by omega) (by omega) (by omega)
  have e1 := lcE_noL (it := rng1I (locE 6)) (own := [8]) (tg := tgN 8) (elt := e_l_names_4) (k := .own) (l := List.range sz) (f := fun k : Nat => .int (k : Int)) (h := fun k => .int (sg k))
    (ρ := [.bo [] (.int z), .bo [] (.int n), .bo [] (.str "abcdefghijklmnopqrstuvwxyz"), .bo [] (.int j), .ow (.lst (row.map .int)), .ow (.lst (acc.map .str)), .bo [] (.int sz), s7, .no, .no]) (by simp [rng, show rgOk (sz : Int) = true from rgOk_of (by omega) (by omega)]) (by simp) (by simp; omega) (fun k hk => ⟨_, .bor [4], rfl, by
      have hk' := List.mem_range.mp hk
      have a5' := a5 k (by omega)
      rw [hsg]
      by_cases q : row.getD 1 0 = 0
      · simp only [q] at a1 ⊢
        simp [e_l_names_4_ev, a1, mo, a5', -List.getD_eq_getElem?_getD, -atI_0, -atI_1, -atI_ofNat]
      · generalize row.getD 1 0 = u at *
        simp [e_l_names_4_ev, a1, a2, q, -List.getD_eq_getElem?_getD, -atI_0, -atI_1, -atI_ofNat], rfl⟩)
  obtain ⟨gs, hgs⟩ : ∃ gs : List Int, gs = ((List.range sz).map sg).set p v := ⟨_, rfl⟩
  have gl : gs.length = sz := by rw [hgs]; simp
  have e2 := lcE_noL (it := seqI (locE 7)) (own := [9]) (tg := tgN 9) (elt := e_l_names_5) (k := .bor [7]) (l := gs) (f := .int) (h := fun g => .str (tx [ltn g]))
    (ρ := [.bo [] (.int z), .bo [] (.int n), .bo [] (.str "abcdefghijklmnopqrstuvwxyz"), .bo [] (.int j), .ow (.lst (row.map .int)), .ow (.lst (acc.map .str)), .bo [] (.int sz), .ow (.lst (gs.map .int)), .no, .no]) (by simp) (by simp) (by omega) (fun g hg => ⟨_, .own, rfl, by
      have := lets_at g
      have l26 : (tx lets).length = 26 := by decide +kernel
      rw [← lets_tx] at this l26
      simp [e_l_names_5_ev, this, l26, tx], rfl⟩)
  have e3 := joinB_l (z := "") (ys := gs.map fun g => tx [ltn g]) (by
    have : ((gs.map fun g => tx [ltn g]).map (·.length)).sum = gs.length := by
      rw [List.map_map, show ((fun x : Str => x.length) ∘ fun g => tx [ltn g]) = fun _ : Int => 1 from funext fun g => tx_len [ltn g]]
      simp [List.map_const']
    rw [this]
    simp [show ("" : Str).length = 0 from rfl]; omega)
  have e4 : Txt.join "" (gs.map fun g => tx [ltn g]) = tx (gs.map ltn) := by
    have := join_ones' (gs.map ltn)
    simpa [List.map_map, Function.comp_def] using this
  simp only [List.map_map, Function.comp_def] at e1 e2 e3
  rw [e4] at e3
  refine ⟨tx (gs.map ltn), .bo [] (.int sz), .ow (.lst (gs.map .int)), ⟨goodN_tx (by simp; omega) (by simp; omega) (fun c hc => by
    obtain ⟨g, _, rfl⟩ := List.mem_map.mp hc; exact ltn_rng g), ?_⟩, ?_⟩
  · have : gs[p]? = some v := by rw [hgs, List.getElem?_set_self (by simpa using hs1)]
    rw [hp, ← hv]; simp [tx, this]
  · have ix : ixN sz (p : Int) = some p := by
      rw [ixN_nn (by omega) (by simpa using hs1)]; rfl
    have p12 : (p : Int) < 12 := by omega
    have st : ((List.range sz).map fun k => D.int (sg k)).set p (.int v) = gs.map .int := by
      rw [hgs, List.map_set, List.map_map]; rfl
    rw [hv] at st
    generalize gs.map D.int = GS at *
    generalize tx (gs.map ltn) = Y at *
    simp [b_l_names_3_ev, a0, a3, a4, hsz, e1, p12, mo5, ix, st, e2, e3, -List.getD_eq_getElem?_getD, -List.map_set, -atI_0, -atI_1, -atI_ofNat, show acc.length < 16777216 by omega]
    done
theorem names_loop (z : Int) (n : Nat) (hn : n ≤ 12) (row : List Int) (rl : row.length = 4 + n + 12 * n) (hr : ∀ x ∈ row, 0 ≤ x ∧ x < 26) (h0 : row.getD 0 0 < 12) : ∀ (m p : Nat) (acc : List Str) (s3 s6 s7 : Sl), p + m = n → acc.length = p → (∀ i y, acc[i]? = some y → NmAt (row.getD 0 0).toNat (row.getD 3 0) i y) →
    ∃ (acc' : List Str) (s3' s6' s7' : Sl), loopS (tgN 3) b_l_names_3 ((List.range' p m).map fun k : Nat => D.int k) [.bo [] (.int z), .bo [] (.int n), .bo [] (.str "abcdefghijklmnopqrstuvwxyz"), s3, .ow (.lst (row.map .int)), .ow (.lst (acc.map .str)), s6, s7, .no, .no] =
      .nx [.bo [] (.int z), .bo [] (.int n), .bo [] (.str "abcdefghijklmnopqrstuvwxyz"), s3', .ow (.lst (row.map .int)), .ow (.lst (acc'.map .str)), s6', s7', .no, .no] ∧ acc'.length = n ∧ ∀ i y, acc'[i]? = some y → NmAt (row.getD 0 0).toNat (row.getD 3 0) i y := by
  intro m
  induction m with
  | zero => intro p acc s3 s6 s7 hp ha hy; exact ⟨acc, s3, s6, s7, rfl, by omega, hy⟩
  | succ m ih =>
    intro p acc s3 s6 s7 hp ha hy
    obtain ⟨y, s6', s7', ny, e⟩ := names_step z n hn row rl hr h0 p (by omega) acc (by omega) s6 s7
    obtain ⟨acc', s3', s6'', s7'', e2, l2, h2⟩ := ih (p + 1) (acc ++ [y]) (.bo [] (.int p)) s6' s7' (by omega) (by simp; omega) (fun i w hw => by
      by_cases q : i < acc.length
      · rw [List.getElem?_append_left q] at hw; exact hy i w hw
      · have : i = acc.length := by
          have := (List.getElem?_eq_some_iff.mp hw).1
          simp at this; omega
        subst this
        simp at hw; subst hw; rw [ha]; exact ny)
    refine ⟨acc', s3', s6'', s7'', ?_, l2, h2⟩
    rw [← e2, List.range'_succ, List.map_cons, loopS_cons]
    simp [e]
theorem names_ok2 (z : Int) (n : Nat) (hn : n ≤ 12) : ∃ ys : List Str, f_l_names [.int z, .int n] = .ok (.own, .lst (ys.map .str)) ∧ ys.length = n ∧ (∀ y ∈ ys, goodN y = true) ∧ ys.Nodup ∧ ∃ (p : Nat) (x : Int), ∀ i y, ys[i]? = some y → NmAt p x i y := by
  obtain ⟨row, e, ir⟩ := draw_lit z (12 :: 2 :: 26 :: 26 :: (List.replicate n 12 ++ List.replicate (12 * n) 26)) (by simp) (by simp; omega)
  have rl : row.length = 4 + n + 12 * n := by rw [ir.len]; simp; omega
  have hr : ∀ x ∈ row, 0 ≤ x ∧ x < 26 := fun x hx => by
    obtain ⟨i, hi, rfl⟩ := List.getElem_of_mem hx
    have h1 : i < (12 :: 2 :: 26 :: 26 :: (List.replicate n (12 : Int) ++ List.replicate (12 * n) 26)).length := by rw [← ir.len]; exact hi
    obtain ⟨x, h2, h3, h4⟩ := ir.get (List.getElem?_eq_getElem h1)
    rw [List.getElem?_eq_getElem hi] at h2
    have h5 : (12 :: 2 :: 26 :: 26 :: (List.replicate n (12 : Int) ++ List.replicate (12 * n) 26))[i] ≤ 26 := by
      have := List.getElem_mem h1
      generalize (12 :: 2 :: 26 :: 26 :: (List.replicate n (12 : Int) ++ List.replicate (12 * n) 26))[i] = w at *
      simp at this
      omega
    cases h2
    exact ⟨h3, by omega⟩
  have h0 : row.getD 0 0 < 12 := by
    obtain ⟨x, h2, h3, h4⟩ := ir.get (i := 0) (l := 12) rfl
    simp [List.getD, h2, h4]
  obtain ⟨ys, s3', s6', s7', e2, l2, h2⟩ := names_loop z n hn row rl hr h0 n 0 [] .no .no .no (by omega) rfl (by simp)
  refine ⟨ys, ?_, l2, fun y hy => ?_, ?_, _, _, h2⟩
  · have l1 := lcE_noL (it := rng1I (locE 1)) (own := [3]) (tg := tgN 3) (elt := e_l_names_1) (k := .own) (l := List.range n) (f := fun k : Nat => .int (k : Int)) (h := fun _ => .int 12)
      (ρ := [.bo [] (.int z), .bo [] (.int n), .bo [] (.str "abcdefghijklmnopqrstuvwxyz"), .no, .no, .no, .no, .no, .no, .no]) (by simp [rng, show rgOk (n : Int) = true from rgOk_of (by omega) (by omega)]) (by simp) (by simp; omega) (fun k hk => ⟨_, .own, rfl, by simp [e_l_names_1_ev], rfl⟩)
    have mo : mulOk 12 (n : Int) = true := mulOk_small (by omega) (by omega) (by omega) (by omega)
    have l3 := lcE_noL (it := rng1I (binE .Mult (conE (.int 12)) (locE 1))) (own := [3]) (tg := tgN 3) (elt := e_l_names_2) (k := .own) (l := List.range (12 * n)) (f := fun k : Nat => .int (k : Int)) (h := fun _ => .int 26)
      (ρ := [.bo [] (.int z), .bo [] (.int n), .bo [] (.str "abcdefghijklmnopqrstuvwxyz"), .no, .no, .no, .no, .no, .no, .no]) (by
        have : (12 * (n : Int)).toNat = 12 * n := by omega
        simp [rng, mo, this, show rgOk (12 * (n : Int)) = true from rgOk_of (by omega) (by omega)]) (by simp) (by simp; omega) (fun k hk => ⟨_, .own, rfl, by simp [e_l_names_2_ev], rfl⟩)
    have c1 : ∀ m : Nat, ∀ x : Int, ((List.range m).map fun _ => D.int x) = List.replicate m (.int x) := fun m x => by
      simp [List.map_const']
    rw [c1] at l1 l3
    rw [← List.range_eq_range'] at e2
    simp at e
    have rg1 : rgOk (n : Int) = true := rgOk_of (by omega) (by omega)
    simp [f_l_names, mkF_ev, b_l_names, l1, l3, e, rg1, rng, show 4 + n ≤ 16777216 by omega, show n + 1 + 1 + 1 + 1 + 12 * n ≤ 16777216 by omega]
    simp at e2
    rw [e2]
    simp
  · obtain ⟨i, hi, rfl⟩ := List.getElem_of_mem hy
    exact (h2 i _ (List.getElem?_eq_getElem hi)).1
  · refine List.pairwise_iff_getElem.mpr fun i j hi hj hij hh => ?_
    have q1 := h2 i _ (List.getElem?_eq_getElem hi)
    have q2 := h2 j _ (List.getElem?_eq_getElem hj)
    rw [hh] at q1
    have := q1.2.symm.trans q2.2
    simp [ltn] at this
    omega
theorem names_ok (z : Int) (n : Nat) (hn : n ≤ 12) : ∃ ys : List Str, f_l_names [.int z, .int n] = .ok (.own, .lst (ys.map .str)) ∧ ys.length = n ∧ (∀ y ∈ ys, goodN y = true) ∧ ys.Nodup :=
  let ⟨ys, h1, h2, h3, h4, _⟩ := names_ok2 z n hn
  ⟨ys, h1, h2, h3, h4⟩
end Cz
set_option maxHeartbeats 4000000
namespace Cz
open PySem PySem.Spec PyProof.Rows L2
abbrev WD := Str × Int
def woodD (w : WD) : D := .tup [.str w.1, .int w.2]
@[simp] theorem noL_woodD (w : WD) : noL (woodD w) = true := rfl
structure WoodsOk (ws : List WD) (st : Str) : Prop where
  pos : 1 ≤ ws.length
  six : ws.length ≤ 6
  good : ∀ w ∈ ws, goodN w.1 = true
  rng : ∀ w ∈ ws, 0 ≤ w.2 ∧ w.2 < 100
  nd : (ws.map (·.1)).Nodup
  gst : goodN st = true
  ns : st ∉ ws.map (·.1)
theorem lwoods_ok (c : Int) (j : Nat) (hc : Cel j c) (hj : j ≤ 1000) : ∃ ws st, WoodsOk ws st ∧ f_l_woods [.int c] = .ok (.own, .tup [.lst (ws.map woodD), .str st]) := by
  obtain ⟨sp, e1, sl, sc⟩ := split_ok c j 2 0 hc (by omega) (by decide) (by decide)
  obtain ⟨x, y, rfl⟩ : ∃ x y, sp = [x, y] := by
    match sp, sl with
    | [x, y], _ => exact ⟨x, y, rfl⟩
  obtain ⟨row, e2, ir⟩ := draw_lit x [6, 3, 100, 100, 100, 100, 100, 100] (by decide) (by decide)
  obtain ⟨ys, e3, yl, yg, yn⟩ := names_ok y 7 (by decide)
  have rl : row.length = 8 := ir.len
  obtain ⟨r0, q0, p0, p1⟩ := ir.get (i := 0) (l := 6) rfl
  obtain ⟨r1, q1, p2, p3⟩ := ir.get (i := 1) (l := 3) rfl
  obtain ⟨n, rfl⟩ : ∃ n : Nat, r0 = (n : Int) := ⟨r0.toNat, by omega⟩
  obtain ⟨cap, hcap, c1, c2⟩ : ∃ cap : Int, atI [D.int 4, D.int 12, D.int 100] r1 = some (.int cap) ∧ 0 < cap ∧ cap ≤ 100 := by
    obtain h | h | h : r1 = 0 ∨ r1 = 1 ∨ r1 = 2 := by omega
    · exact ⟨4, by rw [h]; rfl, by omega, by omega⟩
    · exact ⟨12, by rw [h]; rfl, by omega, by omega⟩
    · exact ⟨100, by rw [h]; rfl, by omega, by omega⟩
  have ay : ∀ k : Nat, k < 7 → atI (ys.map D.str) (k : Int) = some (.str (ys.getD k "")) := fun k hk => by
    rw [atI_nn _ _ (by omega)]; simp [List.getD, show k < ys.length by omega]
  obtain ⟨ws, hws⟩ : ∃ ws : List WD, ws = (List.range (n + 1)).map fun k => (ys.getD k "", row.getD (2 + k) 0 % cap) := ⟨_, rfl⟩
  have wn : ws.map (·.1) = ys.take (n + 1) := by
    rw [hws]
    apply List.ext_getElem?
    intro i
    simp only [List.map_map, List.getElem?_map, Function.comp_def, List.getElem?_take]
    by_cases h : i < n + 1
    · simp [h, List.getD, show i < ys.length by omega]
    · simp [h]
  have l3 := lcE_noL (it := rng1I (binE .Add (idxE (locE 3) (conE (.int 0))) (conE (.int 1)))) (own := [6]) (tg := tgN 6) (elt := e_l_woods_2) (k := .own) (l := List.range (n + 1)) (f := fun k : Nat => .int (k : Int)) (h := fun k => woodD (ys.getD k "", row.getD (2 + k) 0 % cap))
    (ρ := [.bo [] (.int c), .bo [] (.int x), .bo [] (.int y), .ow (.lst (row.map .int)), .ow (.lst (ys.map .str)), .bo [] (.int cap), .no]) (by
      have t2 : ((n : Int) + 1).toNat = n + 1 := by omega
      simp [rng, q0, t2, show rgOk ((n : Int) + 1) = true from rgOk_of (by omega) (by omega)]) (by simp) (by simp; omega) (fun k hk => ⟨_, .own, rfl, by
      have hk' := List.mem_range.mp hk
      have g1 := ay k (by omega)
      have g2 : atI (row.map D.int) (2 + (k : Int)) = some (.int (row.getD (2 + k) 0)) := by
        have := atX (u := row) (k := 2 + k) (by omega); simpa using this
      generalize ys.getD k "" = a at *
      generalize row.getD (2 + k) 0 = b at *
      simp [e_l_woods_2_ev, g1, g2, c1, woodD], rfl⟩)
  have hw2 : ws.map woodD = (List.range (n + 1)).map fun k => woodD (ys.getD k "", row.getD (2 + k) 0 % cap) := by rw [hws, List.map_map]; rfl
  rw [← hw2] at l3
  have l1 := lcE_noL (it := rng1I (conE (.int 6))) (own := [6]) (tg := tgN 6) (elt := e_l_woods_1) (k := .own) (l := List.range 6) (f := fun k : Nat => .int (k : Int)) (h := fun _ => .int 100)
    (ρ := [.bo [] (.int c), .bo [] (.int x), .bo [] (.int y), .no, .no, .no, .no]) (by simp [rng, show rgOk 6 = true from rgOk_of (by omega) (by omega)]) (by simp) (by simp) (fun k hk => ⟨_, .own, rfl, by simp [e_l_woods_1_ev], rfl⟩)
  have l1' : (List.range 6).map (fun _ => D.int 100) = [.int 100, .int 100, .int 100, .int 100, .int 100, .int 100] := rfl
  rw [l1'] at l1
  have a6 : atI (ys.map D.str) 6 = some (.str (ys.getD 6 "")) := ay 6 (by decide)
  have a1 : atI (row.map D.int) 1 = some (.int r1) := by
    have := atX (u := row) (k := 1) (by omega)
    have h0 : row.getD 1 0 = r1 := by simp [List.getD, q1]
    rw [h0] at this; exact this
  refine ⟨ws, ys.getD 6 "", ⟨?_, ?_, ?_, ?_, ?_, ?_, ?_⟩, ?_⟩
  · rw [hws]; simp
  · rw [hws]; simp; omega
  · intro w hw
    exact yg _ (List.mem_of_mem_take (wn ▸ List.mem_map_of_mem hw))
  · intro w hw
    rw [hws] at hw
    obtain ⟨k, _, rfl⟩ := List.mem_map.mp hw
    have m1 := Int.emod_nonneg (row.getD (2 + k) 0) (show cap ≠ 0 by omega)
    have m2 := Int.emod_lt_of_pos (row.getD (2 + k) 0) c1
    exact ⟨m1, by show row.getD (2 + k) 0 % cap < 100; omega⟩
  · rw [wn]; exact yn.sublist (List.take_sublist _ _)
  · exact yg _ (by simp [List.getD, show 6 < ys.length by omega])
  · rw [wn]
    intro h
    obtain ⟨i, hi, e⟩ := List.getElem_of_mem h
    rw [List.getElem_take] at e
    simp at hi
    have := (List.pairwise_iff_getElem.mp yn) i 6 (by omega) (by omega) (by omega)
    apply this
    rw [e]
    simp [List.getD, show 6 < ys.length by omega]
  · have e1' : f_l_split [.int c, .int 2, .int 0] = .ok (.own, .lst [.int x, .int y]) := e1
    have e2' : f_l_draw [.int x, .lst [.int 6, .int 3, .int 100, .int 100, .int 100, .int 100, .int 100, .int 100]] = .ok (.own, .lst (row.map .int)) := e2
    have e3' : f_l_names [.int y, .int 7] = .ok (.own, .lst (ys.map .str)) := e3
    generalize ys.getD 6 "" = z at *
    simp [f_l_woods, mkF_ev, b_l_woods, e1', l1, e2', e3', a1, hcap, l3, a6, -atI_1, -atI_ofNat]
end Cz
set_option maxHeartbeats 4000000
namespace Cz
open PySem PySem.Spec PyProof.Rows L2
@[simp] theorem setP_fld {q : List Ix} {f : Str} {t : Nat} {C : String} {fs : List (Str × D)} {d' : D} : setP (.fld f :: q) (.obj t C fs) d' = (valD fs f).bind fun d => (setP q d d').map fun d' => .obj t C (putD fs f d') := by simp [setP]
def kv (ws : List WD) : List (Key × D) := ws.map fun w => (.inr w.1, .int w.2)
@[simp] theorem kv_len (ws : List WD) : (kv ws).length = ws.length := by simp [kv]
theorem kv_app (a b : List WD) : kv (a ++ b) = kv a ++ kv b := by simp [kv]
def trayD (ws : List WD) : D := .sob "Tray" [("stock", .fdc (kv ws))]
def pkO : List WD → Str → Option Int
  | [], _ => none
  | w :: r, n => if w.1 = n then some w.2 else pkO r n
theorem valD_kv (n : Str) : ∀ ws : List WD, valD (kv ws) (.inr n) = (pkO ws n).map D.int
  | [] => rfl
  | w :: r => by
    show valD ((Sum.inr w.1, D.int w.2) :: kv r) _ = _
    rw [valD_cons, valD_kv n r]
    by_cases h : w.1 = n
    · simp [pkO, h]
    · have : ¬ ((Sum.inr w.1 : Key) = Sum.inr n) := fun e => h (Sum.inr.inj e)
      simp [pkO, h, this]
theorem pkO_none {n : Str} : ∀ {ws : List WD}, pkO ws n = none ↔ n ∉ ws.map (·.1)
  | [] => by simp [pkO]
  | w :: r => by
    by_cases h : w.1 = n
    · simp [pkO, h]
    · simp only [pkO, h, if_false, pkO_none (ws := r), List.map_cons, List.mem_cons, not_or]
      exact ⟨fun q => ⟨fun e => h e.symm, q⟩, fun q => q.2⟩
theorem pkO_isSome {n : Str} {ws : List WD} : (pkO ws n).isSome = decide (n ∈ ws.map (·.1)) := by
  cases h : pkO ws n with
  | none => simp only [Option.isSome_none]; exact (decide_eq_false (pkO_none.mp h)).symm
  | some x =>
    simp only [Option.isSome_some]
    refine (decide_eq_true ?_).symm
    exact Classical.byContradiction fun z => by rw [pkO_none.mpr z] at h; cases h
def trGo : List WD → List WD → Bool
  | _, [] => true
  | seen, w :: r => goodN w.1 && (!decide (w.1 ∈ seen.map (·.1)) && (decide (0 ≤ w.2) && decide (w.2 ≤ 99))) && trGo (seen ++ [w]) r
def trayOk (ws : List WD) : Bool := decide (1 ≤ ws.length) && decide (ws.length ≤ 6) && trGo [] ws
theorem init_step (w : WD) (hw : w.1.length ≤ 16777216) (ws1 : List WD) (hl : ws1.length < 1000) (L : D) (t : Nat) :
    b_p_Tray___init___1 [.ow (.obj t "Tray" [("stock", .dic (kv ws1))]), .bo [] L, .bo [] (.str w.1), .bo [] (.int w.2)] =
      if (goodN w.1 && (!decide (w.1 ∈ ws1.map (·.1)) && (decide (0 ≤ w.2) && decide (w.2 ≤ 99)))) = true then .nx [.ow (.obj t "Tray" [("stock", .dic (kv (ws1 ++ [w])))]), .bo [] L, .bo [] (.str w.1), .bo [] (.int w.2)]
      else .ex "BadTray" [.ow (.obj t "Tray" [("stock", .dic (kv ws1))]), .bo [] L, .bo [] (.str w.1), .bo [] (.int w.2)] := by
  have g1 := good_name_ok w.1 hw
  have g2 := valD_kv w.1 ws1
  have g3 : (valD (kv ws1) (.inr w.1)).isSome = decide (w.1 ∈ ws1.map (·.1)) := by rw [g2, ← pkO_isSome]; cases pkO ws1 w.1 <;> rfl
  by_cases h1 : goodN w.1 = true
  · by_cases h2 : w.1 ∈ ws1.map (·.1)
    · rw [decide_eq_true h2] at g3
      simp only [h1, h2]
      simp [b_p_Tray___init___1_ev, g1, g3, h1]
    · have pn : putD (kv ws1) (.inr w.1) (.int w.2) = kv (ws1 ++ [w]) := by
        rw [putD_new, kv_app]; · rfl
        intro p hp e
        unfold kv at hp
        obtain ⟨v, hv, rfl⟩ := List.mem_map.mp hp
        exact h2 (List.mem_map.mpr ⟨v, hv, Sum.inr.inj e⟩)
      rw [decide_eq_false h2] at g3
      have ps : ∀ x : D, putD [(Str.ofString "stock", D.dic (kv ws1))] (Str.ofString "stock") x = [(Str.ofString "stock", x)] := fun x => by simp [putD]
      by_cases h3 : 0 ≤ w.2
      · by_cases h4 : w.2 ≤ 99
        · simp only [h1, h2, h3, h4]
          simp [b_p_Tray___init___1_ev, g1, g3, h1, h3, h4, pn, ps, show ws1.length < 16777216 by omega]
        · simp only [h1, h2, h3, h4]
          simp [b_p_Tray___init___1_ev, g1, g3, h1, h3, h4]
      · simp only [h1, h2, h3]
        simp [b_p_Tray___init___1_ev, g1, g3, h1, h3]
  · simp only [h1]
    simp [b_p_Tray___init___1_ev, g1, h1]
theorem init_loop (L : D) : ∀ (ws2 ws1 : List WD) (s2 s3 : Sl), (∀ w ∈ ws2, w.1.length ≤ 16777216) → ws1.length + ws2.length < 1000 → ∃ s2' s3' wz, ∀ t, loopS (tgT (tgCons (tgN 2) (tgCons (tgN 3) tgNil))) b_p_Tray___init___1 (ws2.map woodD) [.ow (.obj t "Tray" [("stock", .dic (kv ws1))]), .bo [] L, s2, s3] =
    if trGo ws1 ws2 = true then .nx [.ow (.obj t "Tray" [("stock", .dic (kv (ws1 ++ ws2)))]), .bo [] L, s2', s3'] else .ex "BadTray" [.ow (.obj t "Tray" [("stock", .dic (kv wz))]), .bo [] L, s2', s3'] := by
  intro ws2
  induction ws2 with
  | nil => intro ws1 s2 s3 _ _; exact ⟨s2, s3, [], fun t => by simp [trGo]⟩
  | cons w r ih =>
    intro ws1 s2 s3 hw hl
    simp only [List.length_cons] at hl
    obtain ⟨s2', s3', wz, e⟩ := ih (ws1 ++ [w]) (.bo [] (.str w.1)) (.bo [] (.int w.2)) (fun v hv => hw v (List.mem_cons_of_mem _ hv)) (by simp; omega)
    have st := fun t => init_step w (hw w List.mem_cons_self) ws1 (by omega) L t
    have tg : ∀ t, tgT (tgCons (tgN 2) (tgCons (tgN 3) tgNil)) (.bor []) (woodD w) [.ow (.obj t "Tray" [("stock", .dic (kv ws1))]), .bo [] L, s2, s3] = some [.ow (.obj t "Tray" [("stock", .dic (kv ws1))]), .bo [] L, .bo [] (.str w.1), .bo [] (.int w.2)] := fun t => by simp [woodD]
    cases h : (goodN w.1 && (!decide (w.1 ∈ ws1.map (·.1)) && (decide (0 ≤ w.2) && decide (w.2 ≤ 99)))) with
    | false =>
      refine ⟨.bo [] (.str w.1), .bo [] (.int w.2), ws1, fun t => ?_⟩
      rw [List.map_cons, loopS_cons, tg, trGo, h]
      simp only [st, h]
      simp
    | true =>
      refine ⟨s2', s3', wz, fun t => ?_⟩
      rw [List.map_cons, loopS_cons, tg, trGo, h]
      simp only [st, h]
      have := e t
      simp only [List.append_assoc, List.singleton_append] at this
      simp [this]
theorem init_ok (ws : List WD) (hw : ∀ w ∈ ws, w.1.length ≤ 16777216) (hl : ws.length < 1000) : ∃ fs', (allG fun t => f_p_Tray___init__ t [] [.lst (ws.map woodD)]) = if trayOk ws = true then .ok [("stock", .dic (kv ws))] .non else .ex "BadTray" fs' := by
  obtain ⟨s2', s3', wz, e⟩ := init_loop (.lst (ws.map woodD)) ws [] .no .no hw (by simpa using hl)
  by_cases h1 : 1 ≤ ws.length
  · have h1' : (1 : Int) ≤ ws.length := by omega
    by_cases h2 : ws.length ≤ 6
    · have h2' : ¬ (6 : Int) < ws.length := by omega
      cases h3 : trGo [] ws with
      | true =>
        refine ⟨[], allG_const fun t => ?_⟩
        have e' := e t
        rw [h3] at e'
        simp only [kv, List.map_nil, List.nil_append] at e'
        simp [f_p_Tray___init__, mkG_ev, runG_ev, b_p_Tray___init__, h1, h2, h1', h2', h3, trayOk, e', kv, show ws.length ≤ 16777216 by omega]
      | false =>
        refine ⟨[("stock", .dic (kv wz))], allG_const fun t => ?_⟩
        have e' := e t
        rw [h3] at e'
        simp only [kv, List.map_nil, List.nil_append] at e'
        simp [f_p_Tray___init__, mkG_ev, runG_ev, b_p_Tray___init__, h1, h2, h1', h2', h3, trayOk, e', kv, show ws.length ≤ 16777216 by omega]
    · have h2' : (6 : Int) < ws.length := by omega
      refine ⟨[], allG_const fun t => ?_⟩
      simp [f_p_Tray___init__, mkG_ev, runG_ev, b_p_Tray___init__, h1, h2, h1', h2', trayOk, show ws.length ≤ 16777216 by omega]
  · have h1' : ¬ (1 : Int) ≤ ws.length := by omega
    refine ⟨[], allG_const fun t => ?_⟩
    simp [f_p_Tray___init__, mkG_ev, runG_ev, b_p_Tray___init__, h1, h1', trayOk, show ws.length ≤ 16777216 by omega]
@[simp] theorem seal_tray (ws : List WD) : sealF [(Str.ofString "stock", .dic (kv ws))] = some [(Str.ofString "stock", .fdc (kv ws))] := by
  have : noLs ((kv ws).map (·.2)) = true := by
    unfold kv
    induction ws with
    | nil => rfl
    | cons w r ih => simpa using ih
  simp [sealF, sealV, this]
theorem make_tray (ws : List WD) (hw : ∀ w ∈ ws, w.1.length ≤ 16777216) (hl : ws.length < 1000) {r : SA} {ρ : Env} {k : Kd} (h : r ρ = .ok [(k, .lst (ws.map woodD))]) : mkzE "Tray" f_p_Tray___init__ r ρ = if trayOk ws = true then .ok (.own, trayD ws) else .ex "BadTray" := by
  obtain ⟨fs', e⟩ := init_ok ws hw hl
  rw [mkzE_ev, h]
  simp only [R.bind_ok, List.map_cons, List.map_nil, e]
  cases trayOk ws with
  | true => simp [trayD]
  | false => simp
theorem pair_of_wood_ok (w : WD) : f_l_pair_of_wood [woodD w] = .ok (.own, .bl true) := by
  simp [f_l_pair_of_wood, mkF_ev, b_l_pair_of_wood, woodD]
end Cz
set_option maxHeartbeats 4000000
namespace Cz
open PySem PySem.Spec PyProof.Rows L2
structure WOK (ws : List WD) : Prop where
  pos : 1 ≤ ws.length
  six : ws.length ≤ 6
  good : ∀ w ∈ ws, goodN w.1 = true
  rng : ∀ w ∈ ws, 0 ≤ w.2 ∧ w.2 ≤ 99
  nd : (ws.map (·.1)).Nodup
theorem WoodsOk.wok {ws : List WD} {st : Str} (h : WoodsOk ws st) : WOK ws := ⟨h.pos, h.six, h.good, fun w hw => by have := h.rng w hw; omega, h.nd⟩
theorem trGo_of : ∀ (ws seen : List WD), (∀ w ∈ ws, goodN w.1 = true ∧ 0 ≤ w.2 ∧ w.2 ≤ 99) → ((seen ++ ws).map (·.1)).Nodup → trGo seen ws = true
  | [], _, _, _ => rfl
  | w :: r, seen, h, n => by
    obtain ⟨h1, h2, h3⟩ := h w List.mem_cons_self
    have ih := trGo_of r (seen ++ [w]) (fun v hv => h v (List.mem_cons_of_mem _ hv)) (by simpa using n)
    have nm : w.1 ∉ seen.map (·.1) := fun z => by
      rw [List.map_append, List.nodup_append] at n
      exact n.2.2 _ z w.1 (by simp) rfl
    unfold trGo
    rw [ih, h1, decide_eq_false nm, decide_eq_true h2, decide_eq_true h3]
    rfl
theorem WOK.ok {ws : List WD} (h : WOK ws) : trayOk ws = true := by
  unfold trayOk
  rw [trGo_of ws [] (fun w hw => ⟨h.good w hw, h.rng w hw⟩) (by simpa using h.nd), decide_eq_true h.pos, decide_eq_true h.six]
  rfl
theorem WOK.len {ws : List WD} (h : WOK ws) : ∀ w ∈ ws, w.1.length ≤ 16777216 := fun w hw => by
  have := goodN_len (h.good w hw); omega
theorem eqv_woodD (x y : WD) : eqv2 (woodD x) (woodD y) = decide (x = y) := by
  simp [woodD, Prod.ext_iff]
theorem cmD_woodD {w : WD} (h : goodN w.1 = true) : cmD 63 (woodD w) = true := by
  simp [woodD, goodN_ok h]
theorem eqD_woods (A B : List WD) (hA : ∀ w ∈ A, goodN w.1 = true) (hB : ∀ w ∈ B, goodN w.1 = true) : eqD (.lst (A.map woodD)) (.lst (B.map woodD)) = some (decide (A = B)) := by
  have c : ∀ L : List WD, (∀ w ∈ L, goodN w.1 = true) → cmD 64 (.lst (L.map woodD)) = true := fun L h => by
    rw [cmD_lst, cmDs_map]; exact List.all_eq_true.mpr fun w hw => cmD_woodD (h w hw)
  rw [eqD_of (c A hA) (c B hB), eqv2_lst, eqvs_map woodD eqv_woodD]
end Cz
set_option maxHeartbeats 4000000
namespace Cz
open PySem PySem.Spec PyProof.Rows L2
theorem strOk_iff {z : Str} : PyData.strOk z = true ↔ ∀ c ∈ z.cps.toList, c < 1114112 := by
  show z.cps.all _ = true ↔ _
  rw [← Array.all_toList, List.all_eq_true]
  exact ⟨fun h c hc => of_decide_eq_true (h c hc), fun h c hc => decide_eq_true (h c hc)⟩
theorem cutS_len (z : Str) (lo hi : Option Int) : (cutS z lo hi).length ≤ z.length := by
  unfold cutS
  simp only [Str.length, List.size_toArray, List.length_take, List.length_drop, Array.length_toList]
  omega
theorem strMul_go (z : Str) : ∀ (k : Nat) (acc : Array Nat), (∀ c ∈ acc.toList, c < 1114112) → PyData.strOk z = true → ((∀ c ∈ ((List.replicate k z.cps).foldl (· ++ ·) acc).toList, c < 1114112) ∧ ((List.replicate k z.cps).foldl (· ++ ·) acc).size = acc.size + k * z.length)
  | 0, acc, h, _ => ⟨by simpa using h, by simp⟩
  | k + 1, acc, h, hz => by
    rw [List.replicate_succ, List.foldl_cons]
    have := strMul_go z k (acc ++ z.cps) (fun c hc => by
      rw [Array.toList_append, List.mem_append] at hc
      rcases hc with hc | hc
      · exact h c hc
      · exact strOk_iff.mp hz c hc) hz
    refine ⟨this.1, ?_⟩
    rw [this.2, Array.size_append, Nat.succ_mul]
    show acc.size + z.length + _ = _
    omega
theorem strMul_len {z : Str} (h : PyData.strOk z = true) (k : Nat) : (strMul z k).length = k * z.length := by
  have := (strMul_go z k #[] (fun c hc => nomatch hc) h).2
  exact this.trans (Nat.zero_add _)
theorem app_len (a b : Str) : (a ++ b).length = a.length + b.length := by
  show (a.cps ++ b.cps).size = _
  rw [Array.size_append]; rfl
theorem one_len (c : Nat) : (⟨#[c]⟩ : Str).length = 1 := rfl
theorem inD_strs {y : Str} {l : List Str} (hy : PyData.strOk y = true) (hl : ∀ x ∈ l, PyData.strOk x = true) : inD (.str y) (.lst (l.map .str)) = some (decide (y ∈ l)) := by
  rw [inD_lst (by simpa using hy) (by rw [cmDs_map]; exact List.all_eq_true.mpr fun w hw => by simpa using hl w hw), any_fn (f := D.str) (fun a b => by by_cases h : a = b <;> simp [h])]
@[simp] theorem slB_str {k : Kd} {z : Str} {lo hi : Option Int} : slB (k, .str z) lo hi = if z.length ≤ LIM then some (.own, .str (cutS z lo hi)) else none := id rfl
end Cz
set_option maxHeartbeats 1000000
namespace Cz
open PySem PySem.Spec PyProof.Rows L2
section
variable {α : Type}
def gN : List (Str × α) → Str → Option α
  | [], _ => none
  | p :: r, x => if p.1 = x then some p.2 else gN r x
def uN (l : List (Str × α)) (x : Str) (v : α) : List (Str × α) := if (l.any fun p => decide (p.1 = x)) = true then l.map (fun p => if p.1 = x then (x, v) else p) else l ++ [(x, v)]
def dN (l : List (Str × α)) (x : Str) : List (Str × α) := l.filter fun p => decide (p.1 ≠ x)
def nd (f : α → D) (l : List (Str × α)) : List (Key × D) := l.map fun p => (Sum.inr p.1, f p.2)
theorem nd_len (f : α → D) (l : List (Str × α)) : (nd f l).length = l.length := by simp [nd]
theorem valD_nd (f : α → D) (x : Str) : ∀ l : List (Str × α), valD (nd f l) (Sum.inr x) = (gN l x).map f
  | [] => rfl
  | p :: r => by
    show (if (Sum.inr p.1 : Key) = Sum.inr x then some (f p.2) else valD (nd f r) (Sum.inr x)) = (if p.1 = x then some p.2 else gN r x).map f
    rw [valD_nd f x r]
    by_cases h : p.1 = x
    · rw [if_pos (by rw [h]), if_pos h]; rfl
    · rw [if_neg (fun e => h (Sum.inr.inj e)), if_neg h]
theorem putD_nd (f : α → D) (x : Str) (v : α) (l : List (Str × α)) : putD (nd f l) (Sum.inr x) (f v) = nd f (uN l x v) := by
  have e : ((nd f l).any fun kv => decide (kv.1 = (Sum.inr x : Key))) = l.any fun p => decide (p.1 = x) := by
    rw [nd, List.any_map]
    congr 1; funext p
    simp
  unfold putD uN
  rw [e]
  split
  · simp only [nd, List.map_map]
    refine List.map_congr_left fun p _ => ?_
    simp only [Function.comp_apply]
    by_cases h : p.1 = x
    · simp [h]
    · simp [h]
  · simp [nd]
theorem dropD_nd (f : α → D) (x : Str) (l : List (Str × α)) : dropD (nd f l) (Sum.inr x) = nd f (dN l x) := by
  unfold dropD dN nd
  rw [List.filter_map]
  congr 1
  refine List.filter_congr fun p _ => ?_
  simp
theorem gN_none {x : Str} : ∀ {l : List (Str × α)}, gN l x = none ↔ x ∉ l.map (·.1)
  | [] => by simp [gN]
  | p :: r => by
    unfold gN
    by_cases h : p.1 = x
    · simp [h]
    · rw [if_neg h, gN_none (l := r)]
      simp [Ne.symm h, h]
theorem gN_mem {x : Str} {v : α} : ∀ {l : List (Str × α)}, gN l x = some v → (x, v) ∈ l
  | [], h => by cases h
  | p :: r, h => by
    unfold gN at h
    by_cases e : p.1 = x
    · rw [if_pos e] at h; cases h; subst e; exact List.mem_cons_self
    · rw [if_neg e] at h; exact List.mem_cons_of_mem _ (gN_mem h)
theorem gN_in {x : Str} {l : List (Str × α)} (h : x ∈ l.map (·.1)) : ∃ v, gN l x = some v := by
  cases e : gN l x with
  | none => exact absurd h (gN_none.mp e)
  | some v => exact ⟨v, rfl⟩
theorem gN_nd {x : Str} {v : α} : ∀ {l : List (Str × α)}, (l.map (·.1)).Nodup → (x, v) ∈ l → gN l x = some v
  | [], _, h => nomatch h
  | p :: r, n, h => by
    simp only [List.map_cons, List.nodup_cons] at n
    unfold gN
    rcases List.mem_cons.mp h with e | h
    · subst e; rw [if_pos rfl]
    · have : p.1 ≠ x := fun e => n.1 (e ▸ List.mem_map_of_mem (f := (·.1)) h)
      rw [if_neg this, gN_nd n.2 h]
theorem uN_keys_in {l : List (Str × α)} {x : Str} {v : α} (h : x ∈ l.map (·.1)) : (uN l x v).map (·.1) = l.map (·.1) := by
  obtain ⟨p, hp, e⟩ := List.mem_map.mp h
  unfold uN
  rw [if_pos (List.any_eq_true.mpr ⟨p, hp, by simp [e]⟩), List.map_map]
  refine List.map_congr_left fun p _ => ?_
  simp only [Function.comp_apply]
  split
  · rename_i h; exact h.symm
  · rfl
theorem uN_out {l : List (Str × α)} {x : Str} {v : α} (h : x ∉ l.map (·.1)) : uN l x v = l ++ [(x, v)] := by
  unfold uN
  rw [if_neg]
  intro e
  obtain ⟨p, hp, e⟩ := List.any_eq_true.mp e
  exact h (List.mem_map.mpr ⟨p, hp, by simpa using e⟩)
theorem gN_app {x : Str} : ∀ {a b : List (Str × α)}, gN (a ++ b) x = (gN a x).or (gN b x)
  | [], b => by simp [gN]
  | p :: r, b => by
    simp only [List.cons_append, gN]
    split
    · rfl
    · exact gN_app
theorem gN_map {x z : Str} {v : α} (h : x ≠ z) : ∀ (l : List (Str × α)), gN (l.map fun p => if p.1 = z then (z, v) else p) x = gN l x
  | [] => rfl
  | p :: r => by
    simp only [List.map_cons, gN]
    by_cases e : p.1 = z
    · simp only [e, if_true]
      rw [if_neg (fun q => h q.symm), if_neg (fun q => h q.symm), gN_map h r]
    · simp only [if_neg e]
      rw [gN_map h r]
theorem gN_mapS {z : Str} {v : α} : ∀ (l : List (Str × α)), z ∈ l.map (·.1) → gN (l.map fun p => if p.1 = z then (z, v) else p) z = some v
  | [], h => by simp at h
  | p :: r, h => by
    simp only [List.map_cons, gN]
    by_cases e : p.1 = z
    · simp only [e, if_true]
    · simp only [if_neg e]
      refine gN_mapS r ?_
      simp only [List.map_cons, List.mem_cons] at h
      exact h.resolve_left fun q => e q.symm
theorem gN_uN {l : List (Str × α)} {x z : Str} {v : α} : gN (uN l z v) x = if x = z then some v else gN l x := by
  by_cases e : z ∈ l.map (·.1)
  · obtain ⟨p, hp, e2⟩ := List.mem_map.mp e
    unfold uN
    rw [if_pos (List.any_eq_true.mpr ⟨p, hp, by simp [e2]⟩)]
    by_cases h : x = z
    · subst h; rw [if_pos rfl, gN_mapS l e]
    · rw [if_neg h, gN_map h]
  · rw [uN_out e, gN_app]
    by_cases h : x = z
    · subst h; rw [if_pos rfl, gN_none.mpr e]; simp [gN]
    · rw [if_neg h]
      have : gN [(z, v)] x = none := by simp [gN, Ne.symm h]
      rw [this]; simp
theorem gN_dN {l : List (Str × α)} {x z : Str} : gN (dN l z) x = if x = z then none else gN l x := by
  induction l with
  | nil => simp [dN, gN]
  | cons p r ih =>
    by_cases e : p.1 = z
    · have : dN (p :: r) z = dN r z := by simp [dN, e]
      rw [this, ih]
      by_cases h : x = z
      · rw [if_pos h, if_pos h]
      · rw [if_neg h, if_neg h]
        simp [gN, e, Ne.symm h]
    · have : dN (p :: r) z = p :: dN r z := by simp [dN, e]
      rw [this]
      simp only [gN]
      rw [ih]
      by_cases h : p.1 = x
      · rw [if_pos h, if_pos h, if_neg (fun q => e (h.trans q))]
      · rw [if_neg h, if_neg h]
theorem dN_keys {l : List (Str × α)} {z : Str} : (dN l z).map (·.1) = (l.map (·.1)).filter fun y => decide (y ≠ z) := by
  unfold dN
  rw [List.filter_map]
  rfl
theorem dN_nd {l : List (Str × α)} {z : Str} (h : (l.map (·.1)).Nodup) : ((dN l z).map (·.1)).Nodup := by rw [dN_keys]; exact h.filter _
theorem uN_mem {l : List (Str × α)} {x : Str} {v : α} {p : Str × α} (h : p ∈ uN l x v) : p = (x, v) ∨ p ∈ l := by
  unfold uN at h
  split at h
  · obtain ⟨q, hq, e⟩ := List.mem_map.mp h
    split at e
    · exact .inl e.symm
    · exact .inr (e ▸ hq)
  · rcases List.mem_append.mp h with h | h
    · exact .inr h
    · exact .inl (by simpa using h)
theorem dN_mem {l : List (Str × α)} {x : Str} {p : Str × α} (h : p ∈ dN l x) : p ∈ l ∧ p.1 ≠ x := by
  obtain ⟨a, b⟩ := List.mem_filter.mp h
  exact ⟨a, by simpa using b⟩
end
end Cz
set_option maxHeartbeats 1000000
namespace Cz
open PySem PySem.Spec PyProof.Rows L2
def wds (l : List Int) : Int := wayAb 0 l
theorem wayAb_ge (l : List Int) : ∀ ab, ab ≤ wayAb ab l := by
  induction l with
  | nil => intro ab; exact Int.le_refl _
  | cons x l ih => intro ab; exact Int.le_trans (Int.le_max_left _ _) (ih _)
theorem isWay_of {l : List Int} (h : wayGo 0 l = true) (h1 : 1 ≤ l.length) (h2 : l.length ≤ 9) : isWay l = true := by simp [isWay, h, h1, h2]
end Cz
set_option maxHeartbeats 1000000
namespace Cz
open PySem PySem.Spec PyProof.Rows L2
def lotP (l : List Int) (n : Nat) (x : Int) : List Int := ((List.range n).filter fun k => decide (l.getD k 0 = x)).map fun (k : Nat) => (k : Int)
def lotsW (l : List Int) : List (List Int) := (List.range (wds l).toNat).map fun (x : Nat) => lotP l l.length x
end Cz
set_option maxHeartbeats 1000000
namespace Cz
open PySem PySem.Spec PyProof.Rows L2
def Rf (u w : List Int) : Prop := ∀ i j : Nat, i < u.length → j < u.length → u.getD i 0 = u.getD j 0 → w.getD i 0 = w.getD j 0
theorem Rf.trans {u v w : List Int} (h : Rf u v) (h' : Rf v w) (e : u.length = v.length) : Rf u w := fun i j hi hj q => h' i j (by omega) (by omega) (h i j hi hj q)
theorem Rf.refl (u : List Int) : Rf u u := fun _ _ _ _ h => h
def relb (gone kept : Int) (row : List Int) : List Int := row.map fun m => if m = gone then kept else m
@[simp] theorem relb_len (g k : Int) (row : List Int) : (relb g k row).length = row.length := by simp [relb]
def jnLot (f : Int) (cs : List Int) (row : List Int) : List Int := cs.foldl (fun row c => relb (row.getD c.toNat 0) (row.getD f.toNat 0) row) row
def jnLots (ls : List (List Int)) (row : List Int) : List Int := ls.foldl (fun row r => jnLot (r.headD 0) (r.drop 1) row) row
def joinW (u v : List Int) : List Int := numW (jnLots (lotsW v) u)
end Cz
set_option maxHeartbeats 1000000
namespace Cz
open PySem PySem.Spec PyProof.Rows L2
def exW (r : List Int) : List (List Int) := (List.range (wds r + 1).toNat).map fun (i : Nat) => r ++ [(i : Int)]
def allN : Nat → List (List Int)
  | 0 => [[0]]
  | n + 1 => (allN n).flatMap exW
theorem mem_exW {r s : List Int} : s ∈ exW r ↔ ∃ x : Int, 0 ≤ x ∧ x ≤ wds r ∧ s = r ++ [x] := by
  simp only [exW, List.mem_map, List.mem_range]
  exact ⟨fun ⟨i, hi, e⟩ => ⟨i, by omega, by omega, e.symm⟩, fun ⟨x, h1, h2, e⟩ => ⟨x.toNat, by omega, by rw [e, Int.toNat_of_nonneg h1]⟩⟩
theorem allN_way : ∀ {n : Nat} {r : List Int}, r ∈ allN n ↔ wayGo 0 r = true ∧ r.length = n + 1
  | 0, r => by
    simp only [allN, List.mem_singleton]
    constructor
    · rintro rfl; exact ⟨rfl, rfl⟩
    · rintro ⟨h1, h2⟩
      match r, h2 with
      | [x], _ =>
        simp [wayGo] at h1
        rw [show x = 0 by omega]
  | n + 1, r => by
    simp only [allN, List.mem_flatMap, mem_exW]
    constructor
    · rintro ⟨q, hq, x, h1, h2, rfl⟩
      obtain ⟨h3, h4⟩ := allN_way.mp hq
      refine ⟨?_, by simp [h4]⟩
      rw [wayGo_app, h3]
      simp [wayGo]
      exact ⟨h1, h2⟩
    · rintro ⟨h1, h2⟩
      obtain ⟨q, x, rfl⟩ : ∃ q x, r = q ++ [x] := by
        rcases List.eq_nil_or_concat r with e | ⟨q, x, e⟩
        · subst e; simp at h2
        · exact ⟨q, x, by rw [e, List.concat_eq_append]⟩
      rw [wayGo_app] at h1
      simp [wayGo] at h1
      simp at h2
      exact ⟨q, allN_way.mpr ⟨h1.1, h2⟩, x, h1.2.1, h1.2.2, rfl⟩
end Cz
set_option maxHeartbeats 1000000
namespace Cz
open PySem PySem.Spec PyProof.Rows L2
theorem look_many_ok (n : Int) : f_p_look_many [.int n] = if 1 ≤ n ∧ n ≤ 9 then .ok (.own, .non) else .ex "BadMany" := by
  by_cases h1 : 1 ≤ n <;> by_cases h2 : n ≤ 9 <;> simp [f_p_look_many, mkF_ev, b_p_look_many, h1, h2]
end Cz
set_option maxHeartbeats 1000000
namespace Cz
open PySem PySem.Spec PyProof.Rows L2
inductive Say where
  | al (a b : Nat) | un (a b : Nat) | le (c : Nat) | mo (c : Nat)
deriving DecidableEq
def sayD : Say → D
  | .al a b => .tup [.str "alike", .int a, .int b]
  | .un a b => .tup [.str "unlike", .int a, .int b]
  | .le c => .tup [.str "least", .int c]
  | .mo c => .tup [.str "most", .int c]
def goodS (n : Nat) : Say → Prop
  | .al a b => a < n ∧ b < n ∧ a ≠ b
  | .un a b => a < n ∧ b < n ∧ a ≠ b
  | .le c => 1 ≤ c ∧ c ≤ n
  | .mo c => 1 ≤ c ∧ c ≤ n
@[simp] theorem noL_sayD (s : Say) : noL (sayD s) = true := by cases s <;> simp [sayD]
@[simp] theorem noLs_says : ∀ (S : List Say), noLs (S.map sayD) = true
  | [] => by simp
  | s :: S => by simp [noLs_says S]
def lkStep (row : List Int) : Say → List Int
  | .al a b => relb (max (row.getD a 0) (row.getD b 0)) (min (row.getD a 0) (row.getD b 0)) row
  | _ => row
def lkP (n : Nat) (S : List Say) : List Int := S.foldl lkStep ((List.range n).map fun k : Nat => (k : Int))
theorem lkStep_len (row : List Int) (s : Say) : (lkStep row s).length = row.length := by cases s <;> simp [lkStep]
theorem fold_len (S : List Say) : ∀ row : List Int, (S.foldl lkStep row).length = row.length := by
  induction S with
  | nil => intro row; rfl
  | cons s S ih => intro row; rw [List.foldl_cons, ih, lkStep_len]
@[simp] theorem lkP_len (n : Nat) (S : List Say) : (lkP n S).length = n := by simp [lkP, fold_len]
end Cz
set_option maxHeartbeats 1000000
namespace Cz
open PySem PySem.Spec PyProof.Rows L2
def apt (row : List Int) (S : List Say) (i j : Int) : Bool := S.any fun s => match s with
  | .un a b => (decide (row.getD a 0 = i) && decide (row.getD b 0 = j)) || (decide (row.getD b 0 = i) && decide (row.getD a 0 = j))
  | _ => false
def lesI (S : List Say) : List Int := S.filterMap fun s => match s with | .le c => some (c : Int) | _ => none
def mosI (S : List Say) : List Int := S.filterMap fun s => match s with | .mo c => some (c : Int) | _ => none
def fewI (S : List Say) : Int := (lesI S).foldl max 1
def mstI (n : Nat) (S : List Say) : Int := (mosI S).foldl min n
end Cz
set_option maxHeartbeats 1000000
namespace Cz
open PySem PySem.Spec PyProof.Rows L2
def natD (l : List Nat) : List D := l.map fun k : Nat => D.int (k : Int)
@[simp] theorem natD_len (l : List Nat) : (natD l).length = l.length := by simp [natD]
@[simp] theorem natD_nil : natD [] = [] := rfl
@[simp] theorem natD_cons (x : Nat) (l : List Nat) : natD (x :: l) = D.int x :: natD l := rfl
@[simp] theorem natD_noL (l : List Nat) : noLs (natD l) = true := noLs_fnI (fun n : Nat => (n : Int)) l
@[simp] theorem lk_natD (k : Kd) (l : List Nat) : lk k (natD l) = .own := lk_noL (natD_noL l)
@[simp] theorem natD_app (l m : List Nat) : natD (l ++ m) = natD l ++ natD m := by simp [natD]
def firI (n : Nat) (row : List Int) : List Nat := (List.range n).filter fun k => decide (row.getD k 0 = (k : Int))
def parN (row : List Int) (S : List Say) (x y : Nat) : Bool := apt row S x y
end Cz
set_option maxHeartbeats 1000000
namespace Cz
open PySem PySem.Spec PyProof.Rows L2
end Cz
set_option maxHeartbeats 1000000
namespace Cz
open PySem PySem.Spec PyProof.Rows L2
def fitS (w : List Int) : Say → Prop
  | .al a b => w.getD a 0 = w.getD b 0
  | .un a b => w.getD a 0 ≠ w.getD b 0
  | .le c => (c : Int) ≤ wds w
  | .mo c => wds w ≤ (c : Int)
end Cz
set_option maxHeartbeats 1000000
namespace Cz
open PySem PySem.Spec PyProof.Rows L2
inductive Pap (n : Nat) : Nat → List Say → D → Prop
  | ring {d : Nat} {S : List Say} (a b : Nat) : .un a b ∈ S → (lkP n S).getD a 0 = (lkP n S).getD b 0 → Pap n d S (.tup [.str "ring", .int a, .int b])
  | counts {d : Nat} {S : List Say} : fewI S > mstI n S → Pap n d S (.tup [.str "counts"])
  | few {d : Nat} {S : List Say} : ((firI n (lkP n S)).length : Int) < fewI S → Pap n d S (.tup [.str "few"])
  | many {d : Nat} {S : List Say} (C : List Nat) : C.Nodup → (∀ x ∈ C, x ∈ firI n (lkP n S)) → C.Pairwise (fun x y => parN (lkP n S) S y x = true) → (C.length : Int) > mstI n S → Pap n d S (.tup [.str "many", .tup (natD C)])
  | cases {d : Nat} {S : List Say} (a b : Nat) {p q : D} : a < n → b < n → a ≠ b → Pap n d (S ++ [.al a b]) p → Pap n d (S ++ [.un a b]) q → Pap n (d + 1) S (.tup [.str "cases", .int a, .int b, p, q])
theorem Pap.noL {n d : Nat} {S : List Say} {p : D} (h : Pap n d S p) : noL p = true := by
  induction h with
  | many C _ _ _ _ => simp
  | cases a b _ _ _ _ _ i1 i2 => simp [i1, i2]
  | _ => simp
end Cz
set_option maxHeartbeats 1000000
namespace Cz
open PySem PySem.Spec PyProof.Rows L2
theorem getD_mem {r : List Int} {i : Nat} (h : i < r.length) : r.getD i 0 ∈ r := by simp [List.getD, h]
theorem mem_getD {r : List Int} {x : Int} (h : x ∈ r) : ∃ i, i < r.length ∧ r.getD i 0 = x := by
  obtain ⟨i, hi, e⟩ := List.getElem_of_mem h
  exact ⟨i, hi, by simp [List.getD, hi, e]⟩
def wj (u v : List Int) : Int := wds (joinW u v)
section
variable {u v t : List Int}
end
def prs (k : Nat) : List (List Int) := (List.range k).map fun (j : Nat) => [(j : Int), (k : Int)]
def pairsL (n : Nat) : List (List Int) := (List.range n).flatMap prs
end Cz
set_option maxHeartbeats 2000000
namespace Cz
open PySem PySem.Spec PyProof.Rows L2
end Cz
set_option maxHeartbeats 2000000
namespace Cz
open PySem PySem.Spec PyProof.Rows L2
end Cz
set_option maxHeartbeats 2000000
namespace Cz
open PySem PySem.Spec PyProof.Rows L2
end Cz
set_option maxHeartbeats 4000000
namespace Cz
open PySem PySem.Spec PyProof.Rows L2
end Cz
set_option maxHeartbeats 4000000
namespace Cz
open PySem PySem.Spec PyProof.Rows L2
@[simp] theorem lk_says (k : Kd) (S : List Say) : lk k (S.map sayD) = .own := lk_noL (noLs_says S)
end Cz
set_option maxHeartbeats 4000000
namespace Cz
open PySem PySem.Spec PyProof.Rows L2
def osD : Option Say → D
  | none => .non
  | some s => sayD s
def syF (n : Nat) (G : List (Option Say)) : List (Str × D) := [("size", .int n), ("given", .lst (G.map osD))]
def syD (t n : Nat) (G : List (Option Say)) : D := .obj t "Sayings" (syF n G)
@[simp] theorem noL_osD (o : Option Say) : noL (osD o) = true := by cases o <;> simp [osD]
@[simp] theorem noLs_osD (G : List (Option Say)) : noLs (G.map osD) = true := noLs_map fun o _ => noL_osD o
@[simp] theorem isNon_osD (o : Option Say) : isNon (osD o) = o.isNone := by
  rcases o with _ | s
  · rfl
  · cases s <;> rfl
def pl (G : List (Option Say)) : List Say := G.filterMap id
theorem given_ne : ("given" : Str) ≠ "size" := by decide +kernel
theorem sinit_ok (n : Nat) (h : 1 ≤ n ∧ n ≤ 9) (t : Nat) : f_p_Sayings___init__ t [] [.int n] = .ok (syF n []) .non := by
  have e := look_many_ok n
  rw [if_pos ⟨by omega, by omega⟩] at e
  have p2 : putD [(("size" : Str), D.int n)] "given" (.lst []) = syF n [] := putD_new (by simp; exact fun e => given_ne e.symm)
  simp [f_p_Sayings___init__, mkG_ev, runG_ev, b_p_Sayings___init__, e]
  rw [p2]
theorem smake_ok {n : Nat} (h : 1 ≤ n ∧ n ≤ 9) {r : SA} {ρ : Env} {k : Kd} (hr : r ρ = .ok [(k, .int n)]) : mkE "Sayings" f_p_Sayings___init__ r ρ = .ok (.own, syD 0 n []) := by
  rw [mkE_ev, hr]
  simp only [R.bind_ok, List.map_cons, List.map_nil]
  rw [allG_const (r := .ok (syF n []) .non) fun t => sinit_ok n h t]
  rfl
end Cz
set_option maxHeartbeats 4000000
namespace Cz
open PySem PySem.Spec PyProof.Rows L2
def lnk (s : Say) (c : Nat) : Option (Nat × Nat) := match s with
  | .al a b => if c = a ∨ c = b then some (a + b - c, 0) else none
  | .un a b => if c = a ∨ c = b then some (a + b - c, 1) else none
  | _ => none
end Cz
set_option maxHeartbeats 4000000
namespace Cz
open PySem PySem.Spec PyProof.Rows L2
inductive Wk (S : List (Nat × Say)) (a : Nat) : List Int → Nat → Nat → Prop
  | nil : Wk S a [] a 0
  | snoc {nums : List Int} {c u k o e : Nat} {s : Say} : Wk S a nums c u → (k, s) ∈ S → lnk s c = some (o, e) → u + e < 2 → Wk S a (nums ++ [(k : Int)]) o (u + e)
theorem lnk_lt {n : Nat} {s : Say} {c o e : Nat} (hg : goodS n s) (hc : c < n) (h : lnk s c = some (o, e)) : o < n ∧ e < 2 := by
  cases s with
  | al x y =>
    simp only [lnk] at h
    split at h
    · simp at h; obtain ⟨h1, h2⟩ := h; have := hg.1; have := hg.2.1; omega
    · cases h
  | un x y =>
    simp only [lnk] at h
    split at h
    · simp at h; obtain ⟨h1, h2⟩ := h; have := hg.1; have := hg.2.1; omega
    · cases h
  | le m => cases h
  | mo m => cases h
theorem Wk.lt {n : Nat} {S : List (Nat × Say)} (hg : ∀ p ∈ S, goodS n p.2) {a : Nat} (ha : a < n) {nums : List Int} {c u : Nat} (h : Wk S a nums c u) : c < n := by
  induction h with
  | nil => exact ha
  | snoc _ hs hl _ ih => exact (lnk_lt (hg _ hs) ih hl).1
def Rd (S : List (Nat × Say)) (a d : Nat) (x : Nat × Nat) : Prop := ∃ nums, nums.length = d ∧ Wk S a nums x.1 x.2
end Cz
set_option maxHeartbeats 4000000
namespace Cz
open PySem PySem.Spec PyProof.Rows L2
def k3 (z : Nat × Nat × List Int) : Nat × Nat := (z.1, z.2.1)
def NB (s : Sl) : Prop := s = .no ∨ ∃ d, s = .bo [] d
theorem NB.no : NB .no := .inl rfl
theorem NB.bo (d : D) : NB (.bo [] d) := .inr ⟨d, rfl⟩
end Cz
set_option maxHeartbeats 4000000
namespace Cz
open PySem PySem.Spec PyProof.Rows L2
def Clash (S : List (Nat × Say)) (s : Say) : Prop := (∃ a b nums, s = .al a b ∧ Wk S a nums b 1) ∨ ∃ a b nums, s = .un a b ∧ Wk S a nums b 0
end Cz
set_option maxHeartbeats 4000000
namespace Cz
open PySem PySem.Spec PyProof.Rows L2
def Cons (n : Nat) (G : List (Option Say)) : Prop := ∃ w0, isWay w0 = true ∧ w0.length = n ∧ ∀ x ∈ pl G, fitS w0 x
end Cz
set_option maxHeartbeats 4000000
namespace Cz
open PySem PySem.Spec PyProof.Rows L2
end Cz
set_option maxHeartbeats 4000000
namespace Cz
open PySem PySem.Spec PyProof.Rows L2
theorem loop_count {i : Nat} {b : SS} (P : Nat → Env → Prop) (lo : Int) : ∀ (m k : Nat) (ρ : Env), (∀ j ρ, k ≤ j → j < k + m → P j ρ → ∃ ρ', P (j + 1) ρ' ∧ (b (ρ.set i (.bo [] (.int (lo + (j : Int))))) = .nx ρ' ∨ b (ρ.set i (.bo [] (.int (lo + (j : Int))))) = .ct ρ')) → P k ρ → ∃ ρ', P (k + m) ρ' ∧ loopS (tgN i) b (rng (lo + (k : Int)) m) ρ = .nx ρ'
  | 0, k, ρ, _, h => ⟨ρ, by simpa using h, by simp [rng]⟩
  | m + 1, k, ρ, hb, h => by
    obtain ⟨ρ1, h1, e1⟩ := hb k ρ (by omega) (by omega) h
    obtain ⟨ρ2, h2, e2⟩ := loop_count P lo m (k + 1) ρ1 (fun j ρ hj hj' => hb j ρ (by omega) (by omega)) h1
    refine ⟨ρ2, by rw [show k + (m + 1) = k + 1 + m by omega]; exact h2, ?_⟩
    have hr : rng (lo + (k : Int)) (m + 1) = .int (lo + (k : Int)) :: rng (lo + ((k + 1 : Nat) : Int)) m := by
      unfold rng
      rw [List.range_succ_eq_map, List.map_cons, List.map_map]
      simp only [Int.natCast_zero, Int.add_zero, List.cons.injEq, true_and]
      refine List.map_congr_left fun i _ => ?_
      simp only [Function.comp, D.int.injEq]; omega
    rw [hr, loopS_cons, tgN_ev]
    have mk : mkS (.bor []) (D.int (lo + (k : Int))) = .bo [] (.int (lo + (k : Int))) := by simp
    simp only [mk]
    rcases e1 with e1 | e1 <;> rw [e1] <;> simpa using e2
end Cz
set_option maxHeartbeats 4000000
namespace Cz
open PySem PySem.Spec PyProof.Rows L2
end Cz
set_option maxHeartbeats 1000000
namespace Cz
open PySem PySem.Spec PyProof.Rows L2
def Gn : Nat → Nat → Int
  | _, 0 => 1
  | a, m + 1 => a * Gn a m + Gn (a + 1) m
def un : Nat → Nat → Int → List Int
  | _, 0, _ => []
  | a, m + 1, l => min (l / Gn a m) a :: un (max a ((min (l / Gn a m) (a : Int)).toNat + 1)) m (l - min (l / Gn a m) a * Gn a m)
end Cz
set_option maxHeartbeats 2000000
namespace Cz
open PySem PySem.Spec PyProof.Rows L2
end Cz
set_option maxHeartbeats 2000000
namespace Cz
open PySem PySem.Spec PyProof.Rows L2
def vt (W : List (List Int)) (j k : Nat) : Int := (W.map fun w => if w.getD j 0 = w.getD k 0 then (1 : Int) else 0).sum
def gnI (W : List (List Int)) (r : List Int) (x : Int) (k : Nat) : Int := if r.getD k 0 = x then vt W r.length k else (W.length : Int) - vt W r.length k
def gn (W : List (List Int)) (r : List Int) (x : Int) : Int := ((List.range r.length).map (gnI W r x)).sum
def scP (W : List (List Int)) (r : List Int) (p : List Int) : Int := if r.getD (p.headD 0).toNat 0 = r.getD (p.getLastD 0).toNat 0 then vt W (p.headD 0).toNat (p.getLastD 0).toNat else (W.length : Int) - vt W (p.headD 0).toNat (p.getLastD 0).toNat
def sc (W : List (List Int)) (r : List Int) : Int := ((pairsL r.length).map (scP W r)).sum
def NO (s : Sl) : Prop := ∀ d, s ≠ .ow d
theorem NO.bo {is : List Nat} {d : D} : NO (.bo is d) := fun _ h => nomatch h
theorem NO.no : NO .no := fun _ h => nomatch h
theorem allN_ne : ∀ n, allN n ≠ []
  | 0 => by simp [allN]
  | n + 1 => fun h => by
    obtain ⟨r, t, e⟩ := List.exists_cons_of_ne_nil (allN_ne n)
    have h1 : r ∈ allN n := by rw [e]; simp
    obtain ⟨h2, h3⟩ := allN_way.mp h1
    have : r ++ [0] ∈ allN (n + 1) := by
      refine List.mem_flatMap.mpr ⟨r, h1, mem_exW.mpr ⟨0, by omega, ?_, rfl⟩⟩
      exact wayAb_ge r 0
    rw [h] at this; cases this
end Cz
set_option maxHeartbeats 4000000
namespace Cz
open PySem PySem.Spec PyProof.Rows L2
theorem cons_nil {n : Nat} (h1 : 1 ≤ n) (h9 : n ≤ 9) : Cons n [] := by
  obtain ⟨r, t, e⟩ := List.exists_cons_of_ne_nil (allN_ne (n - 1))
  have hr : r ∈ allN (n - 1) := by rw [e]; simp
  obtain ⟨a, b⟩ := allN_way.mp hr
  exact ⟨r, isWay_of a (by omega) (by omega), by omega, fun x hx => by simp [pl] at hx⟩
theorem Cons.sub {n : Nat} {G G' : List (Option Say)} (h : Cons n G) (hs : ∀ x ∈ pl G', x ∈ pl G) : Cons n G' := by
  obtain ⟨w0, v1, v2, v3⟩ := h
  exact ⟨w0, v1, v2, fun s hx => v3 s (hs s hx)⟩
structure SyOk (n m : Nat) (G : List (Option Say)) : Prop where
  len : G.length ≤ m
  good : ∀ s ∈ pl G, goodS n s
  cons : Cons n G
theorem SyOk.nil {n m : Nat} (h1 : 1 ≤ n) (h9 : n ≤ 9) : SyOk n m [] := ⟨by simp, fun s hs => by simp [pl] at hs, cons_nil h1 h9⟩
theorem SyOk.mono {n m m' : Nat} {G : List (Option Say)} (h : SyOk n m G) (hm : m ≤ m') : SyOk n m' G := ⟨by have := h.len; omega, h.good, h.cons⟩
end Cz
set_option maxHeartbeats 1000000
namespace Cz
open PySem PySem.Spec PyProof.Rows L2
structure Rm where
  ws : List WD
  ps : List Str
  sc : List (Str × Int)
  en : List (List Str × List WD)
  sz : Nat
  op : List Str
  hz : Nat
  hd : List (Str × List (Option Say))
  wr : List (Str × List Int)
abbrev wyD (w : List Int) : D := .tup (w.map .int)
def enD (p : List Str × List WD) : D := .tup [.tup (p.1.map .str), .tup (p.2.map woodD)]
def goD (p : List Str × List WD) : D := .tup [.lst (p.1.map .str), .lst (p.2.map woodD)]
def gvD (G : List (Option Say)) : D := .lst (G.map osD)
def roomF (R : Rm) : List (Str × D) := [("box", trayD R.ws), ("people", .lst (R.ps.map .str)), ("scores", .dic (nd .int R.sc)), ("ended", .lst (R.en.map enD)), ("filled", .int R.sz), ("lifted", .lst (R.op.map .str)), ("heard", .dic (nd (syD 0 R.hz) R.hd)), ("wrote", .dic (nd wyD R.wr))]
abbrev roomD (t : Nat) (R : Rm) : D := .obj t "Room" (roomF R)
def modF (R : Rm) : List (Key × D) := [(.inr "left", .lst (R.ws.map woodD)), (.inr "people", .lst (R.ps.map .str)), (.inr "points", .dic (nd .int R.sc)), (.inr "size", .int R.sz), (.inr "opened", .lst (R.op.map .str)), (.inr "given", .dic (nd gvD R.hd)), (.inr "wrote", .dic (nd wyD R.wr)), (.inr "gone", .lst (R.en.map goD))]
abbrev modD (R : Rm) : D := .dic (modF R)
section
variable {R : Rm} {t : Nat} {k : Kd}
@[simp] theorem rv_box : valD (roomF R) "box" = some (trayD R.ws) := by kernel_rfl
@[simp] theorem rv_people : valD (roomF R) "people" = some (.lst (R.ps.map .str)) := by kernel_rfl
@[simp] theorem rv_scores : valD (roomF R) "scores" = some (.dic (nd .int R.sc)) := by kernel_rfl
@[simp] theorem rv_ended : valD (roomF R) "ended" = some (.lst (R.en.map enD)) := by kernel_rfl
@[simp] theorem rv_filled : valD (roomF R) "filled" = some (.int R.sz) := by kernel_rfl
@[simp] theorem rv_lifted : valD (roomF R) "lifted" = some (.lst (R.op.map .str)) := by kernel_rfl
@[simp] theorem rv_heard : valD (roomF R) "heard" = some (.dic (nd (syD 0 R.hz) R.hd)) := by kernel_rfl
@[simp] theorem rv_wrote : valD (roomF R) "wrote" = some (.dic (nd wyD R.wr)) := by kernel_rfl
@[simp] theorem rp_box {ws : List WD} : putD (roomF R) "box" (trayD ws) = roomF { R with ws := ws } := by kernel_rfl
@[simp] theorem rp_people {l : List Str} : putD (roomF R) "people" (.lst (l.map .str)) = roomF { R with ps := l } := by kernel_rfl
@[simp] theorem rp_scores {l : List (Str × Int)} : putD (roomF R) "scores" (.dic (nd .int l)) = roomF { R with sc := l } := by kernel_rfl
@[simp] theorem rp_ended {l : List (List Str × List WD)} : putD (roomF R) "ended" (.lst (l.map enD)) = roomF { R with en := l } := by kernel_rfl
@[simp] theorem rp_filled {n : Nat} : putD (roomF R) "filled" (.int n) = roomF { R with sz := n } := by kernel_rfl
@[simp] theorem rp_lifted {l : List Str} : putD (roomF R) "lifted" (.lst (l.map .str)) = roomF { R with op := l } := by kernel_rfl
@[simp] theorem rp_heard {l : List (Str × List (Option Say))} {n : Nat} : putD (roomF R) "heard" (.dic (nd (syD 0 n) l)) = roomF { R with hz := n, hd := l } := by kernel_rfl
@[simp] theorem rp_wrote {l : List (Str × List Int)} : putD (roomF R) "wrote" (.dic (nd wyD l)) = roomF { R with wr := l } := by kernel_rfl
theorem room_nk (m : Str) (h : ([("box" : Str), "people", "scores", "ended", "filled", "lifted", "heard", "wrote"].all fun x => decide (x ≠ m)) = true) : noKey (roomF R) m = true := h
@[simp] theorem mv_left : valD (modF R) (.inr "left") = some (.lst (R.ws.map woodD)) := by kernel_rfl
@[simp] theorem mv_people : valD (modF R) (.inr "people") = some (.lst (R.ps.map .str)) := by kernel_rfl
@[simp] theorem mv_points : valD (modF R) (.inr "points") = some (.dic (nd .int R.sc)) := by kernel_rfl
@[simp] theorem mv_size : valD (modF R) (.inr "size") = some (.int R.sz) := by kernel_rfl
@[simp] theorem mv_opened : valD (modF R) (.inr "opened") = some (.lst (R.op.map .str)) := by kernel_rfl
@[simp] theorem mv_given : valD (modF R) (.inr "given") = some (.dic (nd gvD R.hd)) := by kernel_rfl
@[simp] theorem mv_wrote : valD (modF R) (.inr "wrote") = some (.dic (nd wyD R.wr)) := by kernel_rfl
@[simp] theorem mv_gone : valD (modF R) (.inr "gone") = some (.lst (R.en.map goD)) := by kernel_rfl
@[simp] theorem mp_left {l : List WD} : putD (modF R) (.inr "left") (.lst (l.map woodD)) = modF { R with ws := l } := by kernel_rfl
@[simp] theorem mp_people {l : List Str} : putD (modF R) (.inr "people") (.lst (l.map .str)) = modF { R with ps := l } := by kernel_rfl
@[simp] theorem mp_points {l : List (Str × Int)} : putD (modF R) (.inr "points") (.dic (nd .int l)) = modF { R with sc := l } := by kernel_rfl
@[simp] theorem mp_size {n : Nat} : putD (modF R) (.inr "size") (.int n) = modF { R with sz := n } := by kernel_rfl
@[simp] theorem mp_opened {l : List Str} : putD (modF R) (.inr "opened") (.lst (l.map .str)) = modF { R with op := l } := by kernel_rfl
@[simp] theorem mp_given {l : List (Str × List (Option Say))} : putD (modF R) (.inr "given") (.dic (nd gvD l)) = modF { R with hd := l } := by kernel_rfl
@[simp] theorem mp_wrote {l : List (Str × List Int)} : putD (modF R) (.inr "wrote") (.dic (nd wyD l)) = modF { R with wr := l } := by kernel_rfl
@[simp] theorem mp_gone {l : List (List Str × List WD)} : putD (modF R) (.inr "gone") (.lst (l.map goD)) = modF { R with en := l } := by kernel_rfl
@[simp] theorem rp_people1 {l : List Str} {x : Str} : putD (roomF R) "people" (.lst (l.map .str ++ [.str x])) = roomF { R with ps := l ++ [x] } := by
  have := rp_people (R := R) (l := l ++ [x]); rw [List.map_append] at this; exact this
@[simp] theorem rp_lifted1 {l : List Str} {x : Str} : putD (roomF R) "lifted" (.lst (l.map .str ++ [.str x])) = roomF { R with op := l ++ [x] } := by
  have := rp_lifted (R := R) (l := l ++ [x]); rw [List.map_append] at this; exact this
@[simp] theorem mp_people1 {l : List Str} {x : Str} : putD (modF R) (.inr "people") (.lst (l.map .str ++ [.str x])) = modF { R with ps := l ++ [x] } := by
  have := mp_people (R := R) (l := l ++ [x]); rw [List.map_append] at this; exact this
@[simp] theorem mp_opened1 {l : List Str} {x : Str} : putD (modF R) (.inr "opened") (.lst (l.map .str ++ [.str x])) = modF { R with op := l ++ [x] } := by
  have := mp_opened (R := R) (l := l ++ [x]); rw [List.map_append] at this; exact this
@[simp] theorem rp_filled0 : putD (roomF R) "filled" (.int 0) = roomF { R with sz := 0 } := by kernel_rfl
@[simp] theorem rp_lifted0 : putD (roomF R) "lifted" (.lst []) = roomF { R with op := [] } := by kernel_rfl
@[simp] theorem rp_heard0 : putD (roomF R) "heard" (.dic []) = roomF { R with hd := [] } := by kernel_rfl
@[simp] theorem rp_wrote0 : putD (roomF R) "wrote" (.dic []) = roomF { R with wr := [] } := by kernel_rfl
@[simp] theorem mp_size0 : putD (modF R) (.inr "size") (.int 0) = modF { R with sz := 0 } := by kernel_rfl
@[simp] theorem mp_opened0 : putD (modF R) (.inr "opened") (.lst []) = modF { R with op := [] } := by kernel_rfl
@[simp] theorem mp_given0 : putD (modF R) (.inr "given") (.dic []) = modF { R with hd := [] } := by kernel_rfl
@[simp] theorem mp_wrote0 : putD (modF R) (.inr "wrote") (.dic []) = modF { R with wr := [] } := by kernel_rfl
@[simp] theorem roomF_len : (roomF R).length = 8 := rfl
@[simp] theorem modF_len : (modF R).length = 8 := rfl
end
end Cz
set_option maxHeartbeats 1000000
namespace Cz
open PySem PySem.Spec PyProof.Rows L2
section
variable {R : Rm} {t : Nat} {x : Str}
@[simp] theorem inD_nd {α : Type} (f : α → D) (l : List (Str × α)) : inD (.str x) (.dic (nd f l)) = some (gN l x).isSome := by
  simp [valD_nd]
@[simp] theorem idx_nd {α : Type} (f : α → D) (l : List (Str × α)) : valD (nd f l) (.inr x) = (gN l x).map f := valD_nd f x l
theorem look_listener_ok : f_p_Room_look_listener [roomD t R, .str x] = if (gN R.sc x).isSome = true then .ok (.own, .non) else .ex "NoListener" := by
  cases h : (gN R.sc x).isSome <;> simp [f_p_Room_look_listener, mkF_ev, b_p_Room_look_listener, h]
def closW (R : Rm) (x : Str) : String := if (gN R.sc x).isSome = false then "NoListener" else if R.sz = 0 then "NoRound" else if R.op = [] then "" else "Opened"
theorem strs_names {l : List Str} (h : ∀ y ∈ l, goodN y = true) : ∀ y ∈ l, PyData.strOk y = true := fun y hy => goodN_ok (h y hy)
end
end Cz
set_option maxHeartbeats 1000000
namespace Cz
open PySem PySem.Spec PyProof.Rows L2
section
variable {R : Rm} {t : Nat} {x : Str}
theorem pos_of {n : Nat} (h : ¬ n = 0) : 0 < n := Nat.pos_of_ne_zero h
def comeR (R : Rm) (x : Str) : Rm := { R with ps := R.ps ++ [x], sc := uN R.sc x 0, hz := if R.sz = 0 then R.hz else R.sz, hd := if R.sz = 0 then R.hd else uN R.hd x [] }
def comeW (R : Rm) (x : Str) : String := if goodN x = false then "BadName" else if (gN R.sc x).isSome = true then "Taken" else if 9 ≤ R.ps.length then "Full" else ""
theorem come_ok (R : Rm) (t : Nat) (hx : x.length ≤ 16777216) (hz : R.sz ≠ 0 → R.sz ≤ 9 ∧ R.hz = R.sz) (hl : R.sc.length < 16777216) (hl2 : R.hd.length < 16777216) : f_p_Room_come t (roomF R) [.str x] = if comeW R x = "" then .ok (roomF (comeR R x)) .non else .ex (comeW R x) (roomF R) := by
  have e1 := good_name_ok x hx
  unfold comeW comeR
  cases h : goodN x
  · rw [h] at e1
    simp [f_p_Room_come, mkG_ev, runG_ev, b_p_Room_come, e1]
  · rw [h] at e1
    cases h2 : (gN R.sc x).isSome
    · by_cases h3 : 9 ≤ R.ps.length
      · have : (9 : Int) ≤ R.ps.length := by omega
        simp [f_p_Room_come, mkG_ev, runG_ev, b_p_Room_come, e1, h2, h3, this]
      · have : ¬ (9 : Int) ≤ R.ps.length := by omega
        have ll : R.ps.length < 16777216 := by omega
        by_cases h4 : R.sz = 0
        · simp [f_p_Room_come, mkG_ev, runG_ev, b_p_Room_come, e1, h2, h3, h4, this, putAt_ev, nd_len, hl, ll, putD_nd]
        · obtain ⟨z1, z2⟩ := hz h4
          have mk := fun ρ (h : (consA (fldE ["Room"] "filled" (locE 0)) nilA) ρ = .ok [(Kd.bor [0], .int R.sz)]) => smake_ok (n := R.sz) ⟨by omega, z1⟩ (r := consA (fldE ["Room"] "filled" (locE 0)) nilA) (ρ := ρ) (k := .bor [0]) h
          simp [f_p_Room_come, mkG_ev, runG_ev, b_p_Room_come, e1, h2, h3, h4, this, putAt_ev, nd_len, hl, hl2, putD_nd, ll, mk, z2, pos_of h4]
    · simp [f_p_Room_come, mkG_ev, runG_ev, b_p_Room_come, e1, h2]
end
end Cz
set_option maxHeartbeats 4000000
namespace Cz
open PySem PySem.Spec PyProof.Rows L2
def WhyR (n : Nat) (T : List Say) (a b : Nat) (r : D) : Prop :=
  (a = b ∧ r = .tup [.str "alike", .non]) ∨
  (a ≠ b ∧ ∃ p, r = .tup [.str "alike", p] ∧ Pap n 37 (T ++ [.un a b]) p) ∨
  (a ≠ b ∧ ∃ p, r = .tup [.str "unlike", p] ∧ Pap n 37 (T ++ [.al a b]) p) ∨
  (a ≠ b ∧ ∃ w1 w2 : List Int, r = .tup [.str "either", .tup (w1.map .int), .tup (w2.map .int)] ∧ (isWay w1 = true ∧ w1.length = n ∧ ∀ s ∈ T ++ [.al a b], fitS w1 s) ∧ (isWay w2 = true ∧ w2.length = n ∧ ∀ s ∈ T ++ [.un a b], fitS w2 s))
theorem WhyR.noL {n : Nat} {T : List Say} {a b : Nat} {r : D} (h : WhyR n T a b r) : noL r = true := by
  rcases h with ⟨_, rfl⟩ | ⟨_, p, rfl, P⟩ | ⟨_, p, rfl, P⟩ | ⟨_, w1, w2, rfl, _, _⟩
  · simp
  · simp [P.noL]
  · simp [P.noL]
  · simp
end Cz
set_option maxHeartbeats 4000000
namespace Cz
open PySem PySem.Spec PyProof.Rows L2
end Cz
set_option maxHeartbeats 4000000
namespace Cz
open PySem PySem.Spec PyProof.Rows L2
end Cz
set_option maxHeartbeats 4000000
namespace Cz
open PySem PySem.Spec PyProof.Rows L2
section
variable {n : Nat} (h1 : 1 ≤ n) (h9 : n ≤ 9) {G : List (Option Say)} (hg : ∀ s ∈ pl G, goodS n s) (hG : G.length ≤ 900) (t : Nat)
include h1 h9 hg hG
end
end Cz
set_option maxHeartbeats 4000000
namespace Cz
open PySem PySem.Spec PyProof.Rows L2
end Cz
set_option maxHeartbeats 1000000
namespace Cz
open PySem PySem.Spec PyProof.Rows L2
section
variable {R : Rm} {t : Nat} {x : Str}
end
end Cz
set_option maxHeartbeats 2000000
namespace Cz
open PySem PySem.Spec PyProof.Rows L2
def fal (m : Nat) : Nat → Nat
  | 0 => 1
  | n + 1 => fal m n * (m - n)
theorem l_total_ok (ws : List WD) (hl : ws.length ≤ 1000) : f_l_total [.lst (ws.map woodD)] = .ok (.own, .int (ws.map (·.2)).sum) := by
  have f2 := lcE_noL (it := seqI (locE 0)) (own := [1, 2]) (tg := tgT (tgCons (tgN 1) (tgCons (tgN 2) tgNil))) (elt := e_l_total_1) (k := .bor []) (l := ws) (f := woodD) (h := fun w => .int w.2)
    (ρ := [.bo [] (.lst (ws.map woodD)), .no, .no]) (by simp) (by simp) (by omega) (fun w hw => ⟨[.bo [] (.lst (ws.map woodD)), .bo [] (.str w.1), .bo [] (.int w.2)], .bor [], by simp [woodD], by simp [e_l_total_1_ev], rfl⟩)
  have b2 : intsD (ws.map fun w => D.int w.2) = some (ws.map (·.2)) := by
    have : (ws.map fun w => D.int w.2) = (ws.map (·.2)).map D.int := by simp
    rw [this, intsD_mapI]
  generalize ws.map woodD = L at *
  simp [f_l_total, mkF_ev, b_l_total, f2, b2]
def totN (ws : List WD) : Nat := (ws.map fun w : WD => w.2).sum.toNat
theorem totN_eq {ws : List WD} (h : ∀ w ∈ ws, 0 ≤ w.2) : (ws.map (·.2)).sum = (totN ws : Int) := by
  have : 0 ≤ (ws.map (·.2)).sum := by
    induction ws with
    | nil => simp
    | cons w r ih =>
      have := h w List.mem_cons_self
      have := ih fun v hv => h v (List.mem_cons_of_mem _ hv)
      simp; omega
  unfold totN; omega
end Cz
set_option maxHeartbeats 1000000
namespace Cz
open PySem PySem.Spec PyProof.Rows L2
section
variable {R : Rm} {t : Nat} {x : Str}
@[simp] theorem wip1_ow (d : D) : wip1 (.ow d) = .ow d := rfl
@[simp] theorem wip1_int (is : List Nat) (z : Int) : wip1 (.bo is (.int z)) = .bo is (.int z) := by simp [wip1]
end
end Cz
set_option maxHeartbeats 1000000
namespace Cz
open PySem PySem.Spec PyProof.Rows L2
section
variable {R : Rm} {T : Nat → Nat} {x : Str}
theorem lname_ok (y : Str) (hy : y.length ≤ 16777216) : f_l_name_ok [.str y] = .ok (.own, .bl (goodN y)) := good_name_ok y hy
theorem inPs (hx : PyData.strOk x = true) (hp : ∀ y ∈ R.ps, PyData.strOk y = true) (he : R.ps = R.sc.map (·.1)) : inD (.str x) (.lst (R.ps.map .str)) = some (gN R.sc x).isSome := by
  rw [inD_strs hx hp]
  cases h : (gN R.sc x).isSome
  · have : x ∉ R.ps := by rw [he]; exact gN_none.mp (by simpa using h)
    simp [this]
  · have : x ∈ R.ps := by
      rw [he]
      obtain ⟨v, hv⟩ := Option.isSome_iff_exists.mp h
      exact List.mem_map_of_mem (f := (·.1)) (gN_mem hv)
    simp [this]
theorem lcome_ok (R : Rm) (T : Nat → Nat) (hx : x.length ≤ 16777216) (hz : R.sz ≠ 0 → R.hz = R.sz) (hp : ∀ y ∈ R.ps, PyData.strOk y = true) (he : R.ps = R.sc.map (·.1)) (hl2 : R.hd.length < 16777216) (hl3 : R.ps.length < 10000) :
    f_l_come T [modD R, .str x] = .ok [if comeW R x = "" then modD (comeR R x) else modD R] (.tup [.str (comeW R x), .non]) := by
  have e1 := lname_ok x hx
  unfold comeW comeR
  cases h : goodN x
  · rw [h] at e1
    simp [f_l_come, mkH_ev, runH_ev, b_l_come, e1]
  · rw [h] at e1
    have ip := inPs (goodN_ok h) hp he
    cases h2 : (gN R.sc x).isSome
    · rw [h2] at ip
      by_cases h3 : 9 ≤ R.ps.length
      · have : (8 : Int) < R.ps.length := by omega
        simp [f_l_come, mkH_ev, runH_ev, b_l_come, e1, ip, h3, this]
      · have : ¬ (8 : Int) < R.ps.length := by omega
        have ll : R.ps.length < 16777216 := by omega
        have ls : R.sc.length < 16777216 := by have := congrArg List.length he; simp at this; omega
        have pg : putD (nd gvD R.hd) (.inr x) (.lst []) = nd gvD (uN R.hd x []) := putD_nd gvD x [] R.hd
        by_cases h4 : R.sz = 0
        · simp [f_l_come, mkH_ev, runH_ev, b_l_come, e1, ip, h3, h4, this, putAt_ev, nd_len, ls, ll, putD_nd]
        · have z2 := hz h4
          simp [f_l_come, mkH_ev, runH_ev, b_l_come, e1, ip, h3, h4, this, putAt_ev, nd_len, ls, hl2, putD_nd, ll, z2, pos_of h4, pg]
    · rw [h2] at ip
      simp [f_l_come, mkH_ev, runH_ev, b_l_come, e1, ip]
end
end Cz
set_option maxHeartbeats 4000000
namespace Cz
open PySem PySem.Spec PyProof.Rows L2
end Cz
set_option maxHeartbeats 1000000
namespace Cz
open PySem PySem.Spec PyProof.Rows L2
end Cz
set_option maxHeartbeats 1000000
namespace Cz
open PySem PySem.Spec PyProof.Rows L2
def MostAll (n : Nat) (S : List Say) : Prop := n ≤ 5 ∨ ∀ c, Say.mo c ∈ S → c = n
end Cz
set_option maxHeartbeats 1000000
namespace Cz
open PySem PySem.Spec PyProof.Rows L2
structure RmOk (R : Rm) : Prop where
  wok : WOK R.ws
  pk : R.ps = R.sc.map (·.1)
  good : ∀ y ∈ R.ps, goodN y = true
  nd : R.ps.Nodup
  nine : R.ps.length ≤ 9
  sz9 : R.sz ≤ 9
  hz : R.sz ≠ 0 → R.hz = R.sz
  hd0 : R.sz = 0 → R.hd = []
  wr0 : R.sz = 0 → R.wr = []
  op0 : R.sz = 0 → R.op = []
  hdk : R.sz ≠ 0 → R.hd.map (·.1) = R.ps
  wrk : ∀ p ∈ R.wr, p.1 ∈ R.ps
  wrn : (R.wr.map (·.1)).Nodup
  wrw : ∀ p ∈ R.wr, isWay p.2 = true ∧ p.2.length = R.sz
def Said (R : Rm) (m : Nat) : Prop := ∀ x G, gN R.hd x = some G → SyOk R.sz m G ∧ MostAll R.sz (pl G)
section
variable {R R' : Rm} {T : Nat → Nat} {x : Str} {d v : D}
theorem res_non (w : Str) (hw : PyData.strOk w = true) : f_l_result_ok [.tup [.str w, .non], .tup [.str w, .non]] = .ok (.own, .bl true) := by
  have e := eqD_str hw hw
  simp [f_l_result_ok, mkF_ev, b_l_result_ok, e]
end
end Cz
set_option maxHeartbeats 1000000
namespace Cz
open PySem PySem.Spec PyProof.Rows L2
section
variable {R : Rm} {m n : Nat} {x : Str}
theorem RmOk.strs (h : RmOk R) : ∀ y ∈ R.ps, PyData.strOk y = true := strs_names h.good
theorem RmOk.hdl (h : RmOk R) : R.hd.length ≤ 9 := by
  by_cases z : R.sz = 0
  · rw [h.hd0 z]; simp
  · have := congrArg List.length (h.hdk z)
    simp at this
    have := h.nine
    omega
theorem Said.mono {m' : Nat} (h : Said R m) (hm : m ≤ m') : Said R m' := fun x G e => ⟨(h x G e).1.mono hm, (h x G e).2⟩
theorem RmOk.open (h : RmOk R) (hc : closW R x = "") : x ∈ R.ps ∧ R.sz ≠ 0 ∧ R.op = [] ∧ ∃ G, gN R.hd x = some G := by
  unfold closW at hc
  split at hc
  · exact absurd hc (by decide)
  rename_i h1
  split at hc
  · exact absurd hc (by decide)
  rename_i h2
  split at hc
  · rename_i h3
    have hx : x ∈ R.ps := by
      rw [h.pk]
      have h1 : (gN R.sc x).isSome = true := by cases q : (gN R.sc x).isSome with | true => rfl | false => exact absurd q h1
      obtain ⟨v, hv⟩ := Option.isSome_iff_exists.mp h1
      exact List.mem_map_of_mem (f := (·.1)) (gN_mem hv)
    exact ⟨hx, h2, h3, gN_in (by rw [h.hdk h2]; exact hx)⟩
  · exact absurd hc (by decide)
theorem RmOk.upd (h : RmOk R) (hx : x ∈ R.ps) (hz : R.sz ≠ 0) (G : List (Option Say)) {wr : List (Str × List Int)} (hw : wr = R.wr ∨ wr = dN R.wr x) : RmOk { R with hd := uN R.hd x G, wr := wr } := by
  refine ⟨h.wok, h.pk, h.good, h.nd, h.nine, h.sz9, h.hz, fun z => absurd z hz, fun z => absurd z hz, h.op0, fun _ => ?_, fun p hp => ?_, ?_, fun p hp => ?_⟩
  · show (uN R.hd x G).map (·.1) = R.ps
    rw [uN_keys_in (by rw [h.hdk hz]; exact hx), h.hdk hz]
  · rcases hw with rfl | rfl
    · exact h.wrk p hp
    · exact h.wrk p (dN_mem hp).1
  · rcases hw with rfl | rfl
    · exact h.wrn
    · exact dN_nd h.wrn
  · rcases hw with rfl | rfl
    · exact h.wrw p hp
    · exact h.wrw p (dN_mem hp).1
theorem Said.upd (h : Said R m) {G : List (Option Say)} {wr : List (Str × List Int)} (hG : SyOk R.sz (m + 1) G ∧ MostAll R.sz (pl G)) : Said { R with hd := uN R.hd x G, wr := wr } (m + 1) := fun y G' e => by
  have e : gN (uN R.hd x G) y = some G' := e
  rw [gN_uN] at e
  split at e
  · cases e; exact hG
  · exact ⟨(h y G' e).1.mono (by omega), (h y G' e).2⟩
theorem nk_of {d : D} (h : noL d = true) : ∀ k, nk k d = .own := fun k => nk_noL h
end
end Cz
set_option maxHeartbeats 4000000
namespace Cz
open PySem PySem.Spec PyProof.Rows L2
end Cz
set_option maxHeartbeats 4000000
namespace Cz
open PySem PySem.Spec PyProof.Rows L2
def seenS (s : List Str) (n : Str) : List Str := if n ∈ s then s else s ++ [n]
def finT (s l : List Str) : List Str := l.foldl seenS s
end Cz
set_option maxHeartbeats 4000000
namespace Cz
open PySem PySem.Spec PyProof.Rows L2
def fill : List Nat → List Nat → Nat
  | [], _ => 1
  | s :: sz, st => ((List.range st.length).map fun k => fal (st.getD k 0) s * fill sz (st.eraseIdx k)).sum
theorem fal_pow (m : Nat) (hm : m ≤ 128) : ∀ n, fal m n ≤ 2 ^ (7 * n)
  | 0 => by show 1 ≤ 2 ^ 0; decide
  | n + 1 => by
    have := Nat.mul_le_mul (fal_pow m hm n) (show m - n ≤ 2 ^ 7 by omega)
    rw [← Nat.pow_add] at this
    show fal m n * (m - n) ≤ _
    rw [show 7 * (n + 1) = 7 * n + 7 by omega]; exact this
theorem sum_le {α : Type} (f : α → Nat) (B : Nat) : ∀ l : List α, (∀ a ∈ l, f a ≤ B) → (l.map f).sum ≤ l.length * B
  | [], _ => by simp
  | a :: l, h => by
    have := sum_le f B l fun b hb => h b (List.mem_cons_of_mem _ hb)
    have := h a List.mem_cons_self
    simp [Nat.succ_mul]; omega
theorem fill_le : ∀ (sz st : List Nat), (∀ x ∈ st, x ≤ 128) → st.length ≤ 8 → fill sz st ≤ 2 ^ (7 * sz.sum + 3 * sz.length)
  | [], st, _, _ => by show 1 ≤ _; simp
  | s :: sz, st, h, hl => by
    unfold fill
    have := sum_le (fun k => fal (st.getD k 0) s * fill sz (st.eraseIdx k)) (2 ^ (7 * s) * 2 ^ (7 * sz.sum + 3 * sz.length)) (List.range st.length) (fun k hk => by
      have hk := List.mem_range.mp hk
      refine Nat.mul_le_mul (fal_pow _ (h _ (by simp [List.getD, hk])) s) (fill_le sz _ (fun x hx => h x (List.mem_of_mem_eraseIdx hx)) (by rw [List.length_eraseIdx_of_lt hk]; omega)))
    refine Nat.le_trans this ?_
    rw [List.length_range, ← Nat.pow_add]
    refine Nat.le_trans (Nat.mul_le_mul_right _ (show st.length ≤ 2 ^ 3 by omega)) ?_
    rw [← Nat.pow_add]
    refine Nat.pow_le_pow_right (by decide) ?_
    simp; omega
structure FB (sz st : List Nat) : Prop where
  a : ∀ x ∈ st, x ≤ 128
  b : st.length ≤ 8
  c : sz.sum ≤ 50
  d : sz.length ≤ 20
theorem FB.lt {sz st : List Nat} (h : FB sz st) : fill sz st < 2 ^ 500 :=
  Nat.lt_of_le_of_lt (fill_le sz st h.a h.b) (Nat.pow_lt_pow_right (by decide) (by have := h.c; have := h.d; omega))
end Cz
set_option maxHeartbeats 4000000
namespace Cz
open PySem PySem.Spec PyProof.Rows L2
def richer (ws : List WD) : List WD := ws.map fun v => (v.1, min 99 (v.2 + 2))
theorem WOK.richer {ws : List WD} (h : WOK ws) : WOK (richer ws) := by
  refine ⟨by simp [Cz.richer, h.pos], by simp [Cz.richer, h.six], fun w hw => ?_, fun w hw => ?_, ?_⟩
  · obtain ⟨v, hv, rfl⟩ := List.mem_map.mp hw; exact h.good v hv
  · obtain ⟨v, hv, rfl⟩ := List.mem_map.mp hw
    have r := h.rng v hv
    show 0 ≤ min 99 (v.2 + 2) ∧ min 99 (v.2 + 2) ≤ 99
    omega
  · have : (Cz.richer ws).map (·.1) = ws.map (·.1) := by simp [Cz.richer, Function.comp_def]
    rw [this]; exact h.nd
theorem tot_richer {ws : List WD} (h : WOK ws) (hs : totN ws < 90) : totN ws + 2 ≤ totN (richer ws) := by
  have key : ∀ l : List WD, (∀ v ∈ l, 0 ≤ v.2) → (l.map fun v : WD => v.2).sum < 90 → ((richer l).map fun v : WD => v.2).sum = (l.map fun v : WD => v.2).sum + 2 * (l.length : Int) ∧ 0 ≤ (l.map fun v : WD => v.2).sum := by
    intro l
    induction l with
    | nil => intro _ _; simp [richer]
    | cons v l ih =>
      intro p q
      have p0 := p v List.mem_cons_self
      have pl : ∀ l : List WD, (∀ u ∈ l, 0 ≤ u.2) → 0 ≤ (l.map fun u : WD => u.2).sum := fun l => by
        induction l with
        | nil => intro _; simp
        | cons a l ih => intro q; have := ih fun b hb => q b (List.mem_cons_of_mem _ hb); have := q a List.mem_cons_self; simp; omega
      have := pl l fun b hb => p b (List.mem_cons_of_mem _ hb)
      simp only [List.map_cons, List.sum_cons] at q
      obtain ⟨i1, i2⟩ := ih (fun b hb => p b (List.mem_cons_of_mem _ hb)) (by omega)
      show (((v.1, min 99 (v.2 + 2)) :: richer l).map fun v : WD => v.2).sum = _ ∧ _
      simp only [List.map_cons, List.sum_cons, List.length_cons]
      omega
  have hp := h.pos
  have := key ws (fun v hv => (h.rng v hv).1) (by unfold totN at hs; omega)
  unfold totN; omega
theorem richer_list {ws : List WD} (hl : ws.length ≤ 6) (s2 : Sl) (h2 : s2 = .bo [] (.lst (ws.map woodD)) ∨ s2 = .ow (.lst (ws.map woodD))) (s0 s1 s3 s4 : Sl) : lcE (seqI (locE 2)) [5, 6] (tgT (tgCons (tgN 5) (tgCons (tgN 6) tgNil))) yesT e_l_rich_woods_2 [s0, s1, s2, s3, s4, .no, .no] = .ok (.own, .lst ((richer ws).map woodD)) := by
  have go : ∀ k : Kd, seqI (locE 2) [s0, s1, s2, s3, s4, .no, .no] = .ok (k, ws.map woodD) → lcE (seqI (locE 2)) [5, 6] (tgT (tgCons (tgN 5) (tgCons (tgN 6) tgNil))) yesT e_l_rich_woods_2 [s0, s1, s2, s3, s4, .no, .no] = .ok (.own, .lst ((richer ws).map woodD)) := fun k hk => by
    have q := lcE_noL (it := seqI (locE 2)) (own := [5, 6]) (tg := tgT (tgCons (tgN 5) (tgCons (tgN 6) tgNil))) (elt := e_l_rich_woods_2) (k := k) (l := ws) (f := woodD) (h := fun v => woodD (v.1, min 99 (v.2 + 2)))
      (ρ := [s0, s1, s2, s3, s4, .no, .no]) hk (by simp) (by omega) (fun v hv => ⟨[s0, s1, s2, s3, s4, .bo [] (.str v.1), .bo [] (.int v.2)], .own, by simp [woodD], by simp [e_l_rich_woods_2_ev, woodD], rfl⟩)
    rw [q]; unfold richer; rw [List.map_map]; rfl
  rcases h2 with rfl | rfl
  · exact go (.bor []) (by simp)
  · exact go (.bor [2]) (by simp)
theorem rich_loop (c : D) (n : Nat) (hn : n ≤ 60) (st : D) : ∀ (ks : List Nat) (ws : List WD) (s2 s4 : Sl), WOK ws → (s2 = .bo [] (.lst (ws.map woodD)) ∨ s2 = .ow (.lst (ws.map woodD))) → ∃ ws' s2' s4', loopS (tgN 4) b_l_rich_woods_1 (ks.map fun k : Nat => D.int k) [.bo [] c, .bo [] (.int n), s2, .bo [] st, s4, .no, .no] = .nx [.bo [] c, .bo [] (.int n), s2', .bo [] st, s4', .no, .no] ∧
    WOK ws' ∧ (s2' = .bo [] (.lst (ws'.map woodD)) ∨ s2' = .ow (.lst (ws'.map woodD))) ∧ ws'.map (·.1) = ws.map (·.1) ∧ min n (totN ws + 2 * ks.length) ≤ totN ws' := by
  intro ks
  induction ks with
  | nil => intro ws s2 s4 hw h2; exact ⟨ws, s2, s4, rfl, hw, h2, rfl, by simp; omega⟩
  | cons k ks ih =>
    intro ws s2 s4 hw h2
    have tt := l_total_ok ws (by have := hw.six; omega)
    rw [totN_eq fun v hv => (hw.rng v hv).1] at tt
    rw [List.map_cons]
    simp only [loopS_cons]
    by_cases q : totN ws < n
    · obtain ⟨ws', s2', s4', e, w', g', nm, t'⟩ := ih (richer ws) (.ow (.lst ((richer ws).map woodD))) (.bo [] (.int k)) hw.richer (.inr rfl)
      have tr := tot_richer hw (by omega)
      refine ⟨ws', s2', s4', ?_, w', g', by rw [nm]; simp [richer, Function.comp_def], by simp only [List.length_cons]; omega⟩
      rw [← e]
      have rl := richer_list hw.six s2 h2 (.bo [] c) (.bo [] (.int n)) (.bo [] st) (.bo [] (.int k))
      generalize (richer ws).map woodD = R at *
      rcases h2 with rfl | rfl
      · generalize ws.map woodD = L at *
        simp [b_l_rich_woods_1_ev, tt, q, rl]
      · generalize ws.map woodD = L at *
        simp [b_l_rich_woods_1_ev, tt, q, rl]
    · obtain ⟨ws', s2', s4', e, w', g', nm, t'⟩ := ih ws s2 (.bo [] (.int k)) hw h2
      refine ⟨ws', s2', s4', ?_, w', g', nm, by omega⟩
      rw [← e]
      rcases h2 with rfl | rfl
      · generalize ws.map woodD = L at *
        simp [b_l_rich_woods_1_ev, tt, q]
      · generalize ws.map woodD = L at *
        simp [b_l_rich_woods_1_ev, tt, q]
theorem rich_woods_ok (c : Int) (j : Nat) (hc : Cel j c) (hj : j ≤ 1000) (n : Nat) (hn : n ≤ 60) : ∃ ws st k, f_l_rich_woods [.int c, .int n] = .ok (k, .tup [.lst (ws.map woodD), .str st]) ∧ WOK ws ∧ goodN st = true ∧ st ∉ ws.map (·.1) ∧ n ≤ totN ws := by
  obtain ⟨ws0, st, hw, e4⟩ := lwoods_ok c j hc hj
  obtain ⟨ws', s2', s4', e, w', g', nm, t'⟩ := rich_loop (.int c) n hn (.str st) (List.range n) ws0 (.bo [] (.lst (ws0.map woodD))) .no hw.wok (.inl rfl)
  have rg : rgOk (n : Int) = true := rgOk_of (by omega) (by omega)
  simp only [List.length_range] at t'
  have res : ∃ k, f_l_rich_woods [.int c, .int n] = .ok (k, .tup [.lst (ws'.map woodD), .str st]) := by
    rcases g' with rfl | rfl
    · generalize ws'.map woodD = L' at *
      generalize ws0.map woodD = L0 at *
      exact ⟨_, by simp [f_l_rich_woods, mkF_ev, b_l_rich_woods, e4, rg, rng, e]; rfl⟩
    · generalize ws'.map woodD = L' at *
      generalize ws0.map woodD = L0 at *
      exact ⟨_, by simp [f_l_rich_woods, mkF_ev, b_l_rich_woods, e4, rg, rng, e]; rfl⟩
  obtain ⟨k, er⟩ := res
  exact ⟨ws', st, k, er, w', hw.gst, by rw [nm]; exact hw.ns, by omega⟩
end Cz
set_option maxHeartbeats 1000000
namespace Cz
open PySem PySem.Spec PyProof.Rows L2
section
variable {R : Rm} {m : Nat}
end
def room0 (ws : List WD) : Rm := ⟨ws, [], [], [], 0, [], 0, [], []⟩
theorem rinit_ok (ws : List WD) (t : Nat) : f_p_Room___init__ t [] [trayD ws] = .ok (roomF (room0 ws)) .non := by
  have p1 : putD [(("box" : Str), (trayD ws : D))] "people" (.lst []) = [(("box" : Str), (trayD ws : D)), (("people" : Str), (.lst [] : D))] := by kernel_rfl
  have p2 : putD [(("box" : Str), (trayD ws : D)), (("people" : Str), (.lst [] : D))] "scores" (.dic []) = [(("box" : Str), (trayD ws : D)), (("people" : Str), (.lst [] : D)), (("scores" : Str), (.dic [] : D))] := by kernel_rfl
  have p3 : putD [(("box" : Str), (trayD ws : D)), (("people" : Str), (.lst [] : D)), (("scores" : Str), (.dic [] : D))] "ended" (.lst []) = [(("box" : Str), (trayD ws : D)), (("people" : Str), (.lst [] : D)), (("scores" : Str), (.dic [] : D)), (("ended" : Str), (.lst [] : D))] := by kernel_rfl
  have p4 : putD [(("box" : Str), (trayD ws : D)), (("people" : Str), (.lst [] : D)), (("scores" : Str), (.dic [] : D)), (("ended" : Str), (.lst [] : D))] "filled" (.int 0) = [(("box" : Str), (trayD ws : D)), (("people" : Str), (.lst [] : D)), (("scores" : Str), (.dic [] : D)), (("ended" : Str), (.lst [] : D)), (("filled" : Str), (.int 0 : D))] := by kernel_rfl
  have p5 : putD [(("box" : Str), (trayD ws : D)), (("people" : Str), (.lst [] : D)), (("scores" : Str), (.dic [] : D)), (("ended" : Str), (.lst [] : D)), (("filled" : Str), (.int 0 : D))] "lifted" (.lst []) = [(("box" : Str), (trayD ws : D)), (("people" : Str), (.lst [] : D)), (("scores" : Str), (.dic [] : D)), (("ended" : Str), (.lst [] : D)), (("filled" : Str), (.int 0 : D)), (("lifted" : Str), (.lst [] : D))] := by kernel_rfl
  have p6 : putD [(("box" : Str), (trayD ws : D)), (("people" : Str), (.lst [] : D)), (("scores" : Str), (.dic [] : D)), (("ended" : Str), (.lst [] : D)), (("filled" : Str), (.int 0 : D)), (("lifted" : Str), (.lst [] : D))] "heard" (.dic []) = [(("box" : Str), (trayD ws : D)), (("people" : Str), (.lst [] : D)), (("scores" : Str), (.dic [] : D)), (("ended" : Str), (.lst [] : D)), (("filled" : Str), (.int 0 : D)), (("lifted" : Str), (.lst [] : D)), (("heard" : Str), (.dic [] : D))] := by kernel_rfl
  have p7 : putD [(("box" : Str), (trayD ws : D)), (("people" : Str), (.lst [] : D)), (("scores" : Str), (.dic [] : D)), (("ended" : Str), (.lst [] : D)), (("filled" : Str), (.int 0 : D)), (("lifted" : Str), (.lst [] : D)), (("heard" : Str), (.dic [] : D))] "wrote" (.dic []) = [(("box" : Str), (trayD ws : D)), (("people" : Str), (.lst [] : D)), (("scores" : Str), (.dic [] : D)), (("ended" : Str), (.lst [] : D)), (("filled" : Str), (.int 0 : D)), (("lifted" : Str), (.lst [] : D)), (("heard" : Str), (.dic [] : D)), (("wrote" : Str), (.dic [] : D))] := by kernel_rfl
  have nt : noL (trayD ws) = true := rfl
  have nk1 : ∀ k, nk k (trayD ws) = .own := fun k => nk_noL nt
  have fin : ([(("box" : Str), (trayD ws : D)), (("people" : Str), (.lst [] : D)), (("scores" : Str), (.dic [] : D)), (("ended" : Str), (.lst [] : D)), (("filled" : Str), (.int 0 : D)), (("lifted" : Str), (.lst [] : D)), (("heard" : Str), (.dic [] : D)), (("wrote" : Str), (.dic [] : D))] : List (Str × D)) = roomF (room0 ws) := by kernel_rfl
  simp [f_p_Room___init__, mkG_ev, runG_ev, b_p_Room___init__, putAt_ev, nt, nk1, p1, p2, p3, p4, p5, p6, p7]
  exact fin
theorem lmodel_ok (ws : List WD) (hl : ws.length ≤ 1000) : f_l_model [.lst (ws.map woodD)] = .ok (.own, modD (room0 ws)) := by
  have p4 : putD [((.inr "left" : Key), (.lst (ws.map woodD) : D)), ((.inr "people" : Key), (.lst [] : D)), ((.inr "points" : Key), (.dic [] : D)), ((.inr "size" : Key), (.int 0 : D))] (.inr "opened") (.lst []) = [((.inr "left" : Key), (.lst (ws.map woodD) : D)), ((.inr "people" : Key), (.lst [] : D)), ((.inr "points" : Key), (.dic [] : D)), ((.inr "size" : Key), (.int 0 : D)), ((.inr "opened" : Key), (.lst [] : D))] := by kernel_rfl
  have p5 : putD [((.inr "left" : Key), (.lst (ws.map woodD) : D)), ((.inr "people" : Key), (.lst [] : D)), ((.inr "points" : Key), (.dic [] : D)), ((.inr "size" : Key), (.int 0 : D)), ((.inr "opened" : Key), (.lst [] : D))] (.inr "given") (.dic []) = [((.inr "left" : Key), (.lst (ws.map woodD) : D)), ((.inr "people" : Key), (.lst [] : D)), ((.inr "points" : Key), (.dic [] : D)), ((.inr "size" : Key), (.int 0 : D)), ((.inr "opened" : Key), (.lst [] : D)), ((.inr "given" : Key), (.dic [] : D))] := by kernel_rfl
  have p6 : putD [((.inr "left" : Key), (.lst (ws.map woodD) : D)), ((.inr "people" : Key), (.lst [] : D)), ((.inr "points" : Key), (.dic [] : D)), ((.inr "size" : Key), (.int 0 : D)), ((.inr "opened" : Key), (.lst [] : D)), ((.inr "given" : Key), (.dic [] : D))] (.inr "wrote") (.dic []) = [((.inr "left" : Key), (.lst (ws.map woodD) : D)), ((.inr "people" : Key), (.lst [] : D)), ((.inr "points" : Key), (.dic [] : D)), ((.inr "size" : Key), (.int 0 : D)), ((.inr "opened" : Key), (.lst [] : D)), ((.inr "given" : Key), (.dic [] : D)), ((.inr "wrote" : Key), (.dic [] : D))] := by kernel_rfl
  have p7 : putD [((.inr "left" : Key), (.lst (ws.map woodD) : D)), ((.inr "people" : Key), (.lst [] : D)), ((.inr "points" : Key), (.dic [] : D)), ((.inr "size" : Key), (.int 0 : D)), ((.inr "opened" : Key), (.lst [] : D)), ((.inr "given" : Key), (.dic [] : D)), ((.inr "wrote" : Key), (.dic [] : D))] (.inr "gone") (.lst []) = [((.inr "left" : Key), (.lst (ws.map woodD) : D)), ((.inr "people" : Key), (.lst [] : D)), ((.inr "points" : Key), (.dic [] : D)), ((.inr "size" : Key), (.int 0 : D)), ((.inr "opened" : Key), (.lst [] : D)), ((.inr "given" : Key), (.dic [] : D)), ((.inr "wrote" : Key), (.dic [] : D)), ((.inr "gone" : Key), (.lst [] : D))] := by kernel_rfl
  have lkw : ∀ k, lk k (ws.map woodD) = .own := fun k => lk_noL (noLs_map fun w _ => rfl)
  have fin : ([((.inr "left" : Key), (.lst (ws.map woodD) : D)), ((.inr "people" : Key), (.lst [] : D)), ((.inr "points" : Key), (.dic [] : D)), ((.inr "size" : Key), (.int 0 : D)), ((.inr "opened" : Key), (.lst [] : D)), ((.inr "given" : Key), (.dic [] : D)), ((.inr "wrote" : Key), (.dic [] : D)), ((.inr "gone" : Key), (.lst [] : D))] : List (Key × D)) = modF (room0 ws) := by kernel_rfl
  have nd4 : ((¬ ("left" : Str) = "people" ∧ ¬ ("left" : Str) = "points" ∧ ¬ ("left" : Str) = "size") ∧ (¬ ("people" : Str) = "points" ∧ ¬ ("people" : Str) = "size") ∧ ¬ ("points" : Str) = "size") := by decide +kernel
  simp [f_l_model, mkF_ev, b_l_model, putAt_ev, lkw, nd4, p4, p5, p6, p7]
  exact fin
theorem room0_ok {ws : List WD} (h : WOK ws) : RmOk (room0 ws) := ⟨h, rfl, fun y hy => (nomatch hy), List.nodup_nil, Nat.zero_le _, Nat.zero_le _, fun _ => rfl, fun _ => rfl, fun _ => rfl, fun _ => rfl, fun _ => rfl, fun p hp => (nomatch hp), List.nodup_nil, fun p hp => (nomatch hp)⟩
end Cz
set_option maxHeartbeats 1000000
namespace Cz
open PySem PySem.Spec PyProof.Rows L2
structure Begn (ws : List WD) (pool : List Str) (st : Str) : Prop where
  wok : WOK ws
  len : pool.length = 11
  good : ∀ y ∈ pool, goodN y = true
  nd : pool.Nodup
  gst : goodN st = true
  nst : st ∉ pool
  apart : ∃ p : Nat, ∀ y ∈ pool, p < y.length ∧ y.cps.toList[p]? ≠ st.cps.toList[p]?
theorem begun_ok (c : Int) {j : Nat} (hc : Cel j c) (hj : j ≤ 900) : ∃ (ws : List WD) (pool : List Str) (st : Str) (k : Kd), f_l_begun [.int c] = .ok (k, .tup [.lst (ws.map woodD), .lst (pool.map .str), .str st]) ∧ Begn ws pool st := by
  obtain ⟨sp, e3, sl, sc⟩ := split_ok c j 3 1 hc (by omega) (by decide) (by decide)
  obtain ⟨u, v, w, rfl⟩ : ∃ u v w, sp = [u, v, w] := by
    match sp, sl with
    | [u, v, w], _ => exact ⟨u, v, w, rfl⟩
  have e3' : f_l_split [.int c, .int 3, .int 1] = .ok (.own, .lst [.int u, .int v, .int w]) := e3
  obtain ⟨ws1, st1, w1, ew1⟩ := lwoods_ok u (j + 1) (sc u (by simp)) (by omega)
  obtain ⟨ws2, st2, k2, ew2, w2, _⟩ := rich_woods_ok u (j + 1) (sc u (by simp)) (by omega) 24 (by decide)
  obtain ⟨row, e5, r⟩ := draw_lit w [4] (by decide) (by decide)
  cases r with
  | @cons _ r0 _ _ a0 b0 r =>
  cases r
  simp at e5
  obtain ⟨ys, en, yl, yg, yn, pp, xx, ynm⟩ := names_ok2 v 12 (by decide)
  have en' : f_l_names [.int v, .int 12] = .ok (.own, .lst (ys.map .str)) := en
  have z0 : atI [D.int r0] 0 = some (.int r0) := rfl
  have y11 : 11 < ys.length := by omega
  have at11 : atI (ys.map D.str) 11 = some (.str ys[11]) := by
    rw [atI_nn _ _ (by decide)]
    simp [List.getElem?_map, List.getElem?_eq_getElem y11]
  have y11o : ys[11]? = some ys[11] := List.getElem?_eq_getElem y11
  have ew2' : f_l_rich_woods [.int u, .int 24] = .ok (k2, .tup [.lst (ws2.map woodD), .str st2]) := ew2
  have tk : List.take 11 (ys.map D.str) = (ys.take 11).map D.str := by rw [List.map_take]
  have lkt : ∀ k, lk k (List.take 11 (ys.map D.str)) = .own := fun k => lk_noL (by rw [tk]; exact noLs_map fun w _ => rfl)
  have bg : ∀ ws : List WD, WOK ws → Begn ws (ys.take 11) ys[11] := fun ws hw => ⟨hw, by simp; omega, fun y hy => yg y (List.mem_of_mem_take hy), yn.sublist (List.take_sublist _ _), yg _ (List.getElem_mem y11), fun h => by
    obtain ⟨i, hi, e⟩ := List.mem_iff_getElem.mp h
    rw [List.getElem_take] at e
    simp at hi
    have := (List.getElem_inj yn).mp e
    omega, pp, fun y hy => by
      obtain ⟨i, hi, e⟩ := List.mem_iff_getElem.mp hy
      rw [List.getElem_take] at e
      simp at hi
      have n1 := ynm i y (by rw [← e]; exact List.getElem?_eq_getElem (by omega))
      have n2 := ynm 11 _ y11o
      refine ⟨?_, ?_⟩
      · have := (List.getElem?_eq_some_iff.mp n1.2).1
        simpa [Str.length] using this
      · rw [n1.2, n2.2]
        intro q
        have q := Option.some.inj q
        unfold ltn at q
        omega⟩
  by_cases q : 0 < r0
  · refine ⟨ws2, ys.take 11, ys[11], ?_⟩
    cases k2 with
    | own =>
      simp [f_l_begun, mkF_ev, b_l_begun, e3', ew1, ew2', e5, z0, q, en', y11o, lkt]
      exact ⟨cut_to _ _ (by decide), bg ws2 w2⟩
    | bor is =>
      simp [f_l_begun, mkF_ev, b_l_begun, e3', ew1, ew2', e5, z0, q, en', y11o, lkt]
      exact ⟨cut_to _ _ (by decide), bg ws2 w2⟩
  · refine ⟨ws1, ys.take 11, ys[11], ?_⟩
    simp [f_l_begun, mkF_ev, b_l_begun, e3', ew1, e5, z0, q, en', y11o, lkt]
    exact ⟨cut_to _ _ (by decide), bg ws1 w1.wok⟩
theorem RmOk.come {R : Rm} (h : RmOk R) (hz : R.sz = 0) {x : Str} (hx : goodN x = true) (hn : x ∉ R.ps) (hl : R.ps.length < 9) : RmOk (comeR R x) ∧ comeW R x = "" := by
  have hs : (gN R.sc x).isSome = false := by
    rw [h.pk] at hn
    rw [gN_none.mpr hn]; rfl
  refine ⟨⟨h.wok, ?_, fun y hy => ?_, ?_, by simp [comeR]; omega, h.sz9, fun z => absurd hz z, fun _ => ?_, h.wr0, h.op0, fun z => absurd hz z, fun p hp => ?_, h.wrn, h.wrw⟩, ?_⟩
  · show R.ps ++ [x] = (uN R.sc x 0).map (·.1)
    rw [uN_out (by rw [← h.pk]; exact hn), List.map_append, ← h.pk]; rfl
  · rcases List.mem_append.mp hy with hy | hy
    · exact h.good y hy
    · rw [List.mem_singleton.mp hy]; exact hx
  · show (R.ps ++ [x]).Nodup
    rw [List.nodup_append]
    exact ⟨h.nd, by simp, fun a ha b hb => by simp at hb; subst hb; exact fun q => hn (q ▸ ha)⟩
  · show (if R.sz = 0 then R.hd else uN R.hd x []) = []
    rw [if_pos hz, h.hd0 hz]
  · exact List.mem_append_left _ (h.wrk p hp)
  · unfold comeW
    rw [hx, hs, if_neg (by simp), if_neg (by simp), if_neg (by omega)]
section
variable (S0 : D) (a b n : Int) (W P : List D) (st : Str) (row : List D)
end
end Cz
set_option maxHeartbeats 1000000
namespace Cz
open PySem PySem.Spec PyProof.Rows L2
def dS (l : List Str) (x : Str) : List Str := l.filter fun y => decide (y ≠ x)
theorem eraseIdx_mapS {α β : Type} (f : α → β) : ∀ (l : List α) (i : Nat), (l.map f).eraseIdx i = (l.eraseIdx i).map f
  | [], i => rfl
  | a :: l, 0 => rfl
  | a :: l, i + 1 => by simp [List.eraseIdx, eraseIdx_mapS f l i]
theorem erIdx {x : Str} : ∀ {l : List Str}, l.Nodup → l.eraseIdx (l.idxOf x) = dS l x
  | [], _ => rfl
  | a :: l, n => by
    obtain ⟨n1, n2⟩ := List.nodup_cons.mp n
    by_cases h : a = x
    · subst h
      have e : dS l a = l := List.filter_eq_self.mpr fun y hy => by simp; exact fun e => n1 (e ▸ hy)
      have e2 : dS (a :: l) a = dS l a := by simp [dS]
      rw [e2, e]
      simp [List.idxOf_cons]
    · have e2 : dS (a :: l) x = a :: dS l x := by simp [dS, h]
      rw [e2, ← erIdx n2]
      have hb : (a == x) = false := by simpa using h
      simp [List.idxOf_cons, hb]
theorem rem_ok {l : List Str} {x : Str} {k : Kd} (n : l.Nodup) (h : x ∈ l) : opRemS (.lst (l.map D.str)) [(k, .str x)] = some (.non, .lst ((dS l x).map D.str)) := by
  have e : (l.map D.str).eraseIdx (l.idxOf x) = (dS l x).map D.str := by
    rw [eraseIdx_mapS, erIdx n]
  rw [opRemS_ev, strsD_map]
  simp [h, e]
theorem dN_none {α : Type} {l : List (Str × α)} {x : Str} (h : gN l x = none) : dN l x = l := by
  have := gN_none.mp h
  unfold dN
  refine List.filter_eq_self.mpr fun p hp => ?_
  simp only [decide_eq_true_eq]
  exact fun e => this (e ▸ List.mem_map_of_mem (f := (·.1)) hp)
def leaveR (R : Rm) (x : Str) : Rm := { R with ps := dS R.ps x, sc := dN R.sc x, hd := dN R.hd x, wr := dN R.wr x }
section
variable {R : Rm} {t m : Nat} {x : Str}
theorem RmOk.leave (h : RmOk R) (x : Str) : RmOk (leaveR R x) := by
  refine ⟨h.wok, ?_, fun y hy => h.good y ((List.mem_filter.mp hy).1), h.nd.filter _, Nat.le_trans (List.length_filter_le _ _) h.nine, h.sz9, h.hz, fun z => ?_, fun z => ?_, h.op0, fun z => ?_, fun p hp => ?_, dN_nd h.wrn, fun p hp => h.wrw p (dN_mem hp).1⟩
  · show dS R.ps x = (dN R.sc x).map (·.1)
    rw [dN_keys, ← h.pk]; rfl
  · show dN R.hd x = []
    rw [h.hd0 z]; rfl
  · show dN R.wr x = []
    rw [h.wr0 z]; rfl
  · show (dN R.hd x).map (·.1) = dS R.ps x
    rw [dN_keys, h.hdk z]; rfl
  · obtain ⟨h1, h2⟩ := dN_mem hp
    exact List.mem_filter.mpr ⟨h.wrk p h1, by simpa using h2⟩
theorem Said.leave (h : Said R m) (x : Str) : Said (leaveR R x) m := fun y G e => by
  have e' : gN (dN R.hd x) y = some G := e
  rw [gN_dN] at e'
  split at e'
  · cases e'
  · exact h y G e'
theorem leave_ok (hR : RmOk R) (t : Nat) : f_p_Room_leave t (roomF R) [.str x] = if (gN R.sc x).isSome = true then .ok (roomF (leaveR R x)) .non else .ex "NoListener" (roomF R) := by
  have k1 := room_nk (R := R) "look_listener" (by decide +kernel)
  have e1 := look_listener_ok (R := R) (t := t) (x := x)
  cases h : (gN R.sc x).isSome
  · rw [h] at e1
    simp [f_p_Room_leave, mkG_ev, runG_ev, b_p_Room_leave, k1, e1]
  · rw [h] at e1
    obtain ⟨v, hv⟩ := Option.isSome_iff_exists.mp h
    have hx : x ∈ R.ps := by rw [hR.pk]; exact List.mem_map_of_mem (f := (·.1)) (gN_mem hv)
    have er := fun k => rem_ok (k := k) hR.nd hx
    have d1 := dropD_nd D.int x R.sc
    have d2 := dropD_nd (syD 0 R.hz) x R.hd
    have d3 := dropD_nd wyD x R.wr
    cases h1 : gN R.hd x with
    | none =>
      cases h2 : gN R.wr x with
      | none => simp [f_p_Room_leave, mkG_ev, runG_ev, b_p_Room_leave, k1, e1, er, hv, h1, h2, d1, d2, d3, putAt_ev, leaveR, dN_none h1, dN_none h2, -opRemS_ev]
      | some w => simp [f_p_Room_leave, mkG_ev, runG_ev, b_p_Room_leave, k1, e1, er, hv, h1, h2, d1, d2, d3, putAt_ev, leaveR, dN_none h1, -opRemS_ev]
    | some G =>
      cases h2 : gN R.wr x with
      | none => simp [f_p_Room_leave, mkG_ev, runG_ev, b_p_Room_leave, k1, e1, er, hv, h1, h2, d1, d2, d3, putAt_ev, leaveR, dN_none h2, -opRemS_ev]
      | some w => simp [f_p_Room_leave, mkG_ev, runG_ev, b_p_Room_leave, k1, e1, er, hv, h1, h2, d1, d2, d3, putAt_ev, leaveR, -opRemS_ev]
theorem listeners_told (R : Rm) (t : Nat) : f_p_Room_listeners [roomD t R] = .ok (.own, .lst (R.ps.map .str)) := by
  have e : ∀ k, lk k (R.ps.map D.str) = .own := fun k => lk_noL (noLs_map fun w _ => rfl)
  simp [f_p_Room_listeners, mkF_ev, b_p_Room_listeners, e]
theorem points_ok (R : Rm) (t : Nat) : f_p_Room_points [roomD t R, .str x] = (match gN R.sc x with | some i => .ok (.own, .int i) | none => .ex "NoListener") := by
  have k1 := room_nk (R := R) "look_listener" (by decide +kernel)
  have e1 := look_listener_ok (R := R) (t := t) (x := x)
  cases h : gN R.sc x with
  | none =>
    rw [h] at e1
    simp only [Option.isSome_none] at e1
    simp [f_p_Room_points, mkF_ev, b_p_Room_points, k1, e1]
  | some i =>
    rw [h] at e1
    simp only [Option.isSome_some, if_true] at e1
    simp [f_p_Room_points, mkF_ev, b_p_Room_points, k1, e1, h]
end
end Cz
set_option maxHeartbeats 1000000
namespace Cz
open PySem PySem.Spec PyProof.Rows L2
abbrev geW (a b : WD) : Bool := decide (b.2 ≤ a.2)
def stnd (l : List WD) : List WD := l.mergeSort geW
def dscN : Nat → List WD → List WD
  | 0, l => l.filter fun w => decide (w.2 = 0)
  | n + 1, l => (l.filter fun w => decide (w.2 = ((n + 1 : Nat) : Int))) ++ dscN n l
theorem fall_eq : ∀ (a b : List WD), a.Pairwise (fun x y => y.2 ≤ x.2) → b.Pairwise (fun x y => y.2 ≤ x.2) → (∀ p : Int, a.filter (fun w => decide (w.2 = p)) = b.filter fun w => decide (w.2 = p)) → a = b
  | [], b, _, _, h => by
    cases b with
    | nil => rfl
    | cons y b => have := h y.2; simp at this
  | x :: a, b, ha, hb, h => by
    cases b with
    | nil => have := h x.2; simp at this
    | cons y b =>
      obtain ⟨ha1, ha2⟩ := List.pairwise_cons.mp ha
      obtain ⟨hb1, hb2⟩ := List.pairwise_cons.mp hb
      have hx : x ∈ y :: b := by
        have : x ∈ (y :: b).filter fun w => decide (w.2 = x.2) := by rw [← h x.2]; simp
        exact (List.mem_filter.mp this).1
      have hy : y ∈ x :: a := by
        have : y ∈ (x :: a).filter fun w => decide (w.2 = y.2) := by rw [h y.2]; simp
        exact (List.mem_filter.mp this).1
      have e : x.2 = y.2 := by
        have h1 : x.2 ≤ y.2 := by
          rcases List.mem_cons.mp hx with q | q
          · rw [q]; exact Int.le_refl _
          · exact hb1 x q
        have h2 : y.2 ≤ x.2 := by
          rcases List.mem_cons.mp hy with q | q
          · rw [q]; exact Int.le_refl _
          · exact ha1 y q
        omega
      have h0 := h x.2
      simp [e] at h0
      obtain ⟨rfl, h0⟩ := h0
      rw [fall_eq a b ha2 hb2 fun p => ?_]
      have hp := h p
      by_cases q : x.2 = p
      · simpa [q] using hp
      · simpa [q] using hp
theorem dscN_fil (l : List WD) (p : Int) : ∀ n : Nat, (dscN n l).filter (fun w => decide (w.2 = p)) = if 0 ≤ p ∧ p ≤ n then l.filter (fun w => decide (w.2 = p)) else []
  | 0 => by
    unfold dscN
    rw [List.filter_filter]
    by_cases h : p = 0
    · subst h; rw [if_pos (by omega)]; simp
    · rw [if_neg (by omega)]
      refine List.filter_eq_nil_iff.mpr fun w _ => ?_
      simp; omega
  | n + 1 => by
    unfold dscN
    rw [List.filter_append, dscN_fil l p n, List.filter_filter]
    by_cases h : p = ((n + 1 : Nat) : Int)
    · subst h
      rw [if_neg (by omega), if_pos (by omega)]; simp
    · have : (l.filter fun w => decide (w.2 = p) && decide (w.2 = ((n + 1 : Nat) : Int))) = [] := List.filter_eq_nil_iff.mpr fun w _ => by simp; omega
      rw [this, List.nil_append]
      by_cases h2 : 0 ≤ p ∧ p ≤ n
      · rw [if_pos h2, if_pos (by omega)]
      · rw [if_neg h2, if_neg (by omega)]
theorem dscN_mem (l : List WD) {w : WD} : ∀ n : Nat, w ∈ dscN n l → w ∈ l ∧ 0 ≤ w.2 ∧ w.2 ≤ n
  | 0, h => by
    obtain ⟨h1, h2⟩ := List.mem_filter.mp h
    simp at h2; exact ⟨h1, by omega, by omega⟩
  | n + 1, h => by
    rcases List.mem_append.mp h with h | h
    · obtain ⟨h1, h2⟩ := List.mem_filter.mp h
      simp at h2; exact ⟨h1, by omega, by omega⟩
    · obtain ⟨h1, h2, h3⟩ := dscN_mem l n h
      exact ⟨h1, h2, by omega⟩
theorem dscN_fall (l : List WD) : ∀ n : Nat, (dscN n l).Pairwise fun x y => y.2 ≤ x.2
  | 0 => List.Pairwise.imp_of_mem (R := fun _ _ => True) (fun {x y} hx hy _ => by
      obtain ⟨_, h1, h2⟩ := dscN_mem l 0 hx; obtain ⟨_, h3, h4⟩ := dscN_mem l 0 hy; omega) (List.pairwise_of_forall fun _ _ => trivial)
  | n + 1 => by
    unfold dscN
    refine List.pairwise_append.mpr ⟨List.Pairwise.imp_of_mem (R := fun _ _ => True) (fun {x y} hx hy _ => ?_) (List.pairwise_of_forall fun _ _ => trivial), dscN_fall l n, fun x hx y hy => ?_⟩
    · have h1 := (List.mem_filter.mp hx).2; have h2 := (List.mem_filter.mp hy).2
      simp at h1 h2; omega
    · have h1 := (List.mem_filter.mp hx).2
      obtain ⟨_, _, h3⟩ := dscN_mem l n hy
      simp at h1; omega
theorem geW_tot (a b : WD) : (geW a b || geW b a) = true := by simp; omega
theorem geW_tr (a b c : WD) : geW a b = true → geW b c = true → geW a c = true := by simp; omega
theorem stnd_fall (l : List WD) : (stnd l).Pairwise fun x y => y.2 ≤ x.2 := by
  have := List.pairwise_mergeSort (le := geW) geW_tr geW_tot l
  exact this.imp fun {a b} h => by simpa using h
theorem stnd_perm (l : List WD) : (stnd l).Perm l := List.mergeSort_perm _ _
theorem stnd_fil (l : List WD) (p : Int) : (stnd l).filter (fun w => decide (w.2 = p)) = l.filter fun w => decide (w.2 = p) := by
  have hp : (l.filter fun w => decide (w.2 = p)).Pairwise fun a b => geW a b = true := List.Pairwise.imp_of_mem (R := fun _ _ => True) (fun {x y} hx hy _ => by
      have h1 := (List.mem_filter.mp hx).2; have h2 := (List.mem_filter.mp hy).2
      simp at h1 h2 ⊢; omega) (List.pairwise_of_forall fun _ _ => trivial)
  have s1 : (l.filter fun w => decide (w.2 = p)).Sublist (stnd l) := List.sublist_mergeSort (le := geW) geW_tr geW_tot hp List.filter_sublist
  have s2 := s1.filter fun w : WD => decide (w.2 = p)
  rw [List.filter_filter] at s2
  simp only [Bool.and_self] at s2
  exact (s2.eq_of_length (((stnd_perm l).filter _).length_eq).symm).symm
theorem stnd_eq {l : List WD} {n : Nat} (h : ∀ w ∈ l, 0 ≤ w.2 ∧ w.2 ≤ n) : dscN n l = stnd l := by
  refine fall_eq _ _ (dscN_fall l n) (stnd_fall l) fun p => ?_
  rw [dscN_fil, stnd_fil]
  by_cases q : 0 ≤ p ∧ p ≤ n
  · rw [if_pos q]
  · rw [if_neg q]
    exact (List.filter_eq_nil_iff.mpr fun w hw => by have := h w hw; simp; omega).symm
theorem srtP_woods (l : List WD) : srtP (l.map woodD) = (stnd l).map woodD := by
  unfold srtP stnd
  exact (List.map_mergeSort (f := woodD) (r := geW) (s := prkLe) fun a _ b _ => rfl).symm
section
variable {R : Rm} {t : Nat}
theorem sc_fst (hR : RmOk R) {w : WD} (hw : w ∈ R.sc) : gN R.sc w.1 = some w.2 := gN_nd (by rw [← hR.pk]; exact hR.nd) hw
theorem sc_len (hR : RmOk R) : R.sc.length ≤ 9 := by
  have := congrArg List.length hR.pk
  have h9 := hR.nine
  simp at this; omega
theorem standings_ok (hR : RmOk R) (t : Nat) : f_p_Room_standings [roomD t R] = .ok (.own, .lst ((stnd R.sc).map woodD)) := by
  have hl := sc_len hR
  have e1 := lcE_noL (it := seqI (fldE ["Room"] "people" (locE 0))) (own := [2]) (tg := tgN 2) (elt := e_p_Room_standings_1) (k := .bor []) (l := R.sc) (f := fun w => .str w.1) (h := woodD)
    (ρ := [.bo [] (roomD t R), .no, .no, .tb]) (by simp [hR.pk]) (by simp) (by omega) (fun w hw => ⟨_, _, rfl, by
      have := sc_fst hR hw
      simp [e_p_Room_standings_1_ev, this, woodD]
      exact rfl, rfl⟩)
  have hall : ∀ d ∈ R.sc.map woodD, prkB d = true := fun d hd => by
    obtain ⟨w, _, rfl⟩ := List.mem_map.mp hd
    rfl
  simp [f_p_Room_standings, b_p_Room_standings, e1, -List.all_map, if_pos hall, srtP_woods, -List.mem_map]
theorem maxL_top (l : List Int) (x : Int) : ∃ M, maxL (x :: l) = some M ∧ x ≤ M ∧ ∀ y ∈ l, y ≤ M := by
  unfold maxL
  refine ⟨_, rfl, ?_, ?_⟩
  · induction l generalizing x with
    | nil => exact Int.le_refl _
    | cons y l ih => exact Int.le_trans (Int.le_max_left x y) (ih (max x y))
  · induction l generalizing x with
    | nil => exact fun y hy => nomatch hy
    | cons z l ih =>
      intro y hy
      rcases List.mem_cons.mp hy with e | hy
      · subst e
        have : ∀ (l : List Int) (x : Int), x ≤ l.foldl max x := fun l => by
          induction l with
          | nil => exact fun x => Int.le_refl _
          | cons u l ih => exact fun x => Int.le_trans (Int.le_max_left x u) (ih _)
        exact Int.le_trans (Int.le_max_right x y) (this l (max x y))
      · exact ih (max x z) y hy
def dnl : Nat → List Int
  | 0 => [0]
  | n + 1 => ((n + 1 : Nat) : Int) :: dnl n
theorem rngc_dnl : ∀ n : Nat, rngc n (-1) (n + 1) = (dnl n).map D.int
  | 0 => rfl
  | n + 1 => by
    rw [dnl, List.map_cons, ← rngc_dnl n]
    unfold rngc
    rw [List.range_succ_eq_map, List.map_cons, List.map_map]
    refine congr (congrArg _ ?_) (List.map_congr_left fun i _ => ?_)
    · simp
    · simp only [Function.comp_apply]; congr 1; push_cast; omega
theorem stand_turn (hR : RmOk R) (acc : List WD) (p : Int) (hl : acc.length + (R.sc.filter fun w => decide (w.2 = p)).length ≤ 1000) : b_l_standings_2 [.bo [] (modD R), .ow (.lst (acc.map woodD)), .bo [] (.int p), .no] = .nx [.bo [] (modD R), .ow (.lst ((acc ++ R.sc.filter fun w => decide (w.2 = p)).map woodD)), .bo [] (.int p), .no] := by
  have hl9 := sc_len hR
  have e1 := lcE_filter (it := seqI (idxE (locE 0) (conE (.str "people")))) (own := [3]) (tg := tgN 3) (ifs := t_l_standings_3) (elt := e_l_standings_3) (k := .bor []) (l := R.sc) (f := fun w => .str w.1) (h := fun w => woodD (w.1, p)) (p := fun w => decide (w.2 = p))
    (ρ := [.bo [] (modD R), .ow (.lst (acc.map woodD)), .bo [] (.int p), .no]) (by simp [hR.pk]) (by simp) (by omega) (fun w hw => by
      have := sc_fst hR hw
      exact ⟨_, rfl, by simp [t_l_standings_3_ev, this], fun _ => ⟨_, by simp [e_l_standings_3_ev, woodD]; exact rfl, rfl⟩⟩)
  have e2 : ((R.sc.filter fun w => decide (w.2 = p)).map fun w => woodD (w.1, p)) = (R.sc.filter fun w => decide (w.2 = p)).map woodD := List.map_congr_left fun w hw => by
    have := (List.mem_filter.mp hw).2
    simp at this
    rw [← this]
  rw [e2] at e1
  have ok : ∀ k, okIn k ((R.sc.filter fun w => decide (w.2 = p)).map woodD) = true := fun k => okIn_noL (noLs_map fun w _ => rfl)
  have ll : acc.length + (R.sc.filter fun w => decide (w.2 = p)).length ≤ 16777216 := by omega
  simp [b_l_standings_2, e1, ok, ll, putAt_ev]
theorem stand_loop (hR : RmOk R) : ∀ (n : Nat) (acc : List WD) (s2 : Sl), acc.length + (dscN n R.sc).length ≤ 1000 → loopS (tgN 2) b_l_standings_2 ((dnl n).map D.int) [.bo [] (modD R), .ow (.lst (acc.map woodD)), s2, .no] = .nx [.bo [] (modD R), .ow (.lst ((acc ++ dscN n R.sc).map woodD)), .bo [] (.int 0), .no]
  | 0, acc, s2, h => by
    have t := stand_turn hR acc 0 h
    simp only [List.map_append] at t
    simp [dnl, loopS_cons, t, dscN]
  | n + 1, acc, s2, h => by
    have h : acc.length + ((R.sc.filter fun w => decide (w.2 = ((n + 1 : Nat) : Int))).length + (dscN n R.sc).length) ≤ 1000 := by rw [← List.length_append]; exact h
    have t := stand_turn hR acc ((n + 1 : Nat) : Int) (by omega)
    have ih := stand_loop hR n (acc ++ R.sc.filter fun w => decide (w.2 = ((n + 1 : Nat) : Int))) (.bo [] (.int ((n + 1 : Nat) : Int))) (by rw [List.length_append]; omega)
    rw [dnl, List.map_cons, loopS_cons]
    simp only [List.map_append] at t ih ⊢
    rw [dscN]
    generalize ((n + 1 : Nat) : Int) = z at t ih ⊢
    simp at t ih ⊢
    simp [t, ih]
theorem lstandings_ok (hR : RmOk R) (hs : ∀ w ∈ R.sc, 0 ≤ w.2 ∧ w.2 < 1000000) : f_l_standings [modD R] = .ok (.own, .lst ((stnd R.sc).map woodD)) := by
  have hl9 := sc_len hR
  have e1 := lcE_noL (it := seqI (idxE (locE 0) (conE (.str "people")))) (own := [3]) (tg := tgN 3) (elt := e_l_standings_1) (k := .bor []) (l := R.sc) (f := fun w => .str w.1) (h := fun w => .int w.2)
    (ρ := [.bo [] (modD R), .ow (.lst []), .no, .no]) (by simp [hR.pk]) (by simp) (by omega) (fun w hw => ⟨_, _, rfl, by
      have := sc_fst hR hw
      simp [e_l_standings_1_ev, this]
      exact rfl, rfl⟩)
  obtain ⟨M, m1, m2, m3⟩ := maxL_top (R.sc.map (·.2)) 0
  obtain ⟨n, rfl⟩ : ∃ n : Nat, M = n := ⟨M.toNat, by omega⟩
  have hn : (n : Int) < 1000000 := by
    have mm : (n : Int) ∈ (0 : Int) :: R.sc.map (·.2) := by
      have : ∀ (l : List Int) (x y : Int), maxL (x :: l) = some y → y ∈ x :: l := fun l => by
        induction l with
        | nil => intro x y h; cases h; exact List.mem_cons_self
        | cons z l ih =>
          intro x y h
          have h' : maxL (max x z :: l) = some y := h
          rcases List.mem_cons.mp (ih _ _ h') with e | e
          · rw [e]; rcases Int.le_total x z with q | q
            · rw [Int.max_eq_right q]; simp
            · rw [Int.max_eq_left q]; simp
          · simp [e]
      exact this _ _ _ m1
    rcases List.mem_cons.mp mm with e | e
    · omega
    · obtain ⟨w, hw, e⟩ := List.mem_map.mp e
      have := (hs w hw).2
      omega
  have es : dscN n R.sc = stnd R.sc := stnd_eq fun w hw => ⟨(hs w hw).1, m3 _ (List.mem_map_of_mem (f := (·.2)) hw)⟩
  have lp := stand_loop hR n [] .no (by rw [es, (stnd_perm R.sc).length_eq]; simp; omega)
  have bm : bMax [(.own, .lst (D.int 0 :: R.sc.map fun w => D.int w.2))] = some (.own, .int n) := by
    have : (D.int 0 :: R.sc.map fun w => D.int w.2) = ((0 : Int) :: R.sc.map (·.2)).map D.int := by simp
    rw [this, bMax_l, intsD_map]
    simp [m1]
  have rn := rngc_dnl n
  have tn : ((n : Int) - -1).toNat = n + 1 := by omega
  have lg : 1 + R.sc.length ≤ 16777216 := by omega
  have r1 : rgOk (n : Int) = true := rgOk_of (by omega) (by omega)
  have r2 : rgOk (-1) = true := rgOk_of (by omega) (by omega)
  rw [es] at lp
  simp only [List.nil_append, List.map_nil] at lp
  simp [f_l_standings, mkF_ev, b_l_standings, e1, bm, rn, tn, r1, r2, lp, lg, -bMax_l]
end
end Cz
set_option maxHeartbeats 2000000
namespace Cz
open PySem PySem.Spec PyProof.Rows L2
section
variable {R : Rm} {t m : Nat} {x : Str}
def leaveW (R : Rm) (x : Str) : String := if (gN R.sc x).isSome = true then "" else "NoListener"
theorem lleave_ok (hR : RmOk R) (T : Nat → Nat) (hx : PyData.strOk x = true) : f_l_leave T [modD R, .str x] = .ok [if leaveW R x = "" then modD (leaveR R x) else modD R] (.tup [.str (leaveW R x), .non]) := by
  have ip := inPs hx hR.strs hR.pk
  unfold leaveW
  cases h : (gN R.sc x).isSome
  · rw [h] at ip
    simp [f_l_leave, mkH_ev, runH_ev, b_l_leave, ip]
  · rw [h] at ip
    obtain ⟨v, hv⟩ := Option.isSome_iff_exists.mp h
    have hxp : x ∈ R.ps := by rw [hR.pk]; exact List.mem_map_of_mem (f := (·.1)) (gN_mem hv)
    have er := fun k => rem_ok (k := k) hR.nd hxp
    have d1 := dropD_nd D.int x R.sc
    have d2 := dropD_nd gvD x R.hd
    have d3 := dropD_nd wyD x R.wr
    cases h1 : gN R.hd x with
    | none =>
      cases h2 : gN R.wr x with
      | none => simp [f_l_leave, mkH_ev, runH_ev, b_l_leave, b_l_leave_1_ev, loopS_cons, loopS_nil, ip, er, hv, h1, h2, d1, d2, d3, putAt_ev, leaveR, dN_none h1, dN_none h2, -opRemS_ev]
      | some w => simp [f_l_leave, mkH_ev, runH_ev, b_l_leave, b_l_leave_1_ev, loopS_cons, loopS_nil, ip, er, hv, h1, h2, d1, d2, d3, putAt_ev, leaveR, dN_none h1, -opRemS_ev]
    | some G =>
      cases h2 : gN R.wr x with
      | none => simp [f_l_leave, mkH_ev, runH_ev, b_l_leave, b_l_leave_1_ev, loopS_cons, loopS_nil, ip, er, hv, h1, h2, d1, d2, d3, putAt_ev, leaveR, dN_none h2, -opRemS_ev]
      | some w => simp [f_l_leave, mkH_ev, runH_ev, b_l_leave, b_l_leave_1_ev, loopS_cons, loopS_nil, ip, er, hv, h1, h2, d1, d2, d3, putAt_ev, leaveR, -opRemS_ev]
theorem lpoints_ok (R : Rm) (t : Nat) : f_l_points [roomD t R, .str x] = (match gN R.sc x with | some i => .ok (.own, .int i) | none => .ok (.own, .lst [.str "refused"])) := by
  have k1 := room_nk (R := R) "points" (by decide +kernel)
  have e1 := points_ok (x := x) R t
  cases h : gN R.sc x with
  | none =>
    rw [h] at e1
    simp [f_l_points, mkF_ev, b_l_points, b_l_points_1_ev, k1, e1, subX]
  | some i =>
    rw [h] at e1
    simp [f_l_points, mkF_ev, b_l_points, b_l_points_1_ev, k1, e1]
theorem pairs_told_ok {l : List WD} (hl : l.length ≤ 1000) (hg : ∀ w ∈ l, goodN w.1 = true) : f_l_pairs_told [.lst (l.map woodD), .lst (l.map woodD)] = .ok (.own, .bl true) := by
  have e1 := lcE_noL (it := seqI (locE 0)) (own := [2]) (tg := tgN 2) (elt := e_l_pairs_told_1) (k := .bor []) (l := l) (f := woodD) (h := fun _ => .bl true)
    (ρ := [.bo [] (.lst (l.map woodD)), .bo [] (.lst (l.map woodD)), .no]) (by simp) (by simp) (by omega) (fun w _ => ⟨_, _, rfl, by
      have := pair_of_wood_ok w
      simp only [woodD] at this
      simp [e_l_pairs_told_1_ev, woodD, this]
      exact rfl, rfl⟩)
  have e2 := eqD_woods l l hg hg
  simp at e2
  have b1 : blsD (l.map fun _ => D.bl true) = some (l.map fun _ => true) := blsD_fn _ _
  simp [f_l_pairs_told, mkF_ev, b_l_pairs_told, e1, e2, b1]
def Pts (R : Rm) (N : Int) : Prop := ∀ w ∈ R.sc, 0 ≤ w.2 ∧ w.2 < N
theorem sc_good (hR : RmOk R) {w : WD} (hw : w ∈ R.sc) : goodN w.1 = true := hR.good _ (by rw [hR.pk]; exact List.mem_map_of_mem (f := (·.1)) hw)
theorem people_turn (hR : RmOk R) {x : Str} (hx : x ∈ R.ps) (st : Str) (s3 s4 s5 : Sl) : b_l_people_ok_1 [.bo [] (roomD 0 R), .bo [] (modD R), .bo [] (.str st), .ow (.lst (R.ps.map .str)), .bo [] (.str x), s5, .tb] = .nx [.bo [] (roomD 0 R), .bo [] (modD R), .bo [] (.str st), .ow (.lst (R.ps.map .str)), .bo [] (.str x), .bo [] (.int ((gN R.sc x).getD 0)), .tb] := by
  have e1 := lpoints_ok (x := x) R 0
  rw [hR.pk] at hx
  obtain ⟨v, hv⟩ := gN_in hx
  simp only [hv] at e1
  simp [b_l_people_ok_1, e1, hv]
def NoB (s : Sl) : Prop := s = .no ∨ ∃ d, s = .bo [] d
theorem people_loop (hR : RmOk R) (st : Str) : ∀ (l : List Str) (s4 s5 : Sl), (∀ x ∈ l, x ∈ R.ps) → NoB s4 → NoB s5 → ∃ s4' s5', loopS (tgN 4) b_l_people_ok_1 (l.map .str) [.bo [] (roomD 0 R), .bo [] (modD R), .bo [] (.str st), .ow (.lst (R.ps.map .str)), s4, s5, .tb] = .nx [.bo [] (roomD 0 R), .bo [] (modD R), .bo [] (.str st), .ow (.lst (R.ps.map .str)), s4', s5', .tb] ∧ NoB s4' ∧ NoB s5'
  | [], s4, s5, _, h4, h5 => ⟨s4, s5, rfl, h4, h5⟩
  | x :: l, s4, s5, h, h4, h5 => by
    have t := people_turn hR (h x List.mem_cons_self) st .no .no s5
    obtain ⟨s4', s5', e, h6⟩ := people_loop hR st l (.bo [] (.str x)) (.bo [] (.int ((gN R.sc x).getD 0))) (fun y hy => h y (List.mem_cons_of_mem _ hy)) (.inr ⟨_, rfl⟩) (.inr ⟨_, rfl⟩)
    refine ⟨s4', s5', ?_, h6⟩
    rw [List.map_cons, loopS_cons]
    simp [t, e]
theorem eqD_strsM {l : List Str} (h : ∀ y ∈ l, PyData.strOk y = true) : eqD (.lst (l.map .str)) (.lst (l.map .str)) = some true := by
  have c : cmD 64 (.lst (l.map .str)) = true := by
    rw [cmD_lst, cmDs_map]; exact List.all_eq_true.mpr fun w hw => by simp [h w hw]
  rw [eqD_of c c, eqv2_lst, eqvs_map D.str (fun a b => by by_cases h : a = b <;> simp [h])]
  simp
theorem people_ok {N : Int} (hR : RmOk R) (hs : Pts R N) (hN : N ≤ 1000000) {st : Str} (hst : st ∉ R.ps) : f_l_people_ok [roomD 0 R, modD R, .str st] = .ok (.own, .bl true) := by
  obtain ⟨s4, s5, lp, h4, h5⟩ := people_loop hR st R.ps .no .no (fun x h => h) (.inl rfl) (.inl rfl)
  have e1 := lpoints_ok (x := st) R 0
  rw [hR.pk] at hst
  rw [gN_none.mpr hst] at e1
  have e2 := standings_ok hR 0
  have e3 := lstandings_ok hR fun w hw => ⟨(hs w hw).1, by have := (hs w hw).2; omega⟩
  have e4 := pairs_told_ok (l := stnd R.sc) (by rw [(stnd_perm R.sc).length_eq]; have := sc_len hR; omega) fun w hw => sc_good hR ((stnd_perm R.sc).mem_iff.mp hw)
  have e5 := listeners_told R 0
  have e6 := eqD_strsM hR.strs
  have e7 := refused_ok
  have k1 := room_nk (R := R) "listeners" (by decide +kernel)
  have k2 := room_nk (R := R) "standings" (by decide +kernel)
  simp only at e1
  generalize stnd R.sc = S at *
  rcases h4 with rfl | ⟨d4, rfl⟩ <;> rcases h5 with rfl | ⟨d5, rfl⟩ <;> simp [f_l_people_ok, b_l_people_ok, e1, e2, e3, e4, e5, e6, e7, k1, k2, lp, bosOk_ev]
end
end Cz
set_option maxHeartbeats 2000000
namespace Cz
open PySem PySem.Spec PyProof.Rows L2
theorem w_cc : eqD (.str "come") (.str "come") = some true := by rw [eqD_of (by decide +kernel) (by decide +kernel)]; decide +kernel
theorem w_lc : eqD (.str "leave") (.str "come") = some false := by rw [eqD_of (by decide +kernel) (by decide +kernel)]; decide +kernel
section
variable {R : Rm} {x : Str}
theorem comeW_cases (R : Rm) (x : Str) : comeW R x = "BadName" ∨ comeW R x = "Taken" ∨ comeW R x = "" ∨ comeW R x = "Full" := by
  unfold comeW
  split
  · simp
  split
  · simp
  split <;> simp
theorem tried_come (T : Nat → Nat) (hx : x.length ≤ 16777216) (hR : RmOk R) : f_l_tried_v19 T [roomD 0 R, .tup [.str "come", .str x]] = .ok [roomD 0 (if comeW R x = "" then comeR R x else R)] (.tup [.str (comeW R x), .non]) := by
  have k1 := room_nk (R := R) "come" (by decide +kernel)
  have sc := sc_len hR
  have hd := hR.hdl
  have e1 := fun t => come_ok R t hx (fun z => ⟨hR.sz9, hR.hz z⟩) (by omega) (by omega)
  by_cases h : comeW R x = ""
  · simp only [if_pos h] at e1
    simp [f_l_tried_v19, mkH_ev, runH_ev, b_l_tried_v19, b_l_tried_v19_1_ev, w_cc, k1, e1, h, allG_const, putAt_ev]
  · simp only [if_neg h] at e1
    have hc := comeW_cases R x
    generalize comeW R x = w at *
    rcases hc with rfl | rfl | rfl | rfl
    · simp [f_l_tried_v19, mkH_ev, runH_ev, b_l_tried_v19, b_l_tried_v19_1_ev, w_cc, k1, e1, allG_const, putAt_ev, subX]
    · simp [f_l_tried_v19, mkH_ev, runH_ev, b_l_tried_v19, b_l_tried_v19_1_ev, w_cc, k1, e1, allG_const, putAt_ev, subX]
    · exact absurd rfl h
    · simp [f_l_tried_v19, mkH_ev, runH_ev, b_l_tried_v19, b_l_tried_v19_1_ev, w_cc, k1, e1, allG_const, putAt_ev, subX]
theorem tried_leave (T : Nat → Nat) (hR : RmOk R) : f_l_tried_v19 T [roomD 0 R, .tup [.str "leave", .str x]] = .ok [roomD 0 (if leaveW R x = "" then leaveR R x else R)] (.tup [.str (leaveW R x), .non]) := by
  have k1 := room_nk (R := R) "leave" (by decide +kernel)
  have e1 := fun t => leave_ok (x := x) hR t
  unfold leaveW
  cases h : (gN R.sc x).isSome
  · simp only [h] at e1
    simp [f_l_tried_v19, mkH_ev, runH_ev, b_l_tried_v19, b_l_tried_v19_1_ev, w_lc, k1, e1, h, allG_const, putAt_ev, subX]
  · simp only [h, if_true] at e1
    simp [f_l_tried_v19, mkH_ev, runH_ev, b_l_tried_v19, b_l_tried_v19_1_ev, w_lc, k1, e1, h, allG_const, putAt_ev]
def Ap (p : Nat) (st x : Str) : Prop := x.cps.toList[p]? ≠ st.cps.toList[p]?
inductive Deed51 (p : Nat) (st : Str) : D → Prop
  | come (x : Str) : x.length ≤ 1000 → (goodN x = true → Ap p st x) → Deed51 p st (.tup [.str "come", .str x])
  | leave (x : Str) : goodN x = true → Deed51 p st (.tup [.str "leave", .str x])
theorem cut_take (z : Str) (n : Nat) : (cutS z none (some (n : Int))).cps.toList = z.cps.toList.take n := by
  unfold cutS HT.sIx
  simp only [show ¬ ((n : Int) < 0) by omega, if_false]
  simp
  show min n (min z.cps.size z.cps.size) = min n z.cps.size
  omega
theorem foldl_pre (l : List (Array Nat)) : ∀ acc : Array Nat, ∃ r, (l.foldl (· ++ ·) acc).toList = acc.toList ++ r := by
  induction l with
  | nil => exact fun acc => ⟨[], by simp⟩
  | cons a l ih =>
    intro acc
    obtain ⟨r, e⟩ := ih (acc ++ a)
    exact ⟨a.toList ++ r, by rw [List.foldl_cons, e]; simp⟩
theorem mul_pre (z : Str) (k : Nat) : ∃ r, (strMul z (k + 1)).cps.toList = z.cps.toList ++ r := by
  unfold strMul
  rw [List.replicate_succ, List.foldl_cons]
  obtain ⟨r, e⟩ := foldl_pre (List.replicate k z.cps) (#[] ++ z.cps)
  exact ⟨r, by rw [e]; simp⟩
theorem odd9_at (i : Nat) (h : i < 9) : ∃ c, ("A 0-_\nB9{" : Str).cps.toList[i]? = some c ∧ letB c = false := by
  have q : ∀ i < 9, (match ("A 0-_\nB9{" : Str).cps.toList[i]? with | some c => !letB c | none => false) = true := by decide +kernel
  have := q i h
  cases e : ("A 0-_\nB9{" : Str).cps.toList[i]? with
  | none => rw [e] at this; cases this
  | some c => rw [e] at this; exact ⟨c, rfl, by simpa using this⟩
theorem drawn51_ok {r0 r1 r2 r3 r4 r5 : Int} (h0 : 0 ≤ r0 ∧ r0 < 11) (h2 : 0 ≤ r2) (hR : RmOk R) {pool : List Str} (hp : pool.length = 11) (hg : ∀ y ∈ pool, goodN y = true) {p : Nat} {st : Str} (hap : ∀ y ∈ pool, p < y.length ∧ Ap p st y) :
    ∃ d, f_l_drawn_v2 [.lst [.int r0, .int r1, .int r2, .int r3, .int r4, .int r5], .lst (R.ps.map .str), .lst (pool.map .str)] = .ok (.own, d) ∧ Deed51 p st d := by
  have z0 : atI [D.int r0, .int r1, .int r2, .int r3, .int r4, .int r5] 0 = some (.int r0) := rfl
  have z1 : atI [D.int r0, .int r1, .int r2, .int r3, .int r4, .int r5] 1 = some (.int r1) := rfl
  have z2 : atI [D.int r0, .int r1, .int r2, .int r3, .int r4, .int r5] 2 = some (.int r2) := rfl
  have z3 : atI [D.int r0, .int r1, .int r2, .int r3, .int r4, .int r5] 3 = some (.int r3) := rfl
  have z4 : atI [D.int r0, .int r1, .int r2, .int r3, .int r4, .int r5] 4 = some (.int r4) := rfl
  have hi : r0.toNat < pool.length := by omega
  have ap : atI (pool.map D.str) r0 = some (.str pool[r0.toNat]) := by
    rw [atI_nn _ _ h0.1, List.getElem?_map, List.getElem?_eq_getElem hi]; rfl
  have gn := hg _ (List.getElem_mem hi)
  obtain ⟨np, na⟩ := hap _ (List.getElem_mem hi)
  generalize pool[r0.toNat] = nm at ap gn np na
  have ngl := goodN_len gn
  have nto := goodN_ok gn
  have nl0 : ¬ (nm.length : Int) = 0 := by omega
  obtain ⟨od, hod, hol⟩ := odd9_at (r2 % 9).toNat (by have := Int.emod_nonneg r2 (show (9 : Int) ≠ 0 by decide); have := Int.emod_lt_of_pos r2 (show (0 : Int) < 9 by decide); omega)
  have a3 : atI ("A 0-_\nB9{" : Str).cps.toList (r2 % 9) = some od := by
    rw [atI_nn _ _ (Int.emod_nonneg r2 (by decide)), hod]
  have olen : ("A 0-_\nB9{" : Str).length ≤ 16777216 := by decide +kernel
  obtain ⟨bent, hbent⟩ : ∃ b : Str, b = cutS nm none (some (r2 % (nm.length : Int))) ++ (⟨#[od]⟩ : Str) ++ cutS nm (some (r2 % (nm.length : Int) + 1)) none := ⟨_, rfl⟩
  have bl1 := cutS_len nm none (some (r2 % (nm.length : Int)))
  have bl2 := cutS_len nm (some (r2 % (nm.length : Int) + 1)) none
  have bt : bent.length ≤ 1000 := by rw [hbent, app_len, app_len, one_len]; omega
  have ml := strMul_len nto 13
  have ml2 := strMul_len nto 12
  have c13 := cutS_len (strMul nm 13) none (some 13)
  have c12 := cutS_len (strMul nm 12) none (some 12)
  have ln0 : (0 : Int) < nm.length := by omega
  have l0 : ¬ nm.length = 0 := by omega
  have l0' : 0 < nm.length := by omega
  have l1 : nm.length ≤ 16777216 := by omega
  by_cases q1 : r1 = 0
  · obtain ⟨y, hy, hyl, hya⟩ : ∃ y, atI [D.str "", .str bent, .str (cutS (strMul nm 13) none (some 13)), .str (cutS (strMul nm 12) none (some 12))] (r3 % 4) = some (.str y) ∧ y.length ≤ 1000 ∧ (goodN y = true → Ap p st y) := by
      rcases (show r3 % 4 = 0 ∨ r3 % 4 = 1 ∨ r3 % 4 = 2 ∨ r3 % 4 = 3 by omega) with h | h | h | h <;> rw [h] <;> refine ⟨_, rfl, ?_, fun g => ?_⟩
      · decide +kernel
      · exact absurd g (by decide +kernel)
      · exact bt
      · exfalso
        have hm : od ∈ bent.cps.toList := by
          rw [hbent]
          show od ∈ ((cutS nm none (some (r2 % (nm.length : Int)))).cps ++ #[od] ++ (cutS nm (some (r2 % (nm.length : Int) + 1)) none).cps).toList
          simp
        simp only [goodN, Bool.and_eq_true, List.all_eq_true] at g
        have := g.2 od hm
        rw [hol] at this; cases this
      · omega
      · exfalso
        have g2 := (goodN_len g).2
        have e13 := congrArg List.length (cut_take (strMul nm 13) 13)
        simp only [List.length_take, Array.length_toList] at e13
        have e1 : (cutS (strMul nm 13) none (some ((13 : Nat) : Int))).length = min 13 (strMul nm 13).length := e13
        have e2 : (cutS (strMul nm 13) none (some ((13 : Nat) : Int))).length ≤ 12 := g2
        omega
      · omega
      · unfold Ap
        have e12 := cut_take (strMul nm 12) 12
        obtain ⟨r, er⟩ := mul_pre nm 11
        have e1 : (cutS (strMul nm 12) none (some 12)).cps.toList = ((nm.cps.toList ++ r).take 12) := by rw [← er]; exact e12
        have np' : p < nm.cps.toList.length := by simpa [Str.length] using np
        rw [e1, List.getElem?_take_of_lt (by omega), List.getElem?_append_left np']
        exact na
    refine ⟨.tup [.str "come", .str y], ?_, .come y hyl hya⟩
    rw [hbent] at hy
    have l2 : (strMul nm 13).length ≤ 16777216 := by omega
    have l3 : (strMul nm 12).length ≤ 16777216 := by omega
    have l4 : (cutS nm none (some (r2 % (nm.length : Int)))).length + 1 ≤ 16777216 := by omega
    have l5 : (cutS nm none (some (r2 % (nm.length : Int))) ++ (⟨#[od]⟩ : Str)).length + (cutS nm (some (r2 % (nm.length : Int) + 1)) none).length ≤ 16777216 := by rw [app_len, one_len]; omega
    have l6 : 1 ≤ nm.length ∧ nm.length ≤ 1000 := by omega
    subst q1
    simp [f_l_drawn_v2, mkF_ev, b_l_drawn_v2, z0, z1, z2, z3, ap, nl0, a3, olen, hy, l0, l0', l1, l2, l3, l4, l5, l6, one_len]
  · by_cases q4 : r4 = 0
    · by_cases q3 : 0 < r3 ∧ 0 < R.ps.length
      · obtain ⟨q3, q5⟩ := q3
        have hl : 0 < (R.ps.length : Int) := by omega
        have hi0 : 0 ≤ r2 % (R.ps.length : Int) := Int.emod_nonneg _ (by omega)
        have hi1 : (r2 % (R.ps.length : Int)).toNat < R.ps.length := by have := Int.emod_lt_of_pos r2 hl; omega
        have ha : atI (R.ps.map D.str) (r2 % (R.ps.length : Int)) = some (.str R.ps[(r2 % (R.ps.length : Int)).toNat]) := by
          rw [atI_nn _ _ hi0, List.getElem?_map, List.getElem?_eq_getElem hi1]; rfl
        have gy := hR.good _ (List.getElem_mem hi1)
        generalize R.ps[(r2 % (R.ps.length : Int)).toNat] = y at ha gy
        have q6 : ¬ R.ps.length = 0 := by omega
        have q7 : ¬ (R.ps.length : Int) = 0 := by omega
        have l9 : R.ps.length ≤ 16777216 := by have := hR.nine; omega
        refine ⟨.tup [.str "leave", .str y], ?_, .leave y gy⟩
        simp [f_l_drawn_v2, mkF_ev, b_l_drawn_v2, z0, z1, z2, z3, z4, ap, nl0, q1, q4, l0, l0', l1, q3, q5, q6, q7, ha, l9]
      · refine ⟨.tup [.str "leave", .str nm], ?_, .leave nm gn⟩
        by_cases q5 : 0 < r3
        · have q6 : ¬ 0 < R.ps.length := fun z => q3 ⟨q5, z⟩
          have q7 : R.ps.length = 0 := by omega
          simp [f_l_drawn_v2, mkF_ev, b_l_drawn_v2, z0, z1, z2, z3, z4, ap, nl0, q1, q4, l0, l0', l1, q5, q7]
        · simp [f_l_drawn_v2, mkF_ev, b_l_drawn_v2, z0, z1, z2, z3, z4, ap, nl0, q1, q4, l0, l0', l1, q5]
    · refine ⟨.tup [.str "come", .str nm], ?_, .come nm (by omega) fun _ => na⟩
      simp [f_l_drawn_v2, mkF_ev, b_l_drawn_v2, z0, z1, z2, z3, z4, ap, nl0, q1, q4, l0, l0', l1]
end
end Cz
set_option maxHeartbeats 4000000
namespace Cz
open PySem PySem.Spec PyProof.Rows L2
structure In51 (p : Nat) (st : Str) (R : Rm) : Prop where
  ok : RmOk R
  sz : R.sz = 0
  pts : Pts R 1
  ap : ∀ x ∈ R.ps, Ap p st x
theorem In51.out {p : Nat} {st : Str} {R : Rm} (h : In51 p st R) : st ∉ R.ps := fun q => h.ap st q rfl
theorem comeW_str (R : Rm) (x : Str) : PyData.strOk (comeW R x : Str) = true := by
  rcases comeW_cases R x with h | h | h | h <;> rw [h] <;> decide +kernel
theorem leaveW_str (R : Rm) (x : Str) : PyData.strOk (leaveW R x : Str) = true := by
  unfold leaveW
  split <;> decide +kernel
theorem comeW_nil {R : Rm} (hR : RmOk R) {x : Str} (h : comeW R x = "") : goodN x = true ∧ x ∉ R.ps ∧ R.ps.length < 9 := by
  unfold comeW at h
  split at h
  · exact absurd h (by decide)
  rename_i h1
  split at h
  · exact absurd h (by decide)
  rename_i h2
  split at h
  · exact absurd h (by decide)
  rename_i h3
  refine ⟨by simpa using h1, fun q => h2 ?_, by omega⟩
  rw [hR.pk] at q
  obtain ⟨v, hv⟩ := gN_in q
  rw [hv]; rfl
theorem deed51_ok {p : Nat} {st : Str} {R : Rm} {d : D} (hI : In51 p st R) (hd : Deed51 p st d) : ∃ (R' : Rm) (w : String), In51 p st R' ∧ PyData.strOk (w : Str) = true ∧ (∀ T, f_l_tried_v19 T [roomD 0 R, d] = .ok [roomD 0 R'] (.tup [.str w, .non])) ∧
    ((∃ x, d = .tup [.str "come", .str x] ∧ ∀ T, f_l_come T [modD R, .str x] = .ok [modD R'] (.tup [.str w, .non])) ∨ (∃ x, d = .tup [.str "leave", .str x] ∧ ∀ T, f_l_leave T [modD R, .str x] = .ok [modD R'] (.tup [.str w, .non]))) := by
  have hR := hI.ok
  have hdl := hR.hdl
  have h9 := hR.nine
  cases hd with
  | come x hx ha =>
    have e1 := fun T => tried_come (R := R) (x := x) T (by omega) hR
    have e2 := fun T => lcome_ok R T (x := x) (by omega) hR.hz hR.strs hR.pk (by omega) (by omega)
    by_cases h : comeW R x = ""
    · obtain ⟨g1, g2, g3⟩ := comeW_nil hR h
      simp only [if_pos h] at e1 e2
      refine ⟨comeR R x, comeW R x, ⟨(hR.come hI.sz g1 g2 g3).1, hI.sz, fun w hw => ?_, fun y hy => ?_⟩, comeW_str R x, e1, .inl ⟨x, rfl, e2⟩⟩
      · rcases uN_mem (show w ∈ uN R.sc x 0 from hw) with q | q
        · subst q; exact ⟨Int.le_refl _, Int.one_pos⟩
        · exact hI.pts w q
      · rcases List.mem_append.mp (show y ∈ R.ps ++ [x] from hy) with q | q
        · exact hI.ap y q
        · rw [List.mem_singleton.mp q]; exact ha g1
    · simp only [if_neg h] at e1 e2
      exact ⟨R, comeW R x, hI, comeW_str R x, e1, .inl ⟨x, rfl, e2⟩⟩
  | leave x hx =>
    have e1 := fun T => tried_leave (R := R) (x := x) T hR
    have e2 := fun T => lleave_ok (x := x) hR T (goodN_ok hx)
    by_cases h : leaveW R x = ""
    · simp only [if_pos h] at e1 e2
      exact ⟨leaveR R x, leaveW R x, ⟨hR.leave x, hI.sz, fun w hw => hI.pts w (dN_mem hw).1, fun y hy => hI.ap y (List.mem_filter.mp hy).1⟩, leaveW_str R x, e1, .inr ⟨x, rfl, e2⟩⟩
    · simp only [if_neg h] at e1 e2
      exact ⟨R, leaveW R x, hI, leaveW_str R x, e1, .inr ⟨x, rfl, e2⟩⟩
noncomputable def y_due : SS := asgM (tgN 9) (iteM (mT (cmpT .Eq (idxE (locE 8) (conE (.int 0))) (conE (.str "come")))) (hcM f_l_come [0] (pH (locP 5) (vH (idxE (locE 8) (conE (.int 1))) nilH))) (hcM f_l_leave [0] (pH (locP 5) (vH (idxE (locE 8) (conE (.int 1))) nilH))))
noncomputable def y_res : SS := ifM (notM (callM f_l_result_ok (cvA (hcM f_l_tried_v19 [0] (pH (locP 4) (vH (locE 8) nilH))) (pA (consA (locE 9) nilA))))) (retP (conE (.bl false))) nilS
noncomputable def y_look : SS := (seqS (ifM (callT f_l_people_ok (consA (locE 4) (consA (locE 5) (consA (locE 3) nilA))) []) nilS (retP (conE (.bl false))))
    (seqS (tapS (rmE "Room" "listeners" f_p_Room_listeners (locE 4) nilA) (locE 3))
    (tapM (rmT "Room" "standings" f_p_Room_standings (locE 4)) (tupE (consA (locE 3) (consA (conE (.int 0)) nilA))))))
theorem y_eq : b_l_law_k51_v2_1 = (seqS (asgS (tgN 7) (callE f_l_draw (consA (callE f_l_cell (consA (locE 0) (consA (locE 6) nilA)) []) (consA (lstE (consA (conE (.int 11)) (consA (conE (.int 8)) (consA (conE (.int 36)) (consA (conE (.int 5)) (consA (conE (.int 5)) (consA (conE (.int 2)) nilA))))))) nilA)) []))
    (seqS (asgS (tgN 8) (callE f_l_drawn_v2 (consA (locE 7) (consA (idxE (locE 5) (conE (.str "people"))) (consA (locE 2) nilA))) []))
    (seqS y_due (seqS y_res (ifS (orT (cmpT .Eq (idxE (locE 7) (conE (.int 5))) (conE (.int 0))) (cmpT .Gt (locE 6) (conE (.int 50)))) y_look nilS))))) := rfl
section
variable (S0 W P : D) (st : Str)
abbrev env51 (R : Rm) (M : Rm) (t : List Sl) : Env := [.bo [] S0, .bo [] W, .bo [] P, .bo [] (.str st), .ow (roomD 0 R), .ow (modD M)] ++ t
theorem due_turn {R R' : Rm} {d : D} {w : Str} (k : Int) (L : List D) (s9 : Sl) (h9 : s9 = .no ∨ ∃ z, s9 = .ow z)
    (h : (∃ x, d = .tup [.str "come", .str x] ∧ ∀ T, f_l_come T [modD R, .str x] = .ok [modD R'] (.tup [.str w, .non])) ∨ (∃ x, d = .tup [.str "leave", .str x] ∧ ∀ T, f_l_leave T [modD R, .str x] = .ok [modD R'] (.tup [.str w, .non]))) :
    y_due (env51 S0 W P st R R [.bo [] (.int k), .ow (.lst L), .ow d, s9, .tb]) = .nx (env51 S0 W P st R R' [.bo [] (.int k), .ow (.lst L), .ow d, .ow (.tup [.str w, .non]), .tb]) := by
  rcases h with ⟨x, rfl, e⟩ | ⟨x, rfl, e⟩
  · rcases h9 with rfl | ⟨z, rfl⟩ <;> simp [y_due, env51, w_cc, e, allH_const, putAt_ev]
  · rcases h9 with rfl | ⟨z, rfl⟩ <;> simp [y_due, env51, w_lc, e, allH_const, putAt_ev]
theorem res_turn {R R' M : Rm} {d : D} (nd : noL d = true) {w : Str} (hw : PyData.strOk w = true) (k : Int) (L : List D) (e : ∀ T, f_l_tried_v19 T [roomD 0 R, d] = .ok [roomD 0 R'] (.tup [.str w, .non])) :
    y_res (env51 S0 W P st R M [.bo [] (.int k), .ow (.lst L), .ow d, .ow (.tup [.str w, .non]), .tb]) = .nx (env51 S0 W P st R' M [.bo [] (.int k), .ow (.lst L), .ow d, .ow (.tup [.str w, .non]), .tb]) := by
  have e2 := res_non w hw
  have nl : noL (.tup [.str w, .non]) = true := rfl
  have nd' := nk_of nd
  simp [y_res, env51, e, e2, allH_const, putAt_ev, nl, nd']
theorem Deed51.noL {p : Nat} {st : Str} {d : D} (h : Deed51 p st d) : Cz.noL d = true := by cases h <;> rfl
theorem look_turn {p : Nat} {R : Rm} (hI : In51 p st R) (k : Int) (L : List D) (d e : D) :
    y_look (env51 S0 W P st R R [.bo [] (.int k), .ow (.lst L), .ow d, .ow e, .tb]) = .nx (env51 S0 W P st R R [.bo [] (.int k), .ow (.lst L), .ow d, .ow e, .tb]) := by
  have e1 := people_ok hI.ok hI.pts (by decide) hI.out
  have e2 := listeners_told R 0
  have e3 := standings_ok hI.ok 0
  have k1 := room_nk (R := R) "listeners" (by decide +kernel)
  have k2 := room_nk (R := R) "standings" (by decide +kernel)
  have l1 : R.ps.length < 16777216 := by have := hI.ok.nine; omega
  have l2 : (stnd R.sc).length < 16777216 := by rw [(stnd_perm R.sc).length_eq]; have := sc_len hI.ok; omega
  generalize stnd R.sc = S at *
  simp [y_look, env51, e1, e2, e3, k1, k2, l1, l2]
theorem turn51 (ns : List Int) (hl : ns.length ≤ 63) (hb : ∀ z ∈ ns, Builtin.Int.intBits z ≤ 1048576) {p : Nat} {pool : List Str} (hp : pool.length = 11) (hg : ∀ y ∈ pool, goodN y = true) (hap : ∀ y ∈ pool, p < y.length ∧ Ap p st y)
    {j : Nat} (hj : j < 63) {R : Rm} (hI : In51 p st R) (s7 s8 s9 : Sl) (h9 : s9 = .no ∨ ∃ z, s9 = .ow z) : ∃ R' s7' s8' s9', In51 p st R' ∧ (s9' = .no ∨ ∃ z, s9' = .ow z) ∧
      b_l_law_k51_v2_1 (env51 (.scr (ns.map .int)) W (.lst (pool.map .str)) st R R [.bo [] (.int (1 + (j : Int))), s7, s8, s9, .tb]) = .nx (env51 (.scr (ns.map .int)) W (.lst (pool.map .str)) st R' R' [.bo [] (.int (1 + (j : Int))), s7', s8', s9', .tb]) := by
  have c1 : f_l_cell [.scr (ns.map .int), .int (1 + (j : Int))] = .ok (.own, .int (cellI ns (j + 1))) := by
    have := cell_ok ns (j + 1) (by omega) (by omega)
    rw [show ((j + 1 : Nat) : Int) = 1 + (j : Int) by omega] at this; exact this
  generalize cellI ns (j + 1) = c at c1
  obtain ⟨row, e5, r⟩ := draw_lit c [11, 8, 36, 5, 5, 2] (by decide) (by decide)
  cases r with
  | @cons _ r0 _ _ a0 b0 r =>
  cases r with
  | @cons _ r1 _ _ a1 b1 r =>
  cases r with
  | @cons _ r2 _ _ a2 b2 r =>
  cases r with
  | @cons _ r3 _ _ a3 b3 r =>
  cases r with
  | @cons _ r4 _ _ a4 b4 r =>
  cases r with
  | @cons _ r5 _ _ a5 b5 r =>
  cases r
  simp at e5
  obtain ⟨d, ed, hd⟩ := drawn51_ok (r1 := r1) (r3 := r3) (r4 := r4) (r5 := r5) ⟨a0, b0⟩ a2 hI.ok hp hg hap
  obtain ⟨R', w, hI', hw, e1, e2⟩ := deed51_ok hI hd
  have nd := hd.noL
  have nd1 := nk_of nd
  have md : mkS .own d = .ow d := by cases hd <;> rfl
  have z5 : atI [D.int r0, .int r1, .int r2, .int r3, .int r4, .int r5] 5 = some (.int r5) := rfl
  have t1 := due_turn (.scr (ns.map .int)) W (.lst (pool.map .str)) st (1 + (j : Int)) [.int r0, .int r1, .int r2, .int r3, .int r4, .int r5] s9 h9 e2
  have t2 := res_turn (.scr (ns.map .int)) W (.lst (pool.map .str)) st (M := R') nd hw (1 + (j : Int)) [.int r0, .int r1, .int r2, .int r3, .int r4, .int r5] e1
  have t3 := look_turn (.scr (ns.map .int)) W (.lst (pool.map .str)) st hI' (1 + (j : Int)) [.int r0, .int r1, .int r2, .int r3, .int r4, .int r5] d (.tup [.str w, .non])
  refine ⟨R', .ow (.lst [.int r0, .int r1, .int r2, .int r3, .int r4, .int r5]), .ow d, .ow (.tup [.str w, .non]), hI', .inr ⟨_, rfl⟩, ?_⟩
  rw [y_eq]
  simp only [env51, List.cons_append, List.nil_append] at t1 t2 t3 ⊢
  by_cases q5 : r5 = 0
  · subst q5
    simp [c1, e5, ed, md, t1, t2, t3, z5]
  · by_cases q6 : 50 < 1 + (j : Int)
    · simp [c1, e5, ed, md, t1, t2, t3, z5, q5, q6]
    · simp [c1, e5, ed, md, t1, t2, t3, z5, q5, q6]
end
theorem law_ok_k51 : ∀ ns : List Int, ns.length ≤ 63 → (∀ z ∈ ns, Builtin.Int.intBits z ≤ 1048576) → f_l_law_k51_v2 [.scr (ns.map D.int)] = .ok (.own, .bl true) := by
  intro ns hl hb
  have hlen : ns.length ≤ 16777216 := by omega
  have ht : 16 ≤ turns ns 16 ∧ turns ns 16 ≤ 63 := by unfold turns; omega
  have c0 : f_l_cell [.scr (ns.map D.int), .int 0] = .ok (.own, .int (cellI ns 0)) := cell_ok ns 0 (by omega) (by omega)
  have cc0 := cell_cel ns 0 (by omega) (by omega) hb
  obtain ⟨ws, pool, st, kb, eb, bg⟩ := begun_ok (cellI ns 0) cc0 (by omega)
  obtain ⟨p, hap⟩ := bg.apart
  have h6 := bg.wok.six
  have tk : trayOk ws = true := bg.wok.ok
  have mt : ∀ ρ (k : Kd), (consA (locE 1) nilA) ρ = .ok [(k, .lst (ws.map woodD))] → mkzE "Tray" f_p_Tray___init__ (consA (locE 1) nilA) ρ = .ok (.own, trayD ws) := fun ρ k h => by
    rw [make_tray ws bg.wok.len (by omega) h, if_pos tk]
  have mr := fun t => rinit_ok ws t
  have lm := lmodel_ok ws (by omega)
  have i0 : In51 p st (room0 ws) := ⟨room0_ok bg.wok, rfl, (fun w hw => nomatch hw), (fun x hx => nomatch hx)⟩
  have rg1 : rgOk 1 = true := rgOk_of (by omega) (by omega)
  have rg2 : rgOk (turns ns 16) = true := rgOk_of (by omega) (by omega)
  generalize hW : ws.map woodD = W at eb mt lm
  obtain ⟨ρ', hρ, e⟩ := loop_count (i := 6) (b := b_l_law_k51_v2_1) (fun j ρ => ∃ R s6 s7 s8 s9, In51 p st R ∧ (s9 = .no ∨ ∃ z, s9 = .ow z) ∧ ρ = env51 (.scr (ns.map D.int)) (.lst W) (.lst (pool.map .str)) st R R [s6, s7, s8, s9, .tb]) 1 ((turns ns 16).toNat - 1) 0
      (env51 (.scr (ns.map D.int)) (.lst W) (.lst (pool.map .str)) st (room0 ws) (room0 ws) [.no, .no, .no, .no, .tb]) (by
      rintro j ρ - hj ⟨R, t6, t7, t8, t9, hI, h9, rfl⟩
      obtain ⟨R', u7, u8, u9, hI', h9', et⟩ := turn51 (.lst W) st ns hl hb bg.len bg.good hap (j := j) (by omega) hI t7 t8 t9 h9
      exact ⟨_, ⟨R', _, u7, u8, u9, hI', h9', rfl⟩, .inl et⟩) ⟨_, .no, .no, .no, .no, i0, .inl rfl, rfl⟩
  obtain ⟨R, t6, t7, t8, t9, hI, h9, rfl⟩ := hρ
  have po := people_ok hI.ok hI.pts (by decide) hI.out
  have hB : b_l_law_k51_v2 [.bo [] (.scr (ns.map D.int)), .no, .no, .no, .no, .no, .no, .no, .no, .no, .tb] = .ri (env51 (.scr (ns.map D.int)) (.lst W) (.lst (pool.map .str)) st R R [t6, t7, t8, t9, .tb]) .own (.bl true) := by
    unfold b_l_law_k51_v2
    rw [seq_step (ρ' := [.bo [] (.scr (ns.map D.int)), .bo [] (.lst W), .bo [] (.lst (pool.map .str)), .bo [] (.str st), .no, .no, .no, .no, .no, .no, .tb]) (by cases kb <;> simp [c0, eb])]
    rw [seq_step (ρ' := [.bo [] (.scr (ns.map D.int)), .bo [] (.lst W), .bo [] (.lst (pool.map .str)), .bo [] (.str st), .ow (roomD 0 (room0 ws)), .no, .no, .no, .no, .no, .tb]) (by
      have := mt [.bo [] (.scr (ns.map D.int)), .bo [] (.lst W), .bo [] (.lst (pool.map .str)), .bo [] (.str st), .no, .no, .no, .no, .no, .no, .tb] (.bor []) (by simp)
      have mk : mkE "Room" f_p_Room___init__ (consA (mkzE "Tray" f_p_Tray___init__ (consA (locE 1) nilA)) nilA) [.bo [] (.scr (ns.map D.int)), .bo [] (.lst W), .bo [] (.lst (pool.map .str)), .bo [] (.str st), .no, .no, .no, .no, .no, .no, .tb] = .ok (.own, roomD 0 (room0 ws)) := by
        rw [mkE_ev, consA_ev, this]
        simp only [Cz.R.bind_ok, nilA_ev, List.map_cons, List.map_nil]
        rw [allG_const (r := .ok (roomF (room0 ws)) .non) mr]
      simp [mk])]
    rw [seq_step (ρ' := [.bo [] (.scr (ns.map D.int)), .bo [] (.lst W), .bo [] (.lst (pool.map .str)), .bo [] (.str st), .ow (roomD 0 (room0 ws)), .ow (modD (room0 ws)), .no, .no, .no, .no, .tb]) (by simp [lm])]
    simp at e
    rw [seq_step (ρ' := env51 (.scr (ns.map D.int)) (.lst W) (.lst (pool.map .str)) st R R [t6, t7, t8, t9, .tb]) (by
      simp [env51, many_ok, rg1, rg2, e])]
    simp [env51, po]
  simp [f_l_law_k51_v2, hB, env51]
end Cz
set_option maxHeartbeats 4000000
namespace Cz
open PySem PySem.Spec PyProof.Rows L2
structure Gs (K : PySem.W.Frag) (mg : Str → Option Value) (CA : String → Addr) : Prop where
  g_GREATEST : ∃ t, mg "GREATEST" = some (.int 9 t)
  g_LETTERS : ∃ t, mg "LETTERS" = some (.str "abcdefghijklmnopqrstuvwxyz" t)
  g_SEATS : ∃ t, mg "SEATS" = some (.int 9 t)
  g_all : mg "all" = none
  g_bool : mg "bool" = none
  g_int : mg "int" = none
  g_isinstance : mg "isinstance" = none
  g_len : mg "len" = none
  g_list : mg "list" = none
  g_max : mg "max" = none
  g_min : mg "min" = none
  g_range : mg "range" = none
  g_sorted : mg "sorted" = none
  g_str : mg "str" = none
  g_sum : mg "sum" = none
  g_tuple : mg "tuple" = none
  x_BadMany : ExG K mg CA "BadMany"
  x_BadName : ExG K mg CA "BadName"
  x_BadTray : ExG K mg CA "BadTray"
  x_Full : ExG K mg CA "Full"
  x_NoListener : ExG K mg CA "NoListener"
  x_Taken : ExG K mg CA "Taken"
  y_BadMany_BadName : PySem.W.exmOne K (.ref (CA "BadMany")) (.ref (CA "BadName")) = some false
  y_BadMany_Full : PySem.W.exmOne K (.ref (CA "BadMany")) (.ref (CA "Full")) = some false
  y_BadMany_NoListener : PySem.W.exmOne K (.ref (CA "BadMany")) (.ref (CA "NoListener")) = some false
  y_BadMany_Taken : PySem.W.exmOne K (.ref (CA "BadMany")) (.ref (CA "Taken")) = some false
  y_BadName_BadName : PySem.W.exmOne K (.ref (CA "BadName")) (.ref (CA "BadName")) = some true
  y_BadName_Full : PySem.W.exmOne K (.ref (CA "BadName")) (.ref (CA "Full")) = some false
  y_BadName_NoListener : PySem.W.exmOne K (.ref (CA "BadName")) (.ref (CA "NoListener")) = some false
  y_BadName_Taken : PySem.W.exmOne K (.ref (CA "BadName")) (.ref (CA "Taken")) = some false
  y_Full_BadName : PySem.W.exmOne K (.ref (CA "Full")) (.ref (CA "BadName")) = some false
  y_Full_Full : PySem.W.exmOne K (.ref (CA "Full")) (.ref (CA "Full")) = some true
  y_Full_NoListener : PySem.W.exmOne K (.ref (CA "Full")) (.ref (CA "NoListener")) = some false
  y_Full_Taken : PySem.W.exmOne K (.ref (CA "Full")) (.ref (CA "Taken")) = some false
  y_NoListener_BadName : PySem.W.exmOne K (.ref (CA "NoListener")) (.ref (CA "BadName")) = some false
  y_NoListener_Full : PySem.W.exmOne K (.ref (CA "NoListener")) (.ref (CA "Full")) = some false
  y_NoListener_NoListener : PySem.W.exmOne K (.ref (CA "NoListener")) (.ref (CA "NoListener")) = some true
  y_NoListener_Taken : PySem.W.exmOne K (.ref (CA "NoListener")) (.ref (CA "Taken")) = some false
  y_Taken_BadName : PySem.W.exmOne K (.ref (CA "Taken")) (.ref (CA "BadName")) = some false
  y_Taken_Full : PySem.W.exmOne K (.ref (CA "Taken")) (.ref (CA "Full")) = some false
  y_Taken_NoListener : PySem.W.exmOne K (.ref (CA "Taken")) (.ref (CA "NoListener")) = some false
  y_Taken_Taken : PySem.W.exmOne K (.ref (CA "Taken")) (.ref (CA "Taken")) = some true
  fl_box : ∀ C ∈ ["Room"], ClsF K C "box"
  fl_ended : ∀ C ∈ ["Room"], ClsF K C "ended"
  fl_filled : ∀ C ∈ ["Room"], ClsF K C "filled"
  fl_given : ∀ C ∈ ["Sayings"], ClsF K C "given"
  fl_heard : ∀ C ∈ ["Room"], ClsF K C "heard"
  fl_lifted : ∀ C ∈ ["Room"], ClsF K C "lifted"
  fl_people : ∀ C ∈ ["Room"], ClsF K C "people"
  fl_scores : ∀ C ∈ ["Room"], ClsF K C "scores"
  fl_size : ∀ C ∈ ["Sayings"], ClsF K C "size"
  fl_stock : ∀ C ∈ ["Tray"], ClsF K C "stock"
  fl_wrote : ∀ C ∈ ["Room"], ClsF K C "wrote"
section
variable {P : Program} {w : World} {K : PySem.W.Frag} {mg : Str → Option Value} {base : Heap} {CA : String → Addr}
theorem sc_p_look_many : FnScope ["censers"] ["censers"] (defScope (topS 25)) := ⟨rfl, rfl, rfl, by decide +kernel, rfl, by decide +kernel, by decide +kernel⟩
theorem w_p_look_many (G : Gs K mg CA)  {f : Addr} {fd : FuncData} (F : FunD K "look_many" "look_many" (defArgs (topS 25)) (defBody (topS 25)) (defScope (topS 25)) [] [] f fd) : FnOk P w K mg base (L2.CX P w) 1 f fd ["censers"] (spF K CA f_p_look_many 1) :=
  have sc := sc_p_look_many
  fn_ok (k := 0) (N := ["censers"]) (ps := ["censers"]) (body := b_p_look_many) F sc (fun cdv A outer s H E hr => by
    have hu := hu65 hr
    exact (ss_one (s_if (t_not (t_chn hu e_int (e_loc 0) (e_gint G.g_GREATEST))) (ss_one (s_raise (m := "") (C := 0) rfl (takes_of rfl rfl rfl rfl) PySem.F.excBase_ValueError G.x_BadMany.i G.x_BadMany.g G.x_BadMany.k G.x_BadMany.r)) ss_nil))) (fun ds h => mkF_of h) (by decide)
theorem sc_p_Sayings___init__ : FnScope ["self", "censers"] ["self", "censers"] (defScope (inClass (topS 41) 0)) := ⟨rfl, rfl, rfl, by decide +kernel, rfl, by decide +kernel, by decide +kernel⟩
theorem w_p_Sayings___init__ (G : Gs K mg CA) (c_p_look_many : FnG P w K mg base CA f_p_look_many 1 "look_many" []) {f : Addr} {fd : FuncData} (F : FunD K "__init__" "Sayings.__init__" (defArgs (inClass (topS 41) 0)) (defBody (inClass (topS 41) 0)) (defScope (inClass (topS 41) 0)) [] [] f fd) : FnOk P w K mg base (L2.CX P w) 2 f fd ["self", "censers"] (spG K CA "Sayings" f_p_Sayings___init__ 2) :=
  have sc := sc_p_Sayings___init__
  fn_okG (k := 1) (N := ["self", "censers"]) (ps := ["self", "censers"]) (body := b_p_Sayings___init__) F sc (fun cdv A outer s H E hr => by
    have hu := hu65 hr
    exact (ss_cons (s_drop (e_call (takes_of rfl rfl rfl rfl) (hr.mono (by decide)) c_p_look_many (a_cons (e_loc 1) a_nil)))
    (ss_cons (s_stf G.fl_size (e_loc 1) (p_loc 0))
    (ss_one (s_stf G.fl_given (e_lst a_nil) (p_loc 0)))))) (fun t fs ds h => mkG_of h) (by decide)
theorem sc_p_good_name : FnScope ["name", "sign"] ["name"] (defScope (topS 44)) := ⟨rfl, rfl, rfl, by decide +kernel, rfl, by decide +kernel, by decide +kernel⟩
theorem w_p_good_name (G : Gs K mg CA)  {f : Addr} {fd : FuncData} (F : FunD K "good_name" "good_name" (defArgs (topS 44)) (defBody (topS 44)) (defScope (topS 44)) [] [] f fd) : FnOk P w K mg base (L2.CX P w) 1 f fd ["name"] (spF K CA f_p_good_name 1) :=
  have sc := sc_p_good_name
  fn_ok (k := 0) (N := ["name", "sign"]) (ps := ["name"]) (body := b_p_good_name) F sc (fun cdv A outer s H E hr => by
    have hu := hu65 hr
    exact (ss_one (s_ret (eb_and (e_chn hu e_int (e_blt cLen oLen G.g_len (by decide +kernel) (a_cons (e_loc 0) a_nil)) e_int) (eb_one (eb_val (e_blt (cr_all rfl) oAll G.g_all (by decide +kernel) (a_cons (e_lc (own := [("sign", 1)]) rfl sc.nd (i_seq (e_loc 0)) (blkOk_by (N := ["name", "sign"]) (sc := (defScope (topS 44))) (by decide +kernel)) (fun _ _ _ _ _ => (g_nm 1 sc.nd)) (by decide) (fun _ _ _ _ _ => ts_nil) (fun _ _ _ _ _ => (e_cmp hu (e_loc 1) (e_gstr G.g_LETTERS)))) a_nil)))))))) (fun ds h => mkF_of h) (by decide)
theorem sc_p_Tray___init__ : FnScope ["self", "woods", "name", "packets"] ["self", "woods"] (defScope (inClass (topS 45) 0)) := ⟨rfl, rfl, rfl, by decide +kernel, rfl, by decide +kernel, by decide +kernel⟩
theorem w_p_Tray___init__ (G : Gs K mg CA) (c_p_good_name : FnG P w K mg base CA f_p_good_name 1 "good_name" []) {f : Addr} {fd : FuncData} (F : FunD K "__init__" "Tray.__init__" (defArgs (inClass (topS 45) 0)) (defBody (inClass (topS 45) 0)) (defScope (inClass (topS 45) 0)) [] [] f fd) : FnOk P w K mg base (L2.CX P w) 2 f fd ["self", "woods"] (spG K CA "Tray" f_p_Tray___init__ 2) :=
  have sc := sc_p_Tray___init__
  fn_okG (k := 1) (N := ["self", "woods", "name", "packets"]) (ps := ["self", "woods"]) (body := b_p_Tray___init__) F sc (fun cdv A outer s H E hr => by
    have hu := hu65 hr
    exact (ss_cons (s_if (t_not (t_chn hu e_int (e_blt cLen oLen G.g_len (by decide +kernel) (a_cons (e_loc 1) a_nil)) e_int)) (ss_one (s_raise (m := "") (C := 0) rfl (takes_of rfl rfl rfl rfl) PySem.F.excBase_ValueError G.x_BadTray.i G.x_BadTray.g G.x_BadTray.k G.x_BadTray.r)) ss_nil)
    (ss_cons (s_stf G.fl_stock e_dnw (p_loc 0))
    (ss_one (s_for (passes_of rfl) rfl (i_seq (e_loc 1)) (g_tup rfl (tgLen_cons (tgLen_cons tgLen_nil)) (gs_cons (g_nm 2 sc.nd) (gs_cons (g_nm 3 sc.nd) gs_nil))) (ss_cons (s_if (t_pw (tw_or (t_not (t_val (e_call (takes_of rfl rfl rfl rfl) (hr.mono (by decide)) c_p_good_name (a_cons (e_loc 2) a_nil)))) (tw_or (t_cmp hu (e_loc 2) (e_fld G.fl_stock (e_loc 0))) (tw_or1 (t_not (t_chn hu e_int (e_loc 3) e_int)))))) (ss_one (s_raise (m := "") (C := 0) rfl (takes_of rfl rfl rfl rfl) PySem.F.excBase_ValueError G.x_BadTray.i G.x_BadTray.g G.x_BadTray.k G.x_BadTray.r)) ss_nil)
    (ss_one (s_sto hu (e_loc 3) (p_fld G.fl_stock (p_loc 0)) (e_loc 2))))))))) (fun t fs ds h => mkG_of h) (by decide)
theorem sc_p_Room___init__ : FnScope ["self", "tray"] ["self", "tray"] (defScope (inClass (topS 48) 0)) := ⟨rfl, rfl, rfl, by decide +kernel, rfl, by decide +kernel, by decide +kernel⟩
theorem w_p_Room___init__ (G : Gs K mg CA)  {f : Addr} {fd : FuncData} (F : FunD K "__init__" "Room.__init__" (defArgs (inClass (topS 48) 0)) (defBody (inClass (topS 48) 0)) (defScope (inClass (topS 48) 0)) [] [] f fd) : FnOk P w K mg base (L2.CX P w) 1 f fd ["self", "tray"] (spG K CA "Room" f_p_Room___init__ 2) :=
  have sc := sc_p_Room___init__
  fn_okG (k := 0) (N := ["self", "tray"]) (ps := ["self", "tray"]) (body := b_p_Room___init__) F sc (fun cdv A outer s H E hr => by
    have hu := hu65 hr
    exact (ss_cons (s_stf G.fl_box (e_loc 1) (p_loc 0))
    (ss_cons (s_stf G.fl_people (e_lst a_nil) (p_loc 0))
    (ss_cons (s_stf G.fl_scores e_dnw (p_loc 0))
    (ss_cons (s_stf G.fl_ended (e_lst a_nil) (p_loc 0))
    (ss_cons (s_stf G.fl_filled e_int (p_loc 0))
    (ss_cons (s_stf G.fl_lifted (e_lst a_nil) (p_loc 0))
    (ss_cons (s_stf G.fl_heard e_dnw (p_loc 0))
    (ss_one (s_stf G.fl_wrote e_dnw (p_loc 0))))))))))) (fun t fs ds h => mkG_of h) (by decide)
theorem sc_p_Room_look_listener : FnScope ["self", "name"] ["self", "name"] (defScope (inClass (topS 48) 1)) := ⟨rfl, rfl, rfl, by decide +kernel, rfl, by decide +kernel, by decide +kernel⟩
theorem w_p_Room_look_listener (G : Gs K mg CA)  {f : Addr} {fd : FuncData} (F : FunD K "look_listener" "Room.look_listener" (defArgs (inClass (topS 48) 1)) (defBody (inClass (topS 48) 1)) (defScope (inClass (topS 48) 1)) [] [] f fd) : FnOk P w K mg base (L2.CX P w) 1 f fd ["self", "name"] (spF K CA f_p_Room_look_listener 2) :=
  have sc := sc_p_Room_look_listener
  fn_ok (k := 0) (N := ["self", "name"]) (ps := ["self", "name"]) (body := b_p_Room_look_listener) F sc (fun cdv A outer s H E hr => by
    have hu := hu65 hr
    exact (ss_one (s_if (t_cmp hu (e_loc 1) (e_fld G.fl_scores (e_loc 0))) (ss_one (s_raise (m := "") (C := 0) rfl (takes_of rfl rfl rfl rfl) PySem.F.excBase_ValueError G.x_NoListener.i G.x_NoListener.g G.x_NoListener.k G.x_NoListener.r)) ss_nil))) (fun ds h => mkF_of h) (by decide)
theorem sc_p_Room_come : FnScope ["self", "name"] ["self", "name"] (defScope (inClass (topS 48) 4)) := ⟨rfl, rfl, rfl, by decide +kernel, rfl, by decide +kernel, by decide +kernel⟩
theorem w_p_Room_come (G : Gs K mg CA) (c_p_good_name : FnG P w K mg base CA f_p_good_name 1 "good_name" []) (c_p_Sayings___init__ : MtI P w K mg base CA "Sayings" f_p_Sayings___init__ 2) {f : Addr} {fd : FuncData} (F : FunD K "come" "Room.come" (defArgs (inClass (topS 48) 4)) (defBody (inClass (topS 48) 4)) (defScope (inClass (topS 48) 4)) [] [] f fd) : FnOk P w K mg base (L2.CX P w) 4 f fd ["self", "name"] (spG K CA "Room" f_p_Room_come 2) :=
  have sc := sc_p_Room_come
  fn_okG (k := 3) (N := ["self", "name"]) (ps := ["self", "name"]) (body := b_p_Room_come) F sc (fun cdv A outer s H E hr => by
    have hu := hu65 hr
    exact (ss_cons (s_if (t_not (t_val (e_call (takes_of rfl rfl rfl rfl) (hr.mono (by decide)) c_p_good_name (a_cons (e_loc 1) a_nil)))) (ss_one (s_raise (m := "") (C := 0) rfl (takes_of rfl rfl rfl rfl) PySem.F.excBase_ValueError G.x_BadName.i G.x_BadName.g G.x_BadName.k G.x_BadName.r)) ss_nil)
    (ss_cons (s_if (t_cmp hu (e_loc 1) (e_fld G.fl_scores (e_loc 0))) (ss_one (s_raise (m := "") (C := 0) rfl (takes_of rfl rfl rfl rfl) PySem.F.excBase_ValueError G.x_Taken.i G.x_Taken.g G.x_Taken.k G.x_Taken.r)) ss_nil)
    (ss_cons (s_if (t_cmp hu (e_blt cLen oLen G.g_len (by decide +kernel) (a_cons (e_fld G.fl_people (e_loc 0)) a_nil)) (e_gint G.g_SEATS)) (ss_one (s_raise (m := "") (C := 0) rfl (takes_of rfl rfl rfl rfl) PySem.F.excBase_ValueError G.x_Full.i G.x_Full.g G.x_Full.k G.x_Full.r)) ss_nil)
    (ss_cons (s_mt (T := .l) PySem.F.plainAttrs_list PySem.F.slot_list_append PySem.F.type_list_append mt_append ok_app (p_fld G.fl_people (p_loc 0)) (a_cons (e_loc 1) a_nil))
    (ss_cons (s_sto hu e_int (p_fld G.fl_scores (p_loc 0)) (e_loc 1))
    (ss_one (s_if (t_cmp hu (e_fld G.fl_filled (e_loc 0)) e_int) (ss_one (s_sto hu (e_mk (takes_of rfl rfl rfl rfl) (hr.mono (by decide)) c_p_Sayings___init__ (a_cons (e_fld G.fl_filled (e_loc 0)) a_nil)) (p_fld G.fl_heard (p_loc 0)) (e_loc 1))) ss_nil)))))))) (fun t fs ds h => mkG_of h) (by decide)
theorem sc_p_Room_leave : FnScope ["self", "name"] ["self", "name"] (defScope (inClass (topS 48) 5)) := ⟨rfl, rfl, rfl, by decide +kernel, rfl, by decide +kernel, by decide +kernel⟩
theorem w_p_Room_leave (G : Gs K mg CA) (c_p_Room_look_listener : MtR P w K mg base CA "Room" "look_listener" f_p_Room_look_listener 1) {f : Addr} {fd : FuncData} (F : FunD K "leave" "Room.leave" (defArgs (inClass (topS 48) 5)) (defBody (inClass (topS 48) 5)) (defScope (inClass (topS 48) 5)) [] [] f fd) : FnOk P w K mg base (L2.CX P w) 2 f fd ["self", "name"] (spG K CA "Room" f_p_Room_leave 2) :=
  have sc := sc_p_Room_leave
  fn_okG (k := 1) (N := ["self", "name"]) (ps := ["self", "name"]) (body := b_p_Room_leave) F sc (fun cdv A outer s H E hr => by
    have hu := hu65 hr
    exact (ss_cons (s_drop (e_rm (takes_of rfl rfl rfl rfl) (hr.mono (by decide)) c_p_Room_look_listener (e_loc 0) (a_cons (e_loc 1) a_nil)))
    (ss_cons (s_mt (T := .l) PySem.F.plainAttrs_list PySem.F.slot_list_remove PySem.F.type_list_remove mt_removeS ok_remS (p_fld G.fl_people (p_loc 0)) (a_cons (e_loc 1) a_nil))
    (ss_cons (s_dpop (p_fld G.fl_scores (p_loc 0)) (e_loc 1))
    (ss_cons (s_dpop2 (p_fld G.fl_heard (p_loc 0)) (e_loc 1) e_non)
    (ss_one (s_dpop2 (p_fld G.fl_wrote (p_loc 0)) (e_loc 1) e_non))))))) (fun t fs ds h => mkG_of h) (by decide)
theorem sc_p_Room_listeners : FnScope ["self"] ["self"] (defScope (inClass (topS 48) 14)) := ⟨rfl, rfl, rfl, by decide +kernel, rfl, by decide +kernel, by decide +kernel⟩
theorem w_p_Room_listeners (G : Gs K mg CA)  {f : Addr} {fd : FuncData} (F : FunD K "listeners" "Room.listeners" (defArgs (inClass (topS 48) 14)) (defBody (inClass (topS 48) 14)) (defScope (inClass (topS 48) 14)) [] [] f fd) : FnOk P w K mg base (L2.CX P w) 1 f fd ["self"] (spF K CA f_p_Room_listeners 1) :=
  have sc := sc_p_Room_listeners
  fn_ok (k := 0) (N := ["self"]) (ps := ["self"]) (body := b_p_Room_listeners) F sc (fun cdv A outer s H E hr => by
    have hu := hu65 hr
    exact (ss_one (s_ret (e_bty call_list_of oLst G.g_list (by decide +kernel) (a_cons (e_fld G.fl_people (e_loc 0)) a_nil))))) (fun ds h => mkF_of h) (by decide)
theorem sc_p_Room_points : FnScope ["self", "name"] ["self", "name"] (defScope (inClass (topS 48) 15)) := ⟨rfl, rfl, rfl, by decide +kernel, rfl, by decide +kernel, by decide +kernel⟩
theorem w_p_Room_points (G : Gs K mg CA) (c_p_Room_look_listener : MtR P w K mg base CA "Room" "look_listener" f_p_Room_look_listener 1) {f : Addr} {fd : FuncData} (F : FunD K "points" "Room.points" (defArgs (inClass (topS 48) 15)) (defBody (inClass (topS 48) 15)) (defScope (inClass (topS 48) 15)) [] [] f fd) : FnOk P w K mg base (L2.CX P w) 2 f fd ["self", "name"] (spF K CA f_p_Room_points 2) :=
  have sc := sc_p_Room_points
  fn_ok (k := 1) (N := ["self", "name"]) (ps := ["self", "name"]) (body := b_p_Room_points) F sc (fun cdv A outer s H E hr => by
    have hu := hu65 hr
    exact (ss_cons (s_drop (e_rm (takes_of rfl rfl rfl rfl) (hr.mono (by decide)) c_p_Room_look_listener (e_loc 0) (a_cons (e_loc 1) a_nil)))
    (ss_one (s_ret (e_idx hu (e_fld G.fl_scores (e_loc 0)) (e_loc 1)))))) (fun ds h => mkF_of h) (by decide)
theorem sc_p_Room_standings : FnScope ["self", "pairs", "name", "%"] ["self"] (defScope (inClass (topS 48) 16)) := ⟨rfl, rfl, rfl, by decide +kernel, rfl, by decide +kernel, by decide +kernel⟩
theorem w_p_Room_standings (G : Gs K mg CA)  (st : StF K mg base) {fd : FuncData} (F : FunD K "standings" "Room.standings" (defArgs (inClass (topS 48) 16)) (defBody (inClass (topS 48) 16)) (defScope (inClass (topS 48) 16)) [] [] (He.fAd K stD) fd) : FnOk P w K mg base (L2.CX P w) 1 (He.fAd K stD) fd ["self"] (spT K CA f_p_Room_standings 1) :=
  have sc := sc_p_Room_standings
  fn_okS (k := 0) (N := ["self", "pairs", "name", "%"]) (ps := ["self"]) (body := b_p_Room_standings) F sc (fun cdv A outer s H E hcv hci hr => by
    have hu := hu65 hr
    exact (ss_cons (s_setlc (own := [("name", 2)]) rfl sc.nd (i_seq (e_fld G.fl_people (e_loc 0))) (blkOk_by (N := ["self", "pairs", "name", "%"]) (sc := (defScope (inClass (topS 48) 16))) (by decide +kernel)) (fun _ _ _ _ _ => (g_nm 2 sc.nd)) (by decide) (fun _ _ _ _ _ => ts_nil) (fun _ _ _ _ _ => (e_tup (a_cons (e_loc 2) (a_cons (e_idx hu (e_fld G.fl_scores (e_loc 0)) (e_loc 2)) a_nil)))) (sw_true rfl rfl rfl (by decide +kernel)))
    (ss_one (s_retI (m_srtS st hcv hci hr G.g_sorted (e_loc 1)))))) (fun ds h => mkT_of h) (by decide) (by decide)
theorem sc_l_draw : FnScope ["_law_cell_here", "_law_limits", "_law_rest", "_law_seed", "_law_row", "_law_limit"] ["_law_cell_here", "_law_limits"] (defScope (topS 50)) := ⟨rfl, rfl, rfl, by decide +kernel, rfl, by decide +kernel, by decide +kernel⟩
theorem w_l_draw (G : Gs K mg CA)  {f : Addr} {fd : FuncData} (F : FunD K "_law_draw" "_law_draw" (defArgs (topS 50)) (defBody (topS 50)) (defScope (topS 50)) [] [] f fd) : FnOk P w K mg base (L2.CX P w) 1 f fd ["_law_cell_here", "_law_limits"] (spF K CA f_l_draw 2) :=
  have sc := sc_l_draw
  fn_ok (k := 0) (N := ["_law_cell_here", "_law_limits", "_law_rest", "_law_seed", "_law_row", "_law_limit"]) (ps := ["_law_cell_here", "_law_limits"]) (body := b_l_draw) F sc (fun cdv A outer s H E hr => by
    have hu := hu65 hr
    exact (ss_cons (s_set 2 sc.nd (e_ite (t_cmp hu (e_loc 0) (e_bin e_int e_int)) (e_loc 0) e_int))
    (ss_cons (s_set 3 sc.nd (e_bin (e_bin (e_bin (e_bin (e_loc 0) e_int) e_int) e_int) e_int))
    (ss_cons (s_set 4 sc.nd (e_lst a_nil))
    (ss_cons (s_for (passes_of rfl) rfl (i_seq (e_loc 1)) (g_nm 5 sc.nd) (ss_cons (s_set 3 sc.nd (e_bin (e_bin (e_bin (e_bin (e_bin (e_loc 3) (e_loc 3)) e_int) (e_bin (e_loc 3) e_int)) e_int) e_int))
    (ss_cons (s_app 4 (e_ite (t_cmp hu (e_loc 2) e_int) (e_bin (e_loc 2) (e_loc 5)) (e_bin (e_bin (e_bin (e_loc 3) e_int) (e_bin (e_bin (e_loc 3) e_int) e_int)) (e_loc 5))))
    (ss_one (s_set 2 sc.nd (e_bin (e_loc 2) (e_loc 5)))))))
    (ss_one (s_retV 4))))))) (fun ds h => mkF_of h) (by decide)
theorem sc_l_cell : FnScope ["_law_script", "_law_k"] ["_law_script", "_law_k"] (defScope (topS 51)) := ⟨rfl, rfl, rfl, by decide +kernel, rfl, by decide +kernel, by decide +kernel⟩
theorem w_l_cell (G : Gs K mg CA)  {f : Addr} {fd : FuncData} (F : FunD K "_law_cell" "_law_cell" (defArgs (topS 51)) (defBody (topS 51)) (defScope (topS 51)) [] [] f fd) : FnOk P w K mg base (L2.CX P w) 1 f fd ["_law_script", "_law_k"] (spF K CA f_l_cell 2) :=
  have sc := sc_l_cell
  fn_ok (k := 0) (N := ["_law_script", "_law_k"]) (ps := ["_law_script", "_law_k"]) (body := b_l_cell) F sc (fun cdv A outer s H E hr => by
    have hu := hu65 hr
    exact (ss_cons (s_if (t_cmp hu (e_loc 1) (e_blt cLen oLen G.g_len (by decide +kernel) (a_cons (e_loc 0) a_nil))) (ss_one (s_ret (e_idx hu (e_loc 0) (e_loc 1)))) ss_nil)
    (ss_one (s_ret (e_bin (e_bin (e_bin (e_bin (e_blt (cr_sum rfl) oSum G.g_sum (by decide +kernel) (a_cons (e_loc 0) a_nil)) e_int) e_int) (e_bin (e_blt cLen oLen G.g_len (by decide +kernel) (a_cons (e_loc 0) a_nil)) e_int)) (e_bin (e_loc 1) e_int)))))) (fun ds h => mkF_of h) (by decide)
theorem sc_l_many : FnScope ["_law_script", "_law_few"] ["_law_script", "_law_few"] (defScope (topS 52)) := ⟨rfl, rfl, rfl, by decide +kernel, rfl, by decide +kernel, by decide +kernel⟩
theorem w_l_many (G : Gs K mg CA)  {f : Addr} {fd : FuncData} (F : FunD K "_law_many" "_law_many" (defArgs (topS 52)) (defBody (topS 52)) (defScope (topS 52)) [] [] f fd) : FnOk P w K mg base (L2.CX P w) 1 f fd ["_law_script", "_law_few"] (spF K CA f_l_many 2) :=
  have sc := sc_l_many
  fn_ok (k := 0) (N := ["_law_script", "_law_few"]) (ps := ["_law_script", "_law_few"]) (body := b_l_many) F sc (fun cdv A outer s H E hr => by
    have hu := hu65 hr
    exact (ss_one (s_ret (e_blt (cMax rfl) oMax G.g_max (by decide +kernel) (a_cons (e_loc 1) (a_cons (e_blt (cMin rfl) oMin G.g_min (by decide +kernel) (a_cons (e_blt cLen oLen G.g_len (by decide +kernel) (a_cons (e_loc 0) a_nil)) (a_cons e_int a_nil))) a_nil)))))) (fun ds h => mkF_of h) (by decide)
theorem sc_l_num : FnScope ["_law_found"] ["_law_found"] (defScope (topS 53)) := ⟨rfl, rfl, rfl, by decide +kernel, rfl, by decide +kernel, by decide +kernel⟩
theorem w_l_num (G : Gs K mg CA)  {f : Addr} {fd : FuncData} (F : FunD K "_law_num" "_law_num" (defArgs (topS 53)) (defBody (topS 53)) (defScope (topS 53)) [] [] f fd) : FnOk P w K mg base (L2.CX P w) 1 f fd ["_law_found"] (spF K CA f_l_num 1) :=
  have sc := sc_l_num
  fn_ok (k := 0) (N := ["_law_found"]) (ps := ["_law_found"]) (body := b_l_num) F sc (fun cdv A outer s H E hr => by
    have hu := hu65 hr
    exact (ss_one (s_ret (eb_and (eb_val (e_isi (T := "int") G.g_isinstance G.g_int (by decide +kernel) (e_loc 0))) (eb_one (eb_not (eb_val (e_isi (T := "bool") G.g_isinstance G.g_bool (by decide +kernel) (e_loc 0))))))))) (fun ds h => mkF_of h) (by decide)
theorem sc_l_split : FnScope ["_law_cell_here", "_law_parts", "_law_wide", "_law_side", "_law_size", "_law_found", "_law_big", "_law_k"] ["_law_cell_here", "_law_parts", "_law_wide"] (defScope (topS 54)) := ⟨rfl, rfl, rfl, by decide +kernel, rfl, by decide +kernel, by decide +kernel⟩
theorem w_l_split (G : Gs K mg CA)  {f : Addr} {fd : FuncData} (F : FunD K "_law_split" "_law_split" (defArgs (topS 54)) (defBody (topS 54)) (defScope (topS 54)) [.int 0] [] f fd) : FnOk P w K mg base (L2.CX P w) 1 f fd ["_law_cell_here", "_law_parts", "_law_wide"] (spF K CA f_l_split 3) :=
  have sc := sc_l_split
  fn_ok (k := 0) (N := ["_law_cell_here", "_law_parts", "_law_wide", "_law_side", "_law_size", "_law_found", "_law_big", "_law_k"]) (ps := ["_law_cell_here", "_law_parts", "_law_wide"]) (body := b_l_split) F sc (fun cdv A outer s H E hr => by
    have hu := hu65 hr
    exact (ss_cons (s_set 3 sc.nd (e_bin (e_bin e_int e_int) (e_bin e_int e_int)))
    (ss_cons (s_set 4 sc.nd (e_idx hu (e_lst (a_cons (e_bin e_int e_int) (a_cons (e_loc 3) (a_cons (e_bin (e_bin (e_bin (e_loc 3) (e_loc 3)) (e_loc 3)) (e_loc 3)) a_nil)))) (e_loc 2)))
    (ss_cons (s_set 5 sc.nd (e_lst a_nil))
    (ss_cons (s_set 6 sc.nd (e_cmp hu (e_loc 0) (e_bin e_int e_int)))
    (ss_cons (s_for (passes_of rfl) rfl (i_rng1 G.g_range (e_loc 1)) (g_nm 7 sc.nd) (ss_one (s_if (t_val (e_loc 6)) (ss_cons (s_app 5 (e_bin (e_bin e_int e_int) (e_bin (e_loc 0) (e_loc 4))))
    (ss_one (s_set 0 sc.nd (e_bin (e_loc 0) (e_loc 4))))) (ss_one (s_app 5 (e_bin (e_bin (e_loc 0) (e_bin (e_bin e_int (e_loc 7)) e_int)) (e_bin e_int (e_loc 7))))))))
    (ss_one (s_retV 5)))))))) (fun ds h => mkF_of h) (by decide)
theorem sc_l_refused : FnScope ["_law_found"] ["_law_found"] (defScope (topS 55)) := ⟨rfl, rfl, rfl, by decide +kernel, rfl, by decide +kernel, by decide +kernel⟩
theorem w_l_refused (G : Gs K mg CA)  {f : Addr} {fd : FuncData} (F : FunD K "_law_refused" "_law_refused" (defArgs (topS 55)) (defBody (topS 55)) (defScope (topS 55)) [] [] f fd) : FnOk P w K mg base (L2.CX P w) 1 f fd ["_law_found"] (spF K CA f_l_refused 1) :=
  have sc := sc_l_refused
  fn_ok (k := 0) (N := ["_law_found"]) (ps := ["_law_found"]) (body := b_l_refused) F sc (fun cdv A outer s H E hr => by
    have hu := hu65 hr
    exact (ss_one (s_ret (eb_and (eb_val (e_isi (T := "list") G.g_isinstance G.g_list (by decide +kernel) (e_loc 0))) (eb_and (e_cmp hu (e_blt cLen oLen G.g_len (by decide +kernel) (a_cons (e_loc 0) a_nil)) e_int) (eb_one (e_cmp hu (e_idx hu (e_loc 0) e_int) e_str))))))) (fun ds h => mkF_of h) (by decide)
theorem sc_l_names : FnScope ["_law_cell_here", "_law_count", "_law_letters", "_law_j", "_law_row", "_law_found", "_law_size", "_law_signs", "_law_k", "_law_sign"] ["_law_cell_here", "_law_count"] (defScope (topS 56)) := ⟨rfl, rfl, rfl, by decide +kernel, rfl, by decide +kernel, by decide +kernel⟩
theorem w_l_names (G : Gs K mg CA) (c_l_draw : FnG P w K mg base CA f_l_draw 1 "_law_draw" []) {f : Addr} {fd : FuncData} (F : FunD K "_law_names" "_law_names" (defArgs (topS 56)) (defBody (topS 56)) (defScope (topS 56)) [] [] f fd) : FnOk P w K mg base (L2.CX P w) 2 f fd ["_law_cell_here", "_law_count"] (spF K CA f_l_names 2) :=
  have sc := sc_l_names
  fn_ok (k := 1) (N := ["_law_cell_here", "_law_count", "_law_letters", "_law_j", "_law_row", "_law_found", "_law_size", "_law_signs", "_law_k", "_law_sign"]) (ps := ["_law_cell_here", "_law_count"]) (body := b_l_names) F sc (fun cdv A outer s H E hr => by
    have hu := hu65 hr
    exact (ss_cons (s_set 2 sc.nd e_str)
    (ss_cons (s_set 4 sc.nd (e_call (takes_of rfl rfl rfl rfl) (hr.mono (by decide)) c_l_draw (a_cons (e_loc 0) (a_cons (e_bin (e_bin (e_lst (a_cons e_int (a_cons e_int (a_cons e_int (a_cons e_int a_nil))))) (e_lc (own := [("_law_j", 3)]) rfl sc.nd (i_rng1 G.g_range (e_loc 1)) (blkOk_by (N := ["_law_cell_here", "_law_count", "_law_letters", "_law_j", "_law_row", "_law_found", "_law_size", "_law_signs", "_law_k", "_law_sign"]) (sc := (defScope (topS 56))) (by decide +kernel)) (fun _ _ _ _ _ => (g_nm 3 sc.nd)) (by decide) (fun _ _ _ _ _ => ts_nil) (fun _ _ _ _ _ => e_int))) (e_lc (own := [("_law_j", 3)]) rfl sc.nd (i_rng1 G.g_range (e_bin e_int (e_loc 1))) (blkOk_by (N := ["_law_cell_here", "_law_count", "_law_letters", "_law_j", "_law_row", "_law_found", "_law_size", "_law_signs", "_law_k", "_law_sign"]) (sc := (defScope (topS 56))) (by decide +kernel)) (fun _ _ _ _ _ => (g_nm 3 sc.nd)) (by decide) (fun _ _ _ _ _ => ts_nil) (fun _ _ _ _ _ => e_int))) a_nil))))
    (ss_cons (s_set 5 sc.nd (e_lst a_nil))
    (ss_cons (s_for (passes_of rfl) rfl (i_rng1 G.g_range (e_loc 1)) (g_nm 3 sc.nd) (ss_cons (s_set 6 sc.nd (e_bin (e_bin (e_idx hu (e_loc 4) e_int) e_int) (e_bin (e_idx hu (e_loc 4) (e_bin e_int (e_loc 3))) (e_bin e_int (e_idx hu (e_loc 4) e_int)))))
    (ss_cons (s_setlc (own := [("_law_k", 8)]) rfl sc.nd (i_rng1 G.g_range (e_loc 6)) (blkOk_by (N := ["_law_cell_here", "_law_count", "_law_letters", "_law_j", "_law_row", "_law_found", "_law_size", "_law_signs", "_law_k", "_law_sign"]) (sc := (defScope (topS 56))) (by decide +kernel)) (fun _ _ _ _ _ => (g_nm 8 sc.nd)) (by decide) (fun _ _ _ _ _ => ts_nil) (fun _ _ _ _ _ => (e_ite (t_cmp hu (e_idx hu (e_loc 4) e_int) e_int) (e_idx hu (e_loc 4) (e_bin (e_bin (e_bin e_int (e_loc 1)) (e_bin e_int (e_loc 3))) (e_loc 8))) (e_idx hu (e_loc 4) e_int))) (sw_true rfl rfl rfl (by decide +kernel)))
    (ss_cons (s_sto hu (e_bin (e_idx hu (e_loc 4) e_int) (e_bin e_int (e_loc 3))) (p_loc 7) (e_idx hu (e_loc 4) e_int))
    (ss_one (s_app 5 (e_join e_str (e_lc (own := [("_law_sign", 9)]) rfl sc.nd (i_seq (e_loc 7)) (blkOk_by (N := ["_law_cell_here", "_law_count", "_law_letters", "_law_j", "_law_row", "_law_found", "_law_size", "_law_signs", "_law_k", "_law_sign"]) (sc := (defScope (topS 56))) (by decide +kernel)) (fun _ _ _ _ _ => (g_nm 9 sc.nd)) (by decide) (fun _ _ _ _ _ => ts_nil) (fun _ _ _ _ _ => (e_idx hu (e_loc 2) (e_bin (e_loc 9) e_int)))))))))))
    (ss_one (s_retV 5))))))) (fun ds h => mkF_of h) (by decide)
theorem sc_l_woods : FnScope ["_law_cell_here", "_law_first", "_law_second", "_law_row", "_law_names_here", "_law_cap", "_law_k"] ["_law_cell_here"] (defScope (topS 57)) := ⟨rfl, rfl, rfl, by decide +kernel, rfl, by decide +kernel, by decide +kernel⟩
theorem w_l_woods (G : Gs K mg CA) (c_l_split_1 : FnG P w K mg base CA f_l_split 1 "_law_split" [.int 0]) (c_l_draw : FnG P w K mg base CA f_l_draw 1 "_law_draw" []) (c_l_names : FnG P w K mg base CA f_l_names 2 "_law_names" []) {f : Addr} {fd : FuncData} (F : FunD K "_law_woods" "_law_woods" (defArgs (topS 57)) (defBody (topS 57)) (defScope (topS 57)) [] [] f fd) : FnOk P w K mg base (L2.CX P w) 3 f fd ["_law_cell_here"] (spF K CA f_l_woods 1) :=
  have sc := sc_l_woods
  fn_ok (k := 2) (N := ["_law_cell_here", "_law_first", "_law_second", "_law_row", "_law_names_here", "_law_cap", "_law_k"]) (ps := ["_law_cell_here"]) (body := b_l_woods) F sc (fun cdv A outer s H E hr => by
    have hu := hu65 hr
    exact (ss_cons (s_asg (e_call (takes_of rfl rfl rfl rfl) (hr.mono (by decide)) c_l_split_1 (a_cons (e_loc 0) (a_cons e_int a_nil))) (g_tup rfl (tgLen_cons (tgLen_cons tgLen_nil)) (gs_cons (g_nm 1 sc.nd) (gs_cons (g_nm 2 sc.nd) gs_nil))))
    (ss_cons (s_set 3 sc.nd (e_call (takes_of rfl rfl rfl rfl) (hr.mono (by decide)) c_l_draw (a_cons (e_loc 1) (a_cons (e_bin (e_lst (a_cons e_int (a_cons e_int a_nil))) (e_lc (own := [("_law_k", 6)]) rfl sc.nd (i_rng1 G.g_range e_int) (blkOk_by (N := ["_law_cell_here", "_law_first", "_law_second", "_law_row", "_law_names_here", "_law_cap", "_law_k"]) (sc := (defScope (topS 57))) (by decide +kernel)) (fun _ _ _ _ _ => (g_nm 6 sc.nd)) (by decide) (fun _ _ _ _ _ => ts_nil) (fun _ _ _ _ _ => e_int))) a_nil))))
    (ss_cons (s_set 4 sc.nd (e_call (takes_of rfl rfl rfl rfl) (hr.mono (by decide)) c_l_names (a_cons (e_loc 2) (a_cons e_int a_nil))))
    (ss_cons (s_set 5 sc.nd (e_idx hu (e_lst (a_cons e_int (a_cons e_int (a_cons e_int a_nil)))) (e_idx hu (e_loc 3) e_int)))
    (ss_one (s_ret (e_tup (a_cons (e_lc (own := [("_law_k", 6)]) rfl sc.nd (i_rng1 G.g_range (e_bin (e_idx hu (e_loc 3) e_int) e_int)) (blkOk_by (N := ["_law_cell_here", "_law_first", "_law_second", "_law_row", "_law_names_here", "_law_cap", "_law_k"]) (sc := (defScope (topS 57))) (by decide +kernel)) (fun _ _ _ _ _ => (g_nm 6 sc.nd)) (by decide) (fun _ _ _ _ _ => ts_nil) (fun _ _ _ _ _ => (e_tup (a_cons (e_idx hu (e_loc 4) (e_loc 6)) (a_cons (e_bin (e_idx hu (e_loc 3) (e_bin e_int (e_loc 6))) (e_loc 5)) a_nil))))) (a_cons (e_idx hu (e_loc 4) e_int) a_nil)))))))))) (fun ds h => mkF_of h) (by decide)
theorem sc_l_pair_of_wood : FnScope ["_law_found"] ["_law_found"] (defScope (topS 58)) := ⟨rfl, rfl, rfl, by decide +kernel, rfl, by decide +kernel, by decide +kernel⟩
theorem w_l_pair_of_wood (G : Gs K mg CA) (c_l_num : FnG P w K mg base CA f_l_num 1 "_law_num" []) {f : Addr} {fd : FuncData} (F : FunD K "_law_pair_of_wood" "_law_pair_of_wood" (defArgs (topS 58)) (defBody (topS 58)) (defScope (topS 58)) [] [] f fd) : FnOk P w K mg base (L2.CX P w) 2 f fd ["_law_found"] (spF K CA f_l_pair_of_wood 1) :=
  have sc := sc_l_pair_of_wood
  fn_ok (k := 1) (N := ["_law_found"]) (ps := ["_law_found"]) (body := b_l_pair_of_wood) F sc (fun cdv A outer s H E hr => by
    have hu := hu65 hr
    exact (ss_one (s_ret (eb_and (eb_val (e_isi (T := "tuple") G.g_isinstance G.g_tuple (by decide +kernel) (e_loc 0))) (eb_and (e_cmp hu (e_blt cLen oLen G.g_len (by decide +kernel) (a_cons (e_loc 0) a_nil)) e_int) (eb_and (eb_val (e_isi (T := "str") G.g_isinstance G.g_str (by decide +kernel) (e_idx hu (e_loc 0) e_int))) (eb_one (eb_val (e_call (takes_of rfl rfl rfl rfl) (hr.mono (by decide)) c_l_num (a_cons (e_idx hu (e_loc 0) e_int) a_nil)))))))))) (fun ds h => mkF_of h) (by decide)
theorem sc_l_total : FnScope ["_law_left", "_law_name", "_law_packets"] ["_law_left"] (defScope (topS 59)) := ⟨rfl, rfl, rfl, by decide +kernel, rfl, by decide +kernel, by decide +kernel⟩
theorem w_l_total (G : Gs K mg CA)  {f : Addr} {fd : FuncData} (F : FunD K "_law_total" "_law_total" (defArgs (topS 59)) (defBody (topS 59)) (defScope (topS 59)) [] [] f fd) : FnOk P w K mg base (L2.CX P w) 1 f fd ["_law_left"] (spF K CA f_l_total 1) :=
  have sc := sc_l_total
  fn_ok (k := 0) (N := ["_law_left", "_law_name", "_law_packets"]) (ps := ["_law_left"]) (body := b_l_total) F sc (fun cdv A outer s H E hr => by
    have hu := hu65 hr
    exact (ss_one (s_ret (e_blt (cr_sum rfl) oSum G.g_sum (by decide +kernel) (a_cons (e_lc (own := [("_law_name", 1), ("_law_packets", 2)]) rfl sc.nd (i_seq (e_loc 0)) (blkOk_by (N := ["_law_left", "_law_name", "_law_packets"]) (sc := (defScope (topS 59))) (by decide +kernel)) (fun _ _ _ _ _ => (g_tup rfl (tgLen_cons (tgLen_cons tgLen_nil)) (gs_cons (g_nm 1 sc.nd) (gs_cons (g_nm 2 sc.nd) gs_nil)))) (by decide) (fun _ _ _ _ _ => ts_nil) (fun _ _ _ _ _ => (e_loc 2))) a_nil))))) (fun ds h => mkF_of h) (by decide)
theorem sc_l_saying_ok : FnScope ["_law_found", "_law_due", "_law_one"] ["_law_found", "_law_due"] (defScope (topS 60)) := ⟨rfl, rfl, rfl, by decide +kernel, rfl, by decide +kernel, by decide +kernel⟩
theorem w_l_saying_ok (G : Gs K mg CA) (c_l_num : FnG P w K mg base CA f_l_num 1 "_law_num" []) {f : Addr} {fd : FuncData} (F : FunD K "_law_saying_ok" "_law_saying_ok" (defArgs (topS 60)) (defBody (topS 60)) (defScope (topS 60)) [] [] f fd) : FnOk P w K mg base (L2.CX P w) 2 f fd ["_law_found", "_law_due"] (spF K CA f_l_saying_ok 2) :=
  have sc := sc_l_saying_ok
  fn_ok (k := 1) (N := ["_law_found", "_law_due", "_law_one"]) (ps := ["_law_found", "_law_due"]) (body := b_l_saying_ok) F sc (fun cdv A outer s H E hr => by
    have hu := hu65 hr
    exact (ss_cons (s_if (t_pw (tw_or (t_not (t_val (e_isi (T := "tuple") G.g_isinstance G.g_tuple (by decide +kernel) (e_loc 0)))) (tw_or (t_cmp hu (e_blt cLen oLen G.g_len (by decide +kernel) (a_cons (e_loc 0) a_nil)) (e_blt cLen oLen G.g_len (by decide +kernel) (a_cons (e_loc 1) a_nil))) (tw_or1 (t_not (t_val (e_isi (T := "str") G.g_isinstance G.g_str (by decide +kernel) (e_idx hu (e_loc 0) e_int)))))))) (ss_one (s_ret e_bl)) ss_nil)
    (ss_one (s_ret (eb_and (eb_val (e_blt (cr_all rfl) oAll G.g_all (by decide +kernel) (a_cons (e_lc (own := [("_law_one", 2)]) rfl sc.nd (i_seq (e_sl (e_loc 0) (o_some e_int) o_none)) (blkOk_by (N := ["_law_found", "_law_due", "_law_one"]) (sc := (defScope (topS 60))) (by decide +kernel)) (fun _ _ _ _ _ => (g_nm 2 sc.nd)) (by decide) (fun _ _ _ _ _ => ts_nil) (fun _ _ _ _ _ => (e_call takes0 (hr.mono (by decide)) c_l_num (a_cons (e_loc 2) a_nil)))) a_nil))) (eb_one (e_cmp hu (e_loc 0) (e_loc 1)))))))) (fun ds h => mkF_of h) (by decide)
theorem sc_l_model : FnScope ["_law_left", "_law_m"] ["_law_left"] (defScope (topS 61)) := ⟨rfl, rfl, rfl, by decide +kernel, rfl, by decide +kernel, by decide +kernel⟩
theorem w_l_model (G : Gs K mg CA)  {f : Addr} {fd : FuncData} (F : FunD K "_law_model" "_law_model" (defArgs (topS 61)) (defBody (topS 61)) (defScope (topS 61)) [] [] f fd) : FnOk P w K mg base (L2.CX P w) 1 f fd ["_law_left"] (spF K CA f_l_model 1) :=
  have sc := sc_l_model
  fn_ok (k := 0) (N := ["_law_left", "_law_m"]) (ps := ["_law_left"]) (body := b_l_model) F sc (fun cdv A outer s H E hr => by
    have hu := hu65 hr
    exact (ss_cons (s_set 1 sc.nd (e_dsp (.cons (e_bty call_list_of oLst G.g_list (by decide +kernel) (a_cons (e_loc 0) a_nil)) (.cons (e_lst a_nil) (.cons e_dnw (.cons e_int .nil))))))
    (ss_cons (s_sto hu (e_lst a_nil) (p_loc 1) e_str)
    (ss_cons (s_sto hu e_dnw (p_loc 1) e_str)
    (ss_cons (s_sto hu e_dnw (p_loc 1) e_str)
    (ss_cons (s_sto hu (e_lst a_nil) (p_loc 1) e_str)
    (ss_one (s_retV 1)))))))) (fun ds h => mkF_of h) (by decide)
theorem sc_l_name_ok : FnScope ["_law_name", "_law_sign"] ["_law_name"] (defScope (topS 62)) := ⟨rfl, rfl, rfl, by decide +kernel, rfl, by decide +kernel, by decide +kernel⟩
theorem w_l_name_ok (G : Gs K mg CA)  {f : Addr} {fd : FuncData} (F : FunD K "_law_name_ok" "_law_name_ok" (defArgs (topS 62)) (defBody (topS 62)) (defScope (topS 62)) [] [] f fd) : FnOk P w K mg base (L2.CX P w) 1 f fd ["_law_name"] (spF K CA f_l_name_ok 1) :=
  have sc := sc_l_name_ok
  fn_ok (k := 0) (N := ["_law_name", "_law_sign"]) (ps := ["_law_name"]) (body := b_l_name_ok) F sc (fun cdv A outer s H E hr => by
    have hu := hu65 hr
    exact (ss_one (s_ret (eb_and (e_chn hu e_int (e_blt cLen oLen G.g_len (by decide +kernel) (a_cons (e_loc 0) a_nil)) e_int) (eb_one (eb_val (e_blt (cr_all rfl) oAll G.g_all (by decide +kernel) (a_cons (e_lc (own := [("_law_sign", 1)]) rfl sc.nd (i_seq (e_loc 0)) (blkOk_by (N := ["_law_name", "_law_sign"]) (sc := (defScope (topS 62))) (by decide +kernel)) (fun _ _ _ _ _ => (g_nm 1 sc.nd)) (by decide) (fun _ _ _ _ _ => ts_nil) (fun _ _ _ _ _ => (e_cmp hu (e_loc 1) e_str))) a_nil)))))))) (fun ds h => mkF_of h) (by decide)
theorem sc_l_come : FnScope ["_law_m", "_law_name"] ["_law_m", "_law_name"] (defScope (topS 63)) := ⟨rfl, rfl, rfl, by decide +kernel, rfl, by decide +kernel, by decide +kernel⟩
theorem w_l_come (G : Gs K mg CA) (c_l_name_ok : FnG P w K mg base CA f_l_name_ok 1 "_law_name_ok" []) {f : Addr} {fd : FuncData} (F : FunD K "_law_come" "_law_come" (defArgs (topS 63)) (defBody (topS 63)) (defScope (topS 63)) [] [] f fd) : FnOk P w K mg base (L2.CX P w) 2 f fd ["_law_m", "_law_name"] (spH K CA f_l_come 2 [0]) :=
  have sc := sc_l_come
  fn_okH (ch := [0]) (k := 1) (N := ["_law_m", "_law_name"]) (ps := ["_law_m", "_law_name"]) (body := b_l_come) F sc (fun cdv A outer s H E hr => by
    have hu := hu65 hr
    exact (ss_cons (s_if (t_not (t_val (e_call (takes_of rfl rfl rfl rfl) (hr.mono (by decide)) c_l_name_ok (a_cons (e_loc 1) a_nil)))) (ss_one (s_retP (e_tup (a_cons e_str (a_cons e_non a_nil))))) ss_nil)
    (ss_cons (s_if (t_cmp hu (e_loc 1) (e_idx hu (e_locQ 0) e_str)) (ss_one (s_retP (e_tup (a_cons e_str (a_cons e_non a_nil))))) ss_nil)
    (ss_cons (s_if (t_cmp hu (e_blt cLen oLen G.g_len (by decide +kernel) (a_cons (e_idx hu (e_locQ 0) e_str) a_nil)) e_int) (ss_one (s_retP (e_tup (a_cons e_str (a_cons e_non a_nil))))) ss_nil)
    (ss_cons (s_mt (T := .l) PySem.F.plainAttrs_list PySem.F.slot_list_append PySem.F.type_list_append mt_append ok_app (p_idx hu (p_locQ 0) e_str) (a_cons (e_loc 1) a_nil))
    (ss_cons (s_sto hu e_int (p_idx hu (p_locQ 0) e_str) (e_loc 1))
    (ss_cons (s_if (t_cmp hu (e_idx hu (e_locQ 0) e_str) e_int) (ss_one (s_sto hu (e_lst a_nil) (p_idx hu (p_locQ 0) e_str) (e_loc 1))) ss_nil)
    (ss_one (s_retP (e_tup (a_cons e_str (a_cons e_non a_nil)))))))))))) (fun t ds h => mkH_of h) (by decide)
theorem sc_l_leave : FnScope ["_law_m", "_law_name", "_law_word"] ["_law_m", "_law_name"] (defScope (topS 64)) := ⟨rfl, rfl, rfl, by decide +kernel, rfl, by decide +kernel, by decide +kernel⟩
theorem w_l_leave (G : Gs K mg CA)  {f : Addr} {fd : FuncData} (F : FunD K "_law_leave" "_law_leave" (defArgs (topS 64)) (defBody (topS 64)) (defScope (topS 64)) [] [] f fd) : FnOk P w K mg base (L2.CX P w) 1 f fd ["_law_m", "_law_name"] (spH K CA f_l_leave 2 [0]) :=
  have sc := sc_l_leave
  fn_okH (ch := [0]) (k := 0) (N := ["_law_m", "_law_name", "_law_word"]) (ps := ["_law_m", "_law_name"]) (body := b_l_leave) F sc (fun cdv A outer s H E hr => by
    have hu := hu65 hr
    exact (ss_cons (s_if (t_cmp hu (e_loc 1) (e_idx hu (e_locQ 0) e_str)) (ss_one (s_retP (e_tup (a_cons e_str (a_cons e_non a_nil))))) ss_nil)
    (ss_cons (s_mt (T := .l) PySem.F.plainAttrs_list PySem.F.slot_list_remove PySem.F.type_list_remove mt_removeS ok_remS (p_idx hu (p_locQ 0) e_str) (a_cons (e_loc 1) a_nil))
    (ss_cons (s_for (passes_of rfl) rfl (i_seq (e_lst (a_cons e_str (a_cons e_str (a_cons e_str a_nil))))) (g_nm 2 sc.nd) (ss_one (s_dpop2 (p_idx hu (p_locQ 0) (e_loc 2)) (e_loc 1) e_non)))
    (ss_one (s_retP (e_tup (a_cons e_str (a_cons e_non a_nil))))))))) (fun t ds h => mkH_of h) (by decide)
theorem sc_l_result_ok : FnScope ["_law_found", "_law_due", "_law_told", "_law_one"] ["_law_found", "_law_due"] (defScope (topS 65)) := ⟨rfl, rfl, rfl, by decide +kernel, rfl, by decide +kernel, by decide +kernel⟩
theorem w_l_result_ok (G : Gs K mg CA) (c_l_num : FnG P w K mg base CA f_l_num 1 "_law_num" []) (c_l_saying_ok : FnG P w K mg base CA f_l_saying_ok 2 "_law_saying_ok" []) (c_l_pair_of_wood : FnG P w K mg base CA f_l_pair_of_wood 2 "_law_pair_of_wood" []) {f : Addr} {fd : FuncData} (F : FunD K "_law_result_ok" "_law_result_ok" (defArgs (topS 65)) (defBody (topS 65)) (defScope (topS 65)) [] [] f fd) : FnOk P w K mg base (L2.CX P w) 3 f fd ["_law_found", "_law_due"] (spF K CA f_l_result_ok 2) :=
  have sc := sc_l_result_ok
  fn_ok (k := 2) (N := ["_law_found", "_law_due", "_law_told", "_law_one"]) (ps := ["_law_found", "_law_due"]) (body := b_l_result_ok) F sc (fun cdv A outer s H E hr => by
    have hu := hu65 hr
    exact (ss_cons (s_if (t_cmp hu (e_idx hu (e_loc 0) e_int) (e_idx hu (e_loc 1) e_int)) (ss_one (s_ret e_bl)) ss_nil)
    (ss_cons (s_set 2 sc.nd (e_idx hu (e_loc 0) e_int))
    (ss_cons (s_if (t_cmp hu (e_idx hu (e_loc 1) e_int) e_non) (ss_one (s_ret (e_cmp hu (e_loc 2) e_non))) ss_nil)
    (ss_cons (s_if (t_val (e_isi (T := "int") G.g_isinstance G.g_int (by decide +kernel) (e_idx hu (e_loc 1) e_int))) (ss_one (s_ret (eb_and (eb_val (e_call (takes_of rfl rfl rfl rfl) (hr.mono (by decide)) c_l_num (a_cons (e_loc 2) a_nil))) (eb_one (e_cmp hu (e_loc 2) (e_idx hu (e_loc 1) e_int)))))) ss_nil)
    (ss_cons (s_if (t_val (e_isi (T := "tuple") G.g_isinstance G.g_tuple (by decide +kernel) (e_idx hu (e_loc 1) e_int))) (ss_one (s_ret (e_call (takes_of rfl rfl rfl rfl) (hr.mono (by decide)) c_l_saying_ok (a_cons (e_loc 2) (a_cons (e_idx hu (e_loc 1) e_int) a_nil))))) ss_nil)
    (ss_one (s_ret (eb_and (eb_val (e_isi (T := "list") G.g_isinstance G.g_list (by decide +kernel) (e_loc 2))) (eb_and (eb_val (e_blt (cr_all rfl) oAll G.g_all (by decide +kernel) (a_cons (e_lc (own := [("_law_one", 3)]) rfl sc.nd (i_seq (e_loc 2)) (blkOk_by (N := ["_law_found", "_law_due", "_law_told", "_law_one"]) (sc := (defScope (topS 65))) (by decide +kernel)) (fun _ _ _ _ _ => (g_nm 3 sc.nd)) (by decide) (fun _ _ _ _ _ => ts_nil) (fun _ _ _ _ _ => (e_call takes0 (hr.mono (by decide)) c_l_pair_of_wood (a_cons (e_loc 3) a_nil)))) a_nil))) (eb_one (e_cmp hu (e_loc 2) (e_idx hu (e_loc 1) e_int))))))))))))) (fun ds h => mkF_of h) (by decide)
theorem sc_l_pairs_told : FnScope ["_law_found", "_law_due", "_law_one"] ["_law_found", "_law_due"] (defScope (topS 66)) := ⟨rfl, rfl, rfl, by decide +kernel, rfl, by decide +kernel, by decide +kernel⟩
theorem w_l_pairs_told (G : Gs K mg CA) (c_l_pair_of_wood : FnG P w K mg base CA f_l_pair_of_wood 2 "_law_pair_of_wood" []) {f : Addr} {fd : FuncData} (F : FunD K "_law_pairs_told" "_law_pairs_told" (defArgs (topS 66)) (defBody (topS 66)) (defScope (topS 66)) [] [] f fd) : FnOk P w K mg base (L2.CX P w) 3 f fd ["_law_found", "_law_due"] (spF K CA f_l_pairs_told 2) :=
  have sc := sc_l_pairs_told
  fn_ok (k := 2) (N := ["_law_found", "_law_due", "_law_one"]) (ps := ["_law_found", "_law_due"]) (body := b_l_pairs_told) F sc (fun cdv A outer s H E hr => by
    have hu := hu65 hr
    exact (ss_one (s_ret (eb_and (eb_val (e_isi (T := "list") G.g_isinstance G.g_list (by decide +kernel) (e_loc 0))) (eb_and (eb_val (e_blt (cr_all rfl) oAll G.g_all (by decide +kernel) (a_cons (e_lc (own := [("_law_one", 2)]) rfl sc.nd (i_seq (e_loc 0)) (blkOk_by (N := ["_law_found", "_law_due", "_law_one"]) (sc := (defScope (topS 66))) (by decide +kernel)) (fun _ _ _ _ _ => (g_nm 2 sc.nd)) (by decide) (fun _ _ _ _ _ => ts_nil) (fun _ _ _ _ _ => (e_call takes0 (hr.mono (by decide)) c_l_pair_of_wood (a_cons (e_loc 2) a_nil)))) a_nil))) (eb_one (e_cmp hu (e_loc 0) (e_loc 1)))))))) (fun ds h => mkF_of h) (by decide)
theorem sc_l_points : FnScope ["_law_room", "_law_name"] ["_law_room", "_law_name"] (defScope (topS 67)) := ⟨rfl, rfl, rfl, by decide +kernel, rfl, by decide +kernel, by decide +kernel⟩
theorem w_l_points (G : Gs K mg CA) (c_p_Room_points : MtR P w K mg base CA "Room" "points" f_p_Room_points 2) {f : Addr} {fd : FuncData} (F : FunD K "_law_points" "_law_points" (defArgs (topS 67)) (defBody (topS 67)) (defScope (topS 67)) [] [] f fd) : FnOk P w K mg base (L2.CX P w) 3 f fd ["_law_room", "_law_name"] (spF K CA f_l_points 2) :=
  have sc := sc_l_points
  fn_ok (k := 2) (N := ["_law_room", "_law_name"]) (ps := ["_law_room", "_law_name"]) (body := b_l_points) F sc (fun cdv A outer s H E hr => by
    have hu := hu65 hr
    exact (ss_one (s_try (takes_of rfl rfl rfl rfl) (fun _ _ _ tkB hpB => (ss_one (s_ret (e_rm tkB (hr.mono (by decide)) c_p_Room_points (e_loc 0) (a_cons (e_loc 1) a_nil))))) (.cons ⟨rfl, by decide, .inl G.x_NoListener.g⟩ (exAll_cons G.y_NoListener_NoListener exAll_nil) (fun _ _ _ _ => (ss_one (s_ret (e_lst (a_cons e_str a_nil))))) .nil)))) (fun ds h => mkF_of h) (by decide)
theorem sc_l_standings : FnScope ["_law_m", "_law_pairs", "_law_points_here", "_law_name"] ["_law_m"] (defScope (topS 68)) := ⟨rfl, rfl, rfl, by decide +kernel, rfl, by decide +kernel, by decide +kernel⟩
theorem w_l_standings (G : Gs K mg CA)  {f : Addr} {fd : FuncData} (F : FunD K "_law_standings" "_law_standings" (defArgs (topS 68)) (defBody (topS 68)) (defScope (topS 68)) [] [] f fd) : FnOk P w K mg base (L2.CX P w) 1 f fd ["_law_m"] (spF K CA f_l_standings 1) :=
  have sc := sc_l_standings
  fn_ok (k := 0) (N := ["_law_m", "_law_pairs", "_law_points_here", "_law_name"]) (ps := ["_law_m"]) (body := b_l_standings) F sc (fun cdv A outer s H E hr => by
    have hu := hu65 hr
    exact (ss_cons (s_set 1 sc.nd (e_lst a_nil))
    (ss_cons (s_for (passes_of rfl) rfl (i_rngd G.g_range (e_blt (cMax rfl) oMax G.g_max (by decide +kernel) (a_cons (e_bin (e_lst (a_cons e_int a_nil)) (e_lc (own := [("_law_name", 3)]) rfl sc.nd (i_seq (e_idx hu (e_loc 0) e_str)) (blkOk_by (N := ["_law_m", "_law_pairs", "_law_points_here", "_law_name"]) (sc := (defScope (topS 68))) (by decide +kernel)) (fun _ _ _ _ _ => (g_nm 3 sc.nd)) (by decide) (fun _ _ _ _ _ => ts_nil) (fun _ _ _ _ _ => (e_idx hu (e_idx hu (e_loc 0) e_str) (e_loc 3))))) a_nil)) (e_neg e_int) (e_neg e_int)) (g_nm 2 sc.nd) (ss_one (s_mt (T := .l) PySem.F.plainAttrs_list PySem.F.slot_list_extend PySem.F.type_list_extend mt_extend ok_ext (p_loc 1) (a_cons (e_lc (own := [("_law_name", 3)]) rfl sc.nd (i_seq (e_idx hu (e_loc 0) e_str)) (blkOk_by (N := ["_law_m", "_law_pairs", "_law_points_here", "_law_name"]) (sc := (defScope (topS 68))) (by decide +kernel)) (fun _ _ _ _ _ => (g_nm 3 sc.nd)) (by decide) (fun _ _ _ _ _ => (ts_one (t_cmp hu (e_idx hu (e_idx hu (e_loc 0) e_str) (e_loc 3)) (e_loc 2)))) (fun _ _ _ _ _ => (e_tup (a_cons (e_loc 3) (a_cons (e_loc 2) a_nil))))) a_nil))))
    (ss_one (s_retV 1))))) (fun ds h => mkF_of h) (by decide)
theorem sc_l_people_ok : FnScope ["_law_room", "_law_m", "_law_stranger", "_law_found", "_law_name", "_law_told", "%"] ["_law_room", "_law_m", "_law_stranger"] (defScope (topS 69)) := ⟨rfl, rfl, rfl, by decide +kernel, rfl, by decide +kernel, by decide +kernel⟩
theorem w_l_people_ok (G : Gs K mg CA) (c_p_Room_listeners : MtR P w K mg base CA "Room" "listeners" f_p_Room_listeners 1) (c_l_points : FnG P w K mg base CA f_l_points 3 "_law_points" []) (c_l_num : FnG P w K mg base CA f_l_num 1 "_law_num" []) (c_l_refused : FnG P w K mg base CA f_l_refused 1 "_law_refused" []) (c_l_pairs_told : FnG P w K mg base CA f_l_pairs_told 3 "_law_pairs_told" []) (c_l_standings : FnG P w K mg base CA f_l_standings 1 "_law_standings" []) (c_p_Room_standings : MtT P w K mg base CA "Room" "standings" f_p_Room_standings 1) {f : Addr} {fd : FuncData} (F : FunD K "_law_people_ok" "_law_people_ok" (defArgs (topS 69)) (defBody (topS 69)) (defScope (topS 69)) [] [] f fd) : FnOk P w K mg base (L2.CX P w) 4 f fd ["_law_room", "_law_m", "_law_stranger"] (spT K CA f_l_people_ok 3) :=
  have sc := sc_l_people_ok
  fn_okT (k := 3) (N := ["_law_room", "_law_m", "_law_stranger", "_law_found", "_law_name", "_law_told", "%"]) (ps := ["_law_room", "_law_m", "_law_stranger"]) (body := b_l_people_ok) F sc (fun cdv A outer s H E hr => by
    have hu := hu65 hr
    exact (ss_cons (s_set 3 sc.nd (e_rm0 (takes_of rfl rfl rfl rfl) (hr.mono (by decide)) c_p_Room_listeners (e_loc 0)))
    (ss_cons (s_if (t_pw (tw_or (t_not (t_val (e_isi (T := "list") G.g_isinstance G.g_list (by decide +kernel) (e_loc 3)))) (tw_or1 (t_cmp hu (e_loc 3) (e_idx hu (e_loc 1) e_str))))) (ss_one (s_retP e_bl)) ss_nil)
    (ss_cons (s_for (passes_of rfl) rfl (i_seq (e_idx hu (e_loc 1) e_str)) (g_nm 4 sc.nd) (ss_cons (s_set 5 sc.nd (e_call (takes_of rfl rfl rfl rfl) (hr.mono (by decide)) c_l_points (a_cons (e_loc 0) (a_cons (e_loc 4) a_nil))))
    (ss_one (s_if (t_pw (tw_or (t_not (t_val (e_call (takes_of rfl rfl rfl rfl) (hr.mono (by decide)) c_l_num (a_cons (e_loc 5) a_nil)))) (tw_or1 (t_cmp hu (e_loc 5) (e_idx hu (e_idx hu (e_loc 1) e_str) (e_loc 4)))))) (ss_one (s_retP e_bl)) ss_nil))))
    (ss_one (s_retI (mb_and (m_pure (e_call (takes_of rfl rfl rfl rfl) (hr.mono (by decide)) c_l_refused (a_cons (e_call (takes_of rfl rfl rfl rfl) (hr.mono (by decide)) c_l_points (a_cons (e_loc 0) (a_cons (e_loc 2) a_nil))) a_nil))) (mb_one (m_callA (takes_of rfl rfl rfl rfl) (hr.mono (by decide)) c_l_pairs_told (am_cv (m_rmT (takes_of rfl rfl rfl rfl) (hr.mono (by decide)) c_p_Room_standings (e_loc 0)) (am_pure (a_cons (e_call (takes_of rfl rfl rfl rfl) (hr.mono (by decide)) c_l_standings (a_cons (e_loc 1) a_nil)) a_nil)))))))))))) (fun ds h => mkT_of h) (by decide) (by decide)
theorem sc_l_begun : FnScope ["_law_cell_here", "_law_first", "_law_second", "_law_third", "_law_left", "_law_other", "_law_names_here"] ["_law_cell_here"] (defScope (topS 70)) := ⟨rfl, rfl, rfl, by decide +kernel, rfl, by decide +kernel, by decide +kernel⟩
theorem w_l_begun (G : Gs K mg CA) (c_l_split : FnG P w K mg base CA f_l_split 1 "_law_split" []) (c_l_woods : FnG P w K mg base CA f_l_woods 3 "_law_woods" []) (c_l_draw : FnG P w K mg base CA f_l_draw 1 "_law_draw" []) (c_l_rich_woods : FnG P w K mg base CA f_l_rich_woods 4 "_law_rich_woods" []) (c_l_names : FnG P w K mg base CA f_l_names 2 "_law_names" []) {f : Addr} {fd : FuncData} (F : FunD K "_law_begun" "_law_begun" (defArgs (topS 70)) (defBody (topS 70)) (defScope (topS 70)) [] [] f fd) : FnOk P w K mg base (L2.CX P w) 5 f fd ["_law_cell_here"] (spF K CA f_l_begun 1) :=
  have sc := sc_l_begun
  fn_ok (k := 4) (N := ["_law_cell_here", "_law_first", "_law_second", "_law_third", "_law_left", "_law_other", "_law_names_here"]) (ps := ["_law_cell_here"]) (body := b_l_begun) F sc (fun cdv A outer s H E hr => by
    have hu := hu65 hr
    exact (ss_cons (s_asg (e_call (takes_of rfl rfl rfl rfl) (hr.mono (by decide)) c_l_split (a_cons (e_loc 0) (a_cons e_int (a_cons e_int a_nil)))) (g_tup rfl (tgLen_cons (tgLen_cons (tgLen_cons tgLen_nil))) (gs_cons (g_nm 1 sc.nd) (gs_cons (g_nm 2 sc.nd) (gs_cons (g_nm 3 sc.nd) gs_nil)))))
    (ss_cons (s_asg (e_call (takes_of rfl rfl rfl rfl) (hr.mono (by decide)) c_l_woods (a_cons (e_loc 1) a_nil)) (g_tup rfl (tgLen_cons (tgLen_cons tgLen_nil)) (gs_cons (g_nm 4 sc.nd) (gs_cons (g_nm 5 sc.nd) gs_nil))))
    (ss_cons (s_if (t_cmp hu (e_idx hu (e_call (takes_of rfl rfl rfl rfl) (hr.mono (by decide)) c_l_draw (a_cons (e_loc 3) (a_cons (e_lst (a_cons e_int a_nil)) a_nil))) e_int) e_int) (ss_one (s_asg (e_call (takes_of rfl rfl rfl rfl) (hr.mono (by decide)) c_l_rich_woods (a_cons (e_loc 1) (a_cons e_int a_nil))) (g_tup rfl (tgLen_cons (tgLen_cons tgLen_nil)) (gs_cons (g_nm 4 sc.nd) (gs_cons (g_nm 5 sc.nd) gs_nil))))) ss_nil)
    (ss_cons (s_set 6 sc.nd (e_call (takes_of rfl rfl rfl rfl) (hr.mono (by decide)) c_l_names (a_cons (e_loc 2) (a_cons e_int a_nil))))
    (ss_one (s_ret (e_tup (a_cons (e_loc 4) (a_cons (e_sl (e_loc 6) o_none (o_some e_int)) (a_cons (e_idx hu (e_loc 6) e_int) a_nil))))))))))) (fun ds h => mkF_of h) (by decide)
theorem sc_l_rich_woods : FnScope ["_law_cell_here", "_law_size", "_law_left", "_law_stranger", "_law_step", "_law_name", "_law_packets"] ["_law_cell_here", "_law_size"] (defScope (topS 71)) := ⟨rfl, rfl, rfl, by decide +kernel, rfl, by decide +kernel, by decide +kernel⟩
theorem w_l_rich_woods (G : Gs K mg CA) (c_l_woods : FnG P w K mg base CA f_l_woods 3 "_law_woods" []) (c_l_total : FnG P w K mg base CA f_l_total 1 "_law_total" []) {f : Addr} {fd : FuncData} (F : FunD K "_law_rich_woods" "_law_rich_woods" (defArgs (topS 71)) (defBody (topS 71)) (defScope (topS 71)) [] [] f fd) : FnOk P w K mg base (L2.CX P w) 4 f fd ["_law_cell_here", "_law_size"] (spF K CA f_l_rich_woods 2) :=
  have sc := sc_l_rich_woods
  fn_ok (k := 3) (N := ["_law_cell_here", "_law_size", "_law_left", "_law_stranger", "_law_step", "_law_name", "_law_packets"]) (ps := ["_law_cell_here", "_law_size"]) (body := b_l_rich_woods) F sc (fun cdv A outer s H E hr => by
    have hu := hu65 hr
    exact (ss_cons (s_asg (e_call (takes_of rfl rfl rfl rfl) (hr.mono (by decide)) c_l_woods (a_cons (e_loc 0) a_nil)) (g_tup rfl (tgLen_cons (tgLen_cons tgLen_nil)) (gs_cons (g_nm 2 sc.nd) (gs_cons (g_nm 3 sc.nd) gs_nil))))
    (ss_cons (s_for (passes_of rfl) rfl (i_rng1 G.g_range (e_loc 1)) (g_nm 4 sc.nd) (ss_one (s_if (t_cmp hu (e_call (takes_of rfl rfl rfl rfl) (hr.mono (by decide)) c_l_total (a_cons (e_loc 2) a_nil)) (e_loc 1)) (ss_one (s_setlc (own := [("_law_name", 5), ("_law_packets", 6)]) rfl sc.nd (i_seq (e_loc 2)) (blkOk_by (N := ["_law_cell_here", "_law_size", "_law_left", "_law_stranger", "_law_step", "_law_name", "_law_packets"]) (sc := (defScope (topS 71))) (by decide +kernel)) (fun _ _ _ _ _ => (g_tup rfl (tgLen_cons (tgLen_cons tgLen_nil)) (gs_cons (g_nm 5 sc.nd) (gs_cons (g_nm 6 sc.nd) gs_nil)))) (by decide) (fun _ _ _ _ _ => ts_nil) (fun _ _ _ _ _ => (e_tup (a_cons (e_loc 5) (a_cons (e_blt (cMin rfl) oMin G.g_min (by decide +kernel) (a_cons e_int (a_cons (e_bin (e_loc 6) e_int) a_nil))) a_nil)))) (sw_true rfl rfl rfl (by decide +kernel)))) ss_nil)))
    (ss_one (s_ret (e_tup (a_cons (e_loc 2) (a_cons (e_loc 3) a_nil)))))))) (fun ds h => mkF_of h) (by decide)
theorem sc_l_tried_v19 : FnScope ["_law_room", "_law_deed"] ["_law_room", "_law_deed"] (defScope (topS 72)) := ⟨rfl, rfl, rfl, by decide +kernel, rfl, by decide +kernel, by decide +kernel⟩
theorem w_l_tried_v19 (G : Gs K mg CA) (c_p_Room_come : MtC P w K mg base CA "Room" "come" f_p_Room_come 4) (c_p_Room_leave : MtC P w K mg base CA "Room" "leave" f_p_Room_leave 2) {f : Addr} {fd : FuncData} (F : FunD K "_law_tried" "_law_tried" (defArgs (topS 72)) (defBody (topS 72)) (defScope (topS 72)) [] [] f fd) : FnOk P w K mg base (L2.CX P w) 5 f fd ["_law_room", "_law_deed"] (spH K CA f_l_tried_v19 2 [0]) :=
  have sc := sc_l_tried_v19
  fn_okH (ch := [0]) (k := 4) (N := ["_law_room", "_law_deed"]) (ps := ["_law_room", "_law_deed"]) (body := b_l_tried_v19) F sc (fun cdv A outer s H E hr => by
    have hu := hu65 hr
    exact (ss_one (s_try (takes_of rfl rfl rfl rfl) (fun _ _ _ tkB hpB => (ss_one (s_retI (m_tup (am_cv (m_pure e_str) (am_last (m_ite (tm_pure (t_cmp hu (e_idx hu (e_loc 1) e_int) e_str)) (m_meth tkB (hr.mono (by decide)) c_p_Room_come (p_locQ 0) (a_cons (e_idx hu (e_loc 1) e_int) a_nil)) (m_meth tkB (hr.mono (by decide)) c_p_Room_leave (p_locQ 0) (a_cons (e_idx hu (e_loc 1) e_int) a_nil))))))))) (.cons ⟨rfl, by decide, .inl G.x_BadName.g⟩ (exAll_cons G.y_BadMany_BadName (exAll_cons G.y_BadName_BadName (exAll_cons G.y_Full_BadName (exAll_cons G.y_NoListener_BadName (exAll_cons G.y_Taken_BadName exAll_nil))))) (fun _ _ _ _ => (ss_one (s_retP (e_tup (a_cons e_str (a_cons e_non a_nil)))))) (.cons ⟨rfl, by decide, .inl G.x_Taken.g⟩ (exAll_cons G.y_BadMany_Taken (exAll_cons G.y_BadName_Taken (exAll_cons G.y_Full_Taken (exAll_cons G.y_NoListener_Taken (exAll_cons G.y_Taken_Taken exAll_nil))))) (fun _ _ _ _ => (ss_one (s_retP (e_tup (a_cons e_str (a_cons e_non a_nil)))))) (.cons ⟨rfl, by decide, .inl G.x_Full.g⟩ (exAll_cons G.y_BadMany_Full (exAll_cons G.y_BadName_Full (exAll_cons G.y_Full_Full (exAll_cons G.y_NoListener_Full (exAll_cons G.y_Taken_Full exAll_nil))))) (fun _ _ _ _ => (ss_one (s_retP (e_tup (a_cons e_str (a_cons e_non a_nil)))))) (.cons ⟨rfl, by decide, .inl G.x_NoListener.g⟩ (exAll_cons G.y_BadMany_NoListener (exAll_cons G.y_BadName_NoListener (exAll_cons G.y_Full_NoListener (exAll_cons G.y_NoListener_NoListener (exAll_cons G.y_Taken_NoListener exAll_nil))))) (fun _ _ _ _ => (ss_one (s_retP (e_tup (a_cons e_str (a_cons e_non a_nil)))))) .nil))))))) (fun t ds h => mkH_of h) (by decide)
theorem sc_l_drawn_v2 : FnScope ["_law_row", "_law_people", "_law_pool", "_law_name", "_law_at", "_law_bad"] ["_law_row", "_law_people", "_law_pool"] (defScope (topS 73)) := ⟨rfl, rfl, rfl, by decide +kernel, rfl, by decide +kernel, by decide +kernel⟩
theorem w_l_drawn_v2 (G : Gs K mg CA)  {f : Addr} {fd : FuncData} (F : FunD K "_law_drawn" "_law_drawn" (defArgs (topS 73)) (defBody (topS 73)) (defScope (topS 73)) [] [] f fd) : FnOk P w K mg base (L2.CX P w) 1 f fd ["_law_row", "_law_people", "_law_pool"] (spF K CA f_l_drawn_v2 3) :=
  have sc := sc_l_drawn_v2
  fn_ok (k := 0) (N := ["_law_row", "_law_people", "_law_pool", "_law_name", "_law_at", "_law_bad"]) (ps := ["_law_row", "_law_people", "_law_pool"]) (body := b_l_drawn_v2) F sc (fun cdv A outer s H E hr => by
    have hu := hu65 hr
    exact (ss_cons (s_set 3 sc.nd (e_idx hu (e_loc 2) (e_idx hu (e_loc 0) e_int)))
    (ss_cons (s_set 4 sc.nd (e_bin (e_idx hu (e_loc 0) e_int) (e_blt cLen oLen G.g_len (by decide +kernel) (a_cons (e_loc 3) a_nil))))
    (ss_cons (s_if (t_cmp hu (e_idx hu (e_loc 0) e_int) e_int) (ss_cons (s_set 5 sc.nd (e_bin (e_bin (e_sl (e_loc 3) o_none (o_some (e_loc 4))) (e_idx hu e_str (e_bin (e_idx hu (e_loc 0) e_int) e_int))) (e_sl (e_loc 3) (o_some (e_bin (e_loc 4) e_int)) o_none)))
    (ss_one (s_ret (e_tup (a_cons e_str (a_cons (e_idx hu (e_lst (a_cons e_str (a_cons (e_loc 5) (a_cons (e_sl (e_bin (e_loc 3) e_int) o_none (o_some e_int)) (a_cons (e_sl (e_bin (e_loc 3) e_int) o_none (o_some e_int)) a_nil))))) (e_bin (e_idx hu (e_loc 0) e_int) e_int)) a_nil)))))) ss_nil)
    (ss_cons (s_if (t_cmp hu (e_idx hu (e_loc 0) e_int) e_int) (ss_one (s_ret (e_tup (a_cons e_str (a_cons (e_ite (t_pw (tw_and (t_cmp hu (e_idx hu (e_loc 0) e_int) e_int) (tw_and1 (t_cmp hu (e_blt cLen oLen G.g_len (by decide +kernel) (a_cons (e_loc 1) a_nil)) e_int)))) (e_idx hu (e_loc 1) (e_bin (e_idx hu (e_loc 0) e_int) (e_blt cLen oLen G.g_len (by decide +kernel) (a_cons (e_loc 1) a_nil)))) (e_loc 3)) a_nil))))) ss_nil)
    (ss_one (s_ret (e_tup (a_cons e_str (a_cons (e_loc 3) a_nil)))))))))) (fun ds h => mkF_of h) (by decide)
theorem sc_l_law_k51_v2 : FnScope ["_law_script", "_law_left", "_law_pool", "_law_stranger", "_law_room", "_law_m", "_law_k", "_law_row", "_law_deed", "_law_due", "%"] ["_law_script"] (defScope (topS 74)) := ⟨rfl, rfl, rfl, by decide +kernel, rfl, by decide +kernel, by decide +kernel⟩
theorem w_l_law_k51_v2 (G : Gs K mg CA) (c_l_cell : FnG P w K mg base CA f_l_cell 1 "_law_cell" []) (c_l_begun : FnG P w K mg base CA f_l_begun 5 "_law_begun" []) (c_p_Tray___init__ : MtI P w K mg base CA "Tray" f_p_Tray___init__ 2) (c_p_Room___init__ : MtI P w K mg base CA "Room" f_p_Room___init__ 1) (c_l_model : FnG P w K mg base CA f_l_model 1 "_law_model" []) (c_l_many : FnG P w K mg base CA f_l_many 1 "_law_many" []) (c_l_draw : FnG P w K mg base CA f_l_draw 1 "_law_draw" []) (c_l_drawn_v2 : FnG P w K mg base CA f_l_drawn_v2 1 "_law_drawn" []) (c_l_come : FnGH P w K mg base CA f_l_come [0] 2 "_law_come") (c_l_leave : FnGH P w K mg base CA f_l_leave [0] 1 "_law_leave") (c_l_result_ok : FnG P w K mg base CA f_l_result_ok 3 "_law_result_ok" []) (c_l_tried_v19 : FnGH P w K mg base CA f_l_tried_v19 [0] 5 "_law_tried") (c_l_people_ok : FnT P w K mg base CA f_l_people_ok 4 "_law_people_ok" []) (c_p_Room_listeners : MtR P w K mg base CA "Room" "listeners" f_p_Room_listeners 1) (c_p_Room_standings : MtT P w K mg base CA "Room" "standings" f_p_Room_standings 1) {f : Addr} {fd : FuncData} (F : FunD K "law" "law" (defArgs (topS 74)) (defBody (topS 74)) (defScope (topS 74)) [] [] f fd) : FnOk P w K mg base (L2.CX P w) 6 f fd ["_law_script"] (spT K CA f_l_law_k51_v2 1) :=
  have sc := sc_l_law_k51_v2
  fn_okT (k := 5) (N := ["_law_script", "_law_left", "_law_pool", "_law_stranger", "_law_room", "_law_m", "_law_k", "_law_row", "_law_deed", "_law_due", "%"]) (ps := ["_law_script"]) (body := b_l_law_k51_v2) F sc (fun cdv A outer s H E hr => by
    have hu := hu65 hr
    exact (ss_cons (s_asg (e_call (takes_of rfl rfl rfl rfl) (hr.mono (by decide)) c_l_begun (a_cons (e_call (takes_of rfl rfl rfl rfl) (hr.mono (by decide)) c_l_cell (a_cons (e_loc 0) (a_cons e_int a_nil))) a_nil)) (g_tup rfl (tgLen_cons (tgLen_cons (tgLen_cons tgLen_nil))) (gs_cons (g_nm 1 sc.nd) (gs_cons (g_nm 2 sc.nd) (gs_cons (g_nm 3 sc.nd) gs_nil)))))
    (ss_cons (s_set 4 sc.nd (e_mk (takes_of rfl rfl rfl rfl) (hr.mono (by decide)) c_p_Room___init__ (a_cons (e_mkz (takes_of rfl rfl rfl rfl) (hr.mono (by decide)) c_p_Tray___init__ (a_cons (e_loc 1) a_nil)) a_nil)))
    (ss_cons (s_set 5 sc.nd (e_call (takes_of rfl rfl rfl rfl) (hr.mono (by decide)) c_l_model (a_cons (e_loc 1) a_nil)))
    (ss_cons (s_for (passes_of rfl) rfl (i_rng2 G.g_range e_int (e_call (takes_of rfl rfl rfl rfl) (hr.mono (by decide)) c_l_many (a_cons (e_loc 0) (a_cons e_int a_nil)))) (g_nm 6 sc.nd) (ss_cons (s_set 7 sc.nd (e_call (takes_of rfl rfl rfl rfl) (hr.mono (by decide)) c_l_draw (a_cons (e_call (takes_of rfl rfl rfl rfl) (hr.mono (by decide)) c_l_cell (a_cons (e_loc 0) (a_cons (e_loc 6) a_nil))) (a_cons (e_lst (a_cons e_int (a_cons e_int (a_cons e_int (a_cons e_int (a_cons e_int (a_cons e_int a_nil))))))) a_nil))))
    (ss_cons (s_set 8 sc.nd (e_call (takes_of rfl rfl rfl rfl) (hr.mono (by decide)) c_l_drawn_v2 (a_cons (e_loc 7) (a_cons (e_idx hu (e_loc 5) e_str) (a_cons (e_loc 2) a_nil)))))
    (ss_cons (s_asgM (m_ite (tm_pure (t_cmp hu (e_idx hu (e_loc 8) e_int) e_str)) (m_callH (takes_of rfl rfl rfl rfl) (hr.mono (by decide)) c_l_come (a_hp (p_loc 5) (a_hv (e_idx hu (e_loc 8) e_int) a_hnil))) (m_callH (takes_of rfl rfl rfl rfl) (hr.mono (by decide)) c_l_leave (a_hp (p_loc 5) (a_hv (e_idx hu (e_loc 8) e_int) a_hnil)))) (g_nm 9 sc.nd))
    (ss_cons (s_ifT (tm_not (tm_val (m_callA (takes_of rfl rfl rfl rfl) (hr.mono (by decide)) c_l_result_ok (am_cv (m_callH (takes_of rfl rfl rfl rfl) (hr.mono (by decide)) c_l_tried_v19 (a_hp (p_loc 4) (a_hv (e_loc 8) a_hnil))) (am_pure (a_cons (e_loc 9) a_nil)))))) (ss_one (s_retP e_bl)) ss_nil)
    (ss_one (s_if (t_pw (tw_or (t_cmp hu (e_idx hu (e_loc 7) e_int) e_int) (tw_or1 (t_cmp hu (e_loc 6) e_int)))) (ss_cons (s_ifnM (m_callT (takes_of rfl rfl rfl rfl) (hr.mono (by decide)) c_l_people_ok (a_cons (e_loc 4) (a_cons (e_loc 5) (a_cons (e_loc 3) a_nil)))) (ss_one (s_retP e_bl)) ss_nil)
    (ss_cons (s_tap (e_rm0 (takes_of rfl rfl rfl rfl) (hr.mono (by decide)) c_p_Room_listeners (e_loc 4)) (e_loc 3))
    (ss_one (s_tapM (m_rmT (takes_of rfl rfl rfl rfl) (hr.mono (by decide)) c_p_Room_standings (e_loc 4)) (e_tup (a_cons (e_loc 3) (a_cons e_int a_nil))))))) ss_nil)))))))
    (ss_one (s_retI (m_callT (takes_of rfl rfl rfl rfl) (hr.mono (by decide)) c_l_people_ok (a_cons (e_loc 4) (a_cons (e_loc 5) (a_cons (e_loc 3) a_nil))))))))))) (fun ds h => mkT_of h) (by decide) (by decide)
end
end Cz
namespace Cz
open PySem PySem.Spec PyProof.Rows L2
theorem all_mk {P : Program} {w : World} {K : PySem.W.Frag} {h : Heap} {mg : Str → Option Value} {fa : Addr} (X : K.In h) (G : h.Ns mainGlobals mg) (hfa : mg "law" = some (.ref fa)) (C : He.SaysX [] Hd.fnL Hd.tsL Hd.tfL (allHB Hd.exL) w h K)
    (hlaw : ∀ ns : List Int, ns.length ≤ 63 → (∀ z ∈ ns, Builtin.Int.intBits z ≤ 1048576) → f_l_law_k51_v2 [.scr (ns.map D.int)] = .ok (.own, .bl true)) :
    tabOnly K = true ∧ ∃ fd : FuncData, (∀ (s : Shared) (v : Value), BindsTo s fd ⟨[v], []⟩ [("_law_script", v)]) ∧ ∀ base : Heap, K.In base → base.Ns mainGlobals mg → (∀ p ∈ [He.cT K stD], LamX.TabB base mg p.1 p.2) → FnOk P w K mg base (L2.CX P w) 6 fa fd ["_law_script"] (spLawT K) := by
  obtain ⟨fd0, F0⟩ := C.t.d.def_ 0 (d := Hd.dD0) rfl
  have F0 : FunD K "look_many" "look_many" (defArgs (topS 25)) (defBody (topS 25)) (defScope (topS 25)) [] [] (He.fAd K ("look_many", none)) fd0 := F0
  obtain ⟨fd1, F1⟩ := C.t.d.def_ 1 (d := Hd.dD1) rfl
  have F1 : FunD K "__init__" "Sayings.__init__" (defArgs (inClass (topS 41) 0)) (defBody (inClass (topS 41) 0)) (defScope (inClass (topS 41) 0)) [] [] (He.fAd K ("Sayings", some "__init__")) fd1 := F1
  obtain ⟨fd2, F2⟩ := C.t.d.def_ 2 (d := Hd.dD2) rfl
  have F2 : FunD K "good_name" "good_name" (defArgs (topS 44)) (defBody (topS 44)) (defScope (topS 44)) [] [] (He.fAd K ("good_name", none)) fd2 := F2
  obtain ⟨fd3, F3⟩ := C.t.d.def_ 3 (d := Hd.dD3) rfl
  have F3 : FunD K "__init__" "Tray.__init__" (defArgs (inClass (topS 45) 0)) (defBody (inClass (topS 45) 0)) (defScope (inClass (topS 45) 0)) [] [] (He.fAd K ("Tray", some "__init__")) fd3 := F3
  obtain ⟨fd4, F4⟩ := C.t.d.def_ 4 (d := Hd.dD4) rfl
  have F4 : FunD K "__init__" "Room.__init__" (defArgs (inClass (topS 48) 0)) (defBody (inClass (topS 48) 0)) (defScope (inClass (topS 48) 0)) [] [] (He.fAd K ("Room", some "__init__")) fd4 := F4
  obtain ⟨fd5, F5⟩ := C.t.d.def_ 5 (d := Hd.dD5) rfl
  have F5 : FunD K "look_listener" "Room.look_listener" (defArgs (inClass (topS 48) 1)) (defBody (inClass (topS 48) 1)) (defScope (inClass (topS 48) 1)) [] [] (He.fAd K ("Room", some "look_listener")) fd5 := F5
  obtain ⟨fd6, F6⟩ := C.t.d.def_ 6 (d := Hd.dD6) rfl
  have F6 : FunD K "come" "Room.come" (defArgs (inClass (topS 48) 4)) (defBody (inClass (topS 48) 4)) (defScope (inClass (topS 48) 4)) [] [] (He.fAd K ("Room", some "come")) fd6 := F6
  obtain ⟨fd7, F7⟩ := C.t.d.def_ 7 (d := Hd.dD7) rfl
  have F7 : FunD K "leave" "Room.leave" (defArgs (inClass (topS 48) 5)) (defBody (inClass (topS 48) 5)) (defScope (inClass (topS 48) 5)) [] [] (He.fAd K ("Room", some "leave")) fd7 := F7
  obtain ⟨fd8, F8⟩ := C.t.d.def_ 8 (d := Hd.dD8) rfl
  have F8 : FunD K "listeners" "Room.listeners" (defArgs (inClass (topS 48) 14)) (defBody (inClass (topS 48) 14)) (defScope (inClass (topS 48) 14)) [] [] (He.fAd K ("Room", some "listeners")) fd8 := F8
  obtain ⟨fd9, F9⟩ := C.t.d.def_ 9 (d := Hd.dD9) rfl
  have F9 : FunD K "points" "Room.points" (defArgs (inClass (topS 48) 15)) (defBody (inClass (topS 48) 15)) (defScope (inClass (topS 48) 15)) [] [] (He.fAd K ("Room", some "points")) fd9 := F9
  obtain ⟨fd10, F10⟩ := C.t.d.def_ 10 (d := Hd.dD10) rfl
  have F10 : FunD K "standings" "Room.standings" (defArgs (inClass (topS 48) 16)) (defBody (inClass (topS 48) 16)) (defScope (inClass (topS 48) 16)) [] [] (He.fAd K ("Room", some "standings")) fd10 := F10
  obtain ⟨fd11, F11⟩ := C.t.d.def_ 11 (d := Hd.dD11) rfl
  have F11 : FunD K "_law_draw" "_law_draw" (defArgs (topS 50)) (defBody (topS 50)) (defScope (topS 50)) [] [] (He.fAd K ("_law_draw", none)) fd11 := F11
  obtain ⟨fd12, F12⟩ := C.t.d.def_ 12 (d := Hd.dD12) rfl
  have F12 : FunD K "_law_cell" "_law_cell" (defArgs (topS 51)) (defBody (topS 51)) (defScope (topS 51)) [] [] (He.fAd K ("_law_cell", none)) fd12 := F12
  obtain ⟨fd13, F13⟩ := C.t.d.def_ 13 (d := Hd.dD13) rfl
  have F13 : FunD K "_law_many" "_law_many" (defArgs (topS 52)) (defBody (topS 52)) (defScope (topS 52)) [] [] (He.fAd K ("_law_many", none)) fd13 := F13
  obtain ⟨fd14, F14⟩ := C.t.d.def_ 14 (d := Hd.dD14) rfl
  have F14 : FunD K "_law_num" "_law_num" (defArgs (topS 53)) (defBody (topS 53)) (defScope (topS 53)) [] [] (He.fAd K ("_law_num", none)) fd14 := F14
  obtain ⟨fd15, F15⟩ := C.t.d.def_ 15 (d := Hd.dD15) rfl
  have F15 : FunD K "_law_split" "_law_split" (defArgs (topS 54)) (defBody (topS 54)) (defScope (topS 54)) [.int 0] [] (He.fAd K ("_law_split", none)) fd15 := F15
  obtain ⟨fd16, F16⟩ := C.t.d.def_ 16 (d := Hd.dD16) rfl
  have F16 : FunD K "_law_refused" "_law_refused" (defArgs (topS 55)) (defBody (topS 55)) (defScope (topS 55)) [] [] (He.fAd K ("_law_refused", none)) fd16 := F16
  obtain ⟨fd17, F17⟩ := C.t.d.def_ 17 (d := Hd.dD17) rfl
  have F17 : FunD K "_law_names" "_law_names" (defArgs (topS 56)) (defBody (topS 56)) (defScope (topS 56)) [] [] (He.fAd K ("_law_names", none)) fd17 := F17
  obtain ⟨fd18, F18⟩ := C.t.d.def_ 18 (d := Hd.dD18) rfl
  have F18 : FunD K "_law_woods" "_law_woods" (defArgs (topS 57)) (defBody (topS 57)) (defScope (topS 57)) [] [] (He.fAd K ("_law_woods", none)) fd18 := F18
  obtain ⟨fd19, F19⟩ := C.t.d.def_ 19 (d := Hd.dD19) rfl
  have F19 : FunD K "_law_pair_of_wood" "_law_pair_of_wood" (defArgs (topS 58)) (defBody (topS 58)) (defScope (topS 58)) [] [] (He.fAd K ("_law_pair_of_wood", none)) fd19 := F19
  obtain ⟨fd20, F20⟩ := C.t.d.def_ 20 (d := Hd.dD20) rfl
  have F20 : FunD K "_law_total" "_law_total" (defArgs (topS 59)) (defBody (topS 59)) (defScope (topS 59)) [] [] (He.fAd K ("_law_total", none)) fd20 := F20
  obtain ⟨fd21, F21⟩ := C.t.d.def_ 21 (d := Hd.dD21) rfl
  have F21 : FunD K "_law_saying_ok" "_law_saying_ok" (defArgs (topS 60)) (defBody (topS 60)) (defScope (topS 60)) [] [] (He.fAd K ("_law_saying_ok", none)) fd21 := F21
  obtain ⟨fd22, F22⟩ := C.t.d.def_ 22 (d := Hd.dD22) rfl
  have F22 : FunD K "_law_model" "_law_model" (defArgs (topS 61)) (defBody (topS 61)) (defScope (topS 61)) [] [] (He.fAd K ("_law_model", none)) fd22 := F22
  obtain ⟨fd23, F23⟩ := C.t.d.def_ 23 (d := Hd.dD23) rfl
  have F23 : FunD K "_law_name_ok" "_law_name_ok" (defArgs (topS 62)) (defBody (topS 62)) (defScope (topS 62)) [] [] (He.fAd K ("_law_name_ok", none)) fd23 := F23
  obtain ⟨fd24, F24⟩ := C.t.d.def_ 24 (d := Hd.dD24) rfl
  have F24 : FunD K "_law_come" "_law_come" (defArgs (topS 63)) (defBody (topS 63)) (defScope (topS 63)) [] [] (He.fAd K ("_law_come", none)) fd24 := F24
  obtain ⟨fd25, F25⟩ := C.t.d.def_ 25 (d := Hd.dD25) rfl
  have F25 : FunD K "_law_leave" "_law_leave" (defArgs (topS 64)) (defBody (topS 64)) (defScope (topS 64)) [] [] (He.fAd K ("_law_leave", none)) fd25 := F25
  obtain ⟨fd26, F26⟩ := C.t.d.def_ 26 (d := Hd.dD26) rfl
  have F26 : FunD K "_law_result_ok" "_law_result_ok" (defArgs (topS 65)) (defBody (topS 65)) (defScope (topS 65)) [] [] (He.fAd K ("_law_result_ok", none)) fd26 := F26
  obtain ⟨fd27, F27⟩ := C.t.d.def_ 27 (d := Hd.dD27) rfl
  have F27 : FunD K "_law_pairs_told" "_law_pairs_told" (defArgs (topS 66)) (defBody (topS 66)) (defScope (topS 66)) [] [] (He.fAd K ("_law_pairs_told", none)) fd27 := F27
  obtain ⟨fd28, F28⟩ := C.t.d.def_ 28 (d := Hd.dD28) rfl
  have F28 : FunD K "_law_points" "_law_points" (defArgs (topS 67)) (defBody (topS 67)) (defScope (topS 67)) [] [] (He.fAd K ("_law_points", none)) fd28 := F28
  obtain ⟨fd29, F29⟩ := C.t.d.def_ 29 (d := Hd.dD29) rfl
  have F29 : FunD K "_law_standings" "_law_standings" (defArgs (topS 68)) (defBody (topS 68)) (defScope (topS 68)) [] [] (He.fAd K ("_law_standings", none)) fd29 := F29
  obtain ⟨fd30, F30⟩ := C.t.d.def_ 30 (d := Hd.dD30) rfl
  have F30 : FunD K "_law_people_ok" "_law_people_ok" (defArgs (topS 69)) (defBody (topS 69)) (defScope (topS 69)) [] [] (He.fAd K ("_law_people_ok", none)) fd30 := F30
  obtain ⟨fd31, F31⟩ := C.t.d.def_ 31 (d := Hd.dD31) rfl
  have F31 : FunD K "_law_begun" "_law_begun" (defArgs (topS 70)) (defBody (topS 70)) (defScope (topS 70)) [] [] (He.fAd K ("_law_begun", none)) fd31 := F31
  obtain ⟨fd32, F32⟩ := C.t.d.def_ 32 (d := Hd.dD32) rfl
  have F32 : FunD K "_law_rich_woods" "_law_rich_woods" (defArgs (topS 71)) (defBody (topS 71)) (defScope (topS 71)) [] [] (He.fAd K ("_law_rich_woods", none)) fd32 := F32
  obtain ⟨fd33, F33⟩ := C.t.d.def_ 33 (d := Hd.dD33) rfl
  have F33 : FunD K "_law_tried" "_law_tried" (defArgs (topS 72)) (defBody (topS 72)) (defScope (topS 72)) [] [] (He.fAd K ("_law_tried", none)) fd33 := F33
  obtain ⟨fd34, F34⟩ := C.t.d.def_ 34 (d := Hd.dD34) rfl
  have F34 : FunD K "_law_drawn" "_law_drawn" (defArgs (topS 73)) (defBody (topS 73)) (defScope (topS 73)) [] [] (He.fAd K ("_law_drawn", none)) fd34 := F34
  obtain ⟨fd35, F35⟩ := C.t.d.def_ 35 (d := Hd.dD35) rfl
  have F35 : FunD K "law" "law" (defArgs (topS 74)) (defBody (topS 74)) (defScope (topS 74)) [] [] (He.fAd K ("law", none)) fd35 := F35
  have aC_Sayings : PySem.W.nsIn K mainGlobals "Sayings" = some (some (.ref (He.ga K "Sayings"))) := of_decide_eq_true (show decide (PySem.W.nsIn K mainGlobals "Sayings" = some (some (.ref (He.ga K "Sayings")))) = true from atHB C.more 0 0 (r := Hd.exL0) rfl rfl)
  have pg_Sayings : PySem.W.plainGet K (He.ga K "Sayings") Str.empty = true := of_decide_eq_true (show decide (PySem.W.plainGet K (He.ga K "Sayings") Str.empty = true) = true from atHB C.more 0 1 (r := Hd.exL0) rfl rfl)
  have hd_Sayings : PySem.W.hasDictIn K (He.ga K "Sayings") = true := of_decide_eq_true (show decide (PySem.W.hasDictIn K (He.ga K "Sayings") = true) = true from atHB C.more 0 2 (r := Hd.exL0) rfl rfl)
  have po_Sayings : PySem.W.plainOver K (He.ga K "Sayings") = true := of_decide_eq_true (show decide (PySem.W.plainOver K (He.ga K "Sayings") = true) = true from atHB C.more 0 3 (r := Hd.exL0) rfl rfl)
  have sa_Sayings : PySem.W.findIn K (.ref (He.ga K "Sayings")) "__setattr__" = some (some (.builtin "object.__setattr__")) := of_decide_eq_true (show decide (PySem.W.findIn K (.ref (He.ga K "Sayings")) "__setattr__" = some (some (.builtin "object.__setattr__"))) = true from atHB C.more 0 4 (r := Hd.exL0) rfl rfl)
  have mk_Sayings : PySem.W.makesIn K (He.ga K "Sayings") = true := of_decide_eq_true (show decide (PySem.W.makesIn K (He.ga K "Sayings") = true) = true from atHB C.more 0 5 (r := Hd.exL0) rfl rfl)
  have kc_Sayings : PySem.W.keepIn K (.ref (He.ga K "Sayings")) = true := of_decide_eq_true (show decide (PySem.W.keepIn K (.ref (He.ga K "Sayings")) = true) = true from atHB C.more 0 6 (r := Hd.exL0) rfl rfl)
  have nA_Sayings_given : PySem.W.findIn K (.ref (He.ga K "Sayings")) "given" = some none := of_decide_eq_true (show decide (PySem.W.findIn K (.ref (He.ga K "Sayings")) "given" = some none) = true from atHB C.more 0 7 (r := Hd.exL0) rfl rfl)
  have nA_Sayings_size : PySem.W.findIn K (.ref (He.ga K "Sayings")) "size" = some none := of_decide_eq_true (show decide (PySem.W.findIn K (.ref (He.ga K "Sayings")) "size" = some none) = true from atHB C.more 0 8 (r := Hd.exL0) rfl rfl)
  have aC_Tray : PySem.W.nsIn K mainGlobals "Tray" = some (some (.ref (He.ga K "Tray"))) := of_decide_eq_true (show decide (PySem.W.nsIn K mainGlobals "Tray" = some (some (.ref (He.ga K "Tray")))) = true from atHB C.more 0 9 (r := Hd.exL0) rfl rfl)
  have pg_Tray : PySem.W.plainGet K (He.ga K "Tray") Str.empty = true := of_decide_eq_true (show decide (PySem.W.plainGet K (He.ga K "Tray") Str.empty = true) = true from atHB C.more 0 10 (r := Hd.exL0) rfl rfl)
  have hd_Tray : PySem.W.hasDictIn K (He.ga K "Tray") = true := of_decide_eq_true (show decide (PySem.W.hasDictIn K (He.ga K "Tray") = true) = true from atHB C.more 0 11 (r := Hd.exL0) rfl rfl)
  have po_Tray : PySem.W.plainOver K (He.ga K "Tray") = true := of_decide_eq_true (show decide (PySem.W.plainOver K (He.ga K "Tray") = true) = true from atHB C.more 0 12 (r := Hd.exL0) rfl rfl)
  have sa_Tray : PySem.W.findIn K (.ref (He.ga K "Tray")) "__setattr__" = some (some (.builtin "object.__setattr__")) := of_decide_eq_true (show decide (PySem.W.findIn K (.ref (He.ga K "Tray")) "__setattr__" = some (some (.builtin "object.__setattr__"))) = true from atHB C.more 0 13 (r := Hd.exL0) rfl rfl)
  have mk_Tray : PySem.W.makesIn K (He.ga K "Tray") = true := of_decide_eq_true (show decide (PySem.W.makesIn K (He.ga K "Tray") = true) = true from atHB C.more 0 14 (r := Hd.exL0) rfl rfl)
  have kc_Tray : PySem.W.keepIn K (.ref (He.ga K "Tray")) = true := of_decide_eq_true (show decide (PySem.W.keepIn K (.ref (He.ga K "Tray")) = true) = true from atHB C.more 0 15 (r := Hd.exL0) rfl rfl)
  have nA_Tray_stock : PySem.W.findIn K (.ref (He.ga K "Tray")) "stock" = some none := of_decide_eq_true (show decide (PySem.W.findIn K (.ref (He.ga K "Tray")) "stock" = some none) = true from atHB C.more 0 16 (r := Hd.exL0) rfl rfl)
  have aC_Room : PySem.W.nsIn K mainGlobals "Room" = some (some (.ref (He.ga K "Room"))) := of_decide_eq_true (show decide (PySem.W.nsIn K mainGlobals "Room" = some (some (.ref (He.ga K "Room")))) = true from atHB C.more 0 17 (r := Hd.exL0) rfl rfl)
  have pg_Room : PySem.W.plainGet K (He.ga K "Room") Str.empty = true := of_decide_eq_true (show decide (PySem.W.plainGet K (He.ga K "Room") Str.empty = true) = true from atHB C.more 0 18 (r := Hd.exL0) rfl rfl)
  have hd_Room : PySem.W.hasDictIn K (He.ga K "Room") = true := of_decide_eq_true (show decide (PySem.W.hasDictIn K (He.ga K "Room") = true) = true from atHB C.more 0 19 (r := Hd.exL0) rfl rfl)
  have po_Room : PySem.W.plainOver K (He.ga K "Room") = true := of_decide_eq_true (show decide (PySem.W.plainOver K (He.ga K "Room") = true) = true from atHB C.more 0 20 (r := Hd.exL0) rfl rfl)
  have sa_Room : PySem.W.findIn K (.ref (He.ga K "Room")) "__setattr__" = some (some (.builtin "object.__setattr__")) := of_decide_eq_true (show decide (PySem.W.findIn K (.ref (He.ga K "Room")) "__setattr__" = some (some (.builtin "object.__setattr__"))) = true from atHB C.more 0 21 (r := Hd.exL0) rfl rfl)
  have mk_Room : PySem.W.makesIn K (He.ga K "Room") = true := of_decide_eq_true (show decide (PySem.W.makesIn K (He.ga K "Room") = true) = true from atHB C.more 0 22 (r := Hd.exL0) rfl rfl)
  have kc_Room : PySem.W.keepIn K (.ref (He.ga K "Room")) = true := of_decide_eq_true (show decide (PySem.W.keepIn K (.ref (He.ga K "Room")) = true) = true from atHB C.more 0 23 (r := Hd.exL0) rfl rfl)
  have nA_Room_box : PySem.W.findIn K (.ref (He.ga K "Room")) "box" = some none := of_decide_eq_true (show decide (PySem.W.findIn K (.ref (He.ga K "Room")) "box" = some none) = true from atHB C.more 0 24 (r := Hd.exL0) rfl rfl)
  have nA_Room_ended : PySem.W.findIn K (.ref (He.ga K "Room")) "ended" = some none := of_decide_eq_true (show decide (PySem.W.findIn K (.ref (He.ga K "Room")) "ended" = some none) = true from atHB C.more 0 25 (r := Hd.exL0) rfl rfl)
  have nA_Room_filled : PySem.W.findIn K (.ref (He.ga K "Room")) "filled" = some none := of_decide_eq_true (show decide (PySem.W.findIn K (.ref (He.ga K "Room")) "filled" = some none) = true from atHB C.more 0 26 (r := Hd.exL0) rfl rfl)
  have nA_Room_heard : PySem.W.findIn K (.ref (He.ga K "Room")) "heard" = some none := of_decide_eq_true (show decide (PySem.W.findIn K (.ref (He.ga K "Room")) "heard" = some none) = true from atHB C.more 0 27 (r := Hd.exL0) rfl rfl)
  have nA_Room_lifted : PySem.W.findIn K (.ref (He.ga K "Room")) "lifted" = some none := of_decide_eq_true (show decide (PySem.W.findIn K (.ref (He.ga K "Room")) "lifted" = some none) = true from atHB C.more 0 28 (r := Hd.exL0) rfl rfl)
  have nA_Room_people : PySem.W.findIn K (.ref (He.ga K "Room")) "people" = some none := of_decide_eq_true (show decide (PySem.W.findIn K (.ref (He.ga K "Room")) "people" = some none) = true from atHB C.more 0 29 (r := Hd.exL0) rfl rfl)
  have nA_Room_scores : PySem.W.findIn K (.ref (He.ga K "Room")) "scores" = some none := of_decide_eq_true (show decide (PySem.W.findIn K (.ref (He.ga K "Room")) "scores" = some none) = true from atHB C.more 1 0 (r := Hd.exL1) rfl rfl)
  have nA_Room_wrote : PySem.W.findIn K (.ref (He.ga K "Room")) "wrote" = some none := of_decide_eq_true (show decide (PySem.W.findIn K (.ref (He.ga K "Room")) "wrote" = some none) = true from atHB C.more 1 1 (r := Hd.exL1) rfl rfl)
  have a0 : PySem.W.nsIn K mainGlobals "look_many" = some (some (.ref (He.fAd K ("look_many", none)))) := of_decide_eq_true (show decide (PySem.W.nsIn K mainGlobals "look_many" = some (some (.ref (He.fAd K ("look_many", none))))) = true from atHB C.more 1 2 (r := Hd.exL1) rfl rfl)
  have a1 : PySem.W.findIn K (.ref (He.ga K "Sayings")) "__init__" = some (some (.ref (He.fAd K ("Sayings", some "__init__")))) := of_decide_eq_true (show decide (PySem.W.findIn K (.ref (He.ga K "Sayings")) "__init__" = some (some (.ref (He.fAd K ("Sayings", some "__init__"))))) = true from atHB C.more 1 3 (r := Hd.exL1) rfl rfl)
  have i1 : PySem.W.isFn K (.ref (He.fAd K ("Sayings", some "__init__"))) = true := of_decide_eq_true (show decide (PySem.W.isFn K (.ref (He.fAd K ("Sayings", some "__init__"))) = true) = true from atHB C.more 1 4 (r := Hd.exL1) rfl rfl)
  have a2 : PySem.W.nsIn K mainGlobals "good_name" = some (some (.ref (He.fAd K ("good_name", none)))) := of_decide_eq_true (show decide (PySem.W.nsIn K mainGlobals "good_name" = some (some (.ref (He.fAd K ("good_name", none))))) = true from atHB C.more 1 5 (r := Hd.exL1) rfl rfl)
  have a3 : PySem.W.findIn K (.ref (He.ga K "Tray")) "__init__" = some (some (.ref (He.fAd K ("Tray", some "__init__")))) := of_decide_eq_true (show decide (PySem.W.findIn K (.ref (He.ga K "Tray")) "__init__" = some (some (.ref (He.fAd K ("Tray", some "__init__"))))) = true from atHB C.more 1 6 (r := Hd.exL1) rfl rfl)
  have i3 : PySem.W.isFn K (.ref (He.fAd K ("Tray", some "__init__"))) = true := of_decide_eq_true (show decide (PySem.W.isFn K (.ref (He.fAd K ("Tray", some "__init__"))) = true) = true from atHB C.more 1 7 (r := Hd.exL1) rfl rfl)
  have a4 : PySem.W.findIn K (.ref (He.ga K "Room")) "__init__" = some (some (.ref (He.fAd K ("Room", some "__init__")))) := of_decide_eq_true (show decide (PySem.W.findIn K (.ref (He.ga K "Room")) "__init__" = some (some (.ref (He.fAd K ("Room", some "__init__"))))) = true from atHB C.more 1 8 (r := Hd.exL1) rfl rfl)
  have i4 : PySem.W.isFn K (.ref (He.fAd K ("Room", some "__init__"))) = true := of_decide_eq_true (show decide (PySem.W.isFn K (.ref (He.fAd K ("Room", some "__init__"))) = true) = true from atHB C.more 1 9 (r := Hd.exL1) rfl rfl)
  have a5 : PySem.W.findIn K (.ref (He.ga K "Room")) "look_listener" = some (some (.ref (He.fAd K ("Room", some "look_listener")))) := of_decide_eq_true (show decide (PySem.W.findIn K (.ref (He.ga K "Room")) "look_listener" = some (some (.ref (He.fAd K ("Room", some "look_listener"))))) = true from atHB C.more 1 10 (r := Hd.exL1) rfl rfl)
  have i5 : PySem.W.isFn K (.ref (He.fAd K ("Room", some "look_listener"))) = true := of_decide_eq_true (show decide (PySem.W.isFn K (.ref (He.fAd K ("Room", some "look_listener"))) = true) = true from atHB C.more 1 11 (r := Hd.exL1) rfl rfl)
  have a6 : PySem.W.findIn K (.ref (He.ga K "Room")) "come" = some (some (.ref (He.fAd K ("Room", some "come")))) := of_decide_eq_true (show decide (PySem.W.findIn K (.ref (He.ga K "Room")) "come" = some (some (.ref (He.fAd K ("Room", some "come"))))) = true from atHB C.more 1 12 (r := Hd.exL1) rfl rfl)
  have i6 : PySem.W.isFn K (.ref (He.fAd K ("Room", some "come"))) = true := of_decide_eq_true (show decide (PySem.W.isFn K (.ref (He.fAd K ("Room", some "come"))) = true) = true from atHB C.more 1 13 (r := Hd.exL1) rfl rfl)
  have a7 : PySem.W.findIn K (.ref (He.ga K "Room")) "leave" = some (some (.ref (He.fAd K ("Room", some "leave")))) := of_decide_eq_true (show decide (PySem.W.findIn K (.ref (He.ga K "Room")) "leave" = some (some (.ref (He.fAd K ("Room", some "leave"))))) = true from atHB C.more 1 14 (r := Hd.exL1) rfl rfl)
  have i7 : PySem.W.isFn K (.ref (He.fAd K ("Room", some "leave"))) = true := of_decide_eq_true (show decide (PySem.W.isFn K (.ref (He.fAd K ("Room", some "leave"))) = true) = true from atHB C.more 1 15 (r := Hd.exL1) rfl rfl)
  have a8 : PySem.W.findIn K (.ref (He.ga K "Room")) "listeners" = some (some (.ref (He.fAd K ("Room", some "listeners")))) := of_decide_eq_true (show decide (PySem.W.findIn K (.ref (He.ga K "Room")) "listeners" = some (some (.ref (He.fAd K ("Room", some "listeners"))))) = true from atHB C.more 1 16 (r := Hd.exL1) rfl rfl)
  have i8 : PySem.W.isFn K (.ref (He.fAd K ("Room", some "listeners"))) = true := of_decide_eq_true (show decide (PySem.W.isFn K (.ref (He.fAd K ("Room", some "listeners"))) = true) = true from atHB C.more 1 17 (r := Hd.exL1) rfl rfl)
  have a9 : PySem.W.findIn K (.ref (He.ga K "Room")) "points" = some (some (.ref (He.fAd K ("Room", some "points")))) := of_decide_eq_true (show decide (PySem.W.findIn K (.ref (He.ga K "Room")) "points" = some (some (.ref (He.fAd K ("Room", some "points"))))) = true from atHB C.more 1 18 (r := Hd.exL1) rfl rfl)
  have i9 : PySem.W.isFn K (.ref (He.fAd K ("Room", some "points"))) = true := of_decide_eq_true (show decide (PySem.W.isFn K (.ref (He.fAd K ("Room", some "points"))) = true) = true from atHB C.more 1 19 (r := Hd.exL1) rfl rfl)
  have a10 : PySem.W.findIn K (.ref (He.ga K "Room")) "standings" = some (some (.ref (He.fAd K ("Room", some "standings")))) := of_decide_eq_true (show decide (PySem.W.findIn K (.ref (He.ga K "Room")) "standings" = some (some (.ref (He.fAd K ("Room", some "standings"))))) = true from atHB C.more 1 20 (r := Hd.exL1) rfl rfl)
  have i10 : PySem.W.isFn K (.ref (He.fAd K ("Room", some "standings"))) = true := of_decide_eq_true (show decide (PySem.W.isFn K (.ref (He.fAd K ("Room", some "standings"))) = true) = true from atHB C.more 1 21 (r := Hd.exL1) rfl rfl)
  have a11 : PySem.W.nsIn K mainGlobals "_law_draw" = some (some (.ref (He.fAd K ("_law_draw", none)))) := of_decide_eq_true (show decide (PySem.W.nsIn K mainGlobals "_law_draw" = some (some (.ref (He.fAd K ("_law_draw", none))))) = true from atHB C.more 1 22 (r := Hd.exL1) rfl rfl)
  have a12 : PySem.W.nsIn K mainGlobals "_law_cell" = some (some (.ref (He.fAd K ("_law_cell", none)))) := of_decide_eq_true (show decide (PySem.W.nsIn K mainGlobals "_law_cell" = some (some (.ref (He.fAd K ("_law_cell", none))))) = true from atHB C.more 1 23 (r := Hd.exL1) rfl rfl)
  have a13 : PySem.W.nsIn K mainGlobals "_law_many" = some (some (.ref (He.fAd K ("_law_many", none)))) := of_decide_eq_true (show decide (PySem.W.nsIn K mainGlobals "_law_many" = some (some (.ref (He.fAd K ("_law_many", none))))) = true from atHB C.more 1 24 (r := Hd.exL1) rfl rfl)
  have a14 : PySem.W.nsIn K mainGlobals "_law_num" = some (some (.ref (He.fAd K ("_law_num", none)))) := of_decide_eq_true (show decide (PySem.W.nsIn K mainGlobals "_law_num" = some (some (.ref (He.fAd K ("_law_num", none))))) = true from atHB C.more 1 25 (r := Hd.exL1) rfl rfl)
  have a15 : PySem.W.nsIn K mainGlobals "_law_split" = some (some (.ref (He.fAd K ("_law_split", none)))) := of_decide_eq_true (show decide (PySem.W.nsIn K mainGlobals "_law_split" = some (some (.ref (He.fAd K ("_law_split", none))))) = true from atHB C.more 1 26 (r := Hd.exL1) rfl rfl)
  have a16 : PySem.W.nsIn K mainGlobals "_law_refused" = some (some (.ref (He.fAd K ("_law_refused", none)))) := of_decide_eq_true (show decide (PySem.W.nsIn K mainGlobals "_law_refused" = some (some (.ref (He.fAd K ("_law_refused", none))))) = true from atHB C.more 1 27 (r := Hd.exL1) rfl rfl)
  have a17 : PySem.W.nsIn K mainGlobals "_law_names" = some (some (.ref (He.fAd K ("_law_names", none)))) := of_decide_eq_true (show decide (PySem.W.nsIn K mainGlobals "_law_names" = some (some (.ref (He.fAd K ("_law_names", none))))) = true from atHB C.more 1 28 (r := Hd.exL1) rfl rfl)
  have a18 : PySem.W.nsIn K mainGlobals "_law_woods" = some (some (.ref (He.fAd K ("_law_woods", none)))) := of_decide_eq_true (show decide (PySem.W.nsIn K mainGlobals "_law_woods" = some (some (.ref (He.fAd K ("_law_woods", none))))) = true from atHB C.more 1 29 (r := Hd.exL1) rfl rfl)
  have a19 : PySem.W.nsIn K mainGlobals "_law_pair_of_wood" = some (some (.ref (He.fAd K ("_law_pair_of_wood", none)))) := of_decide_eq_true (show decide (PySem.W.nsIn K mainGlobals "_law_pair_of_wood" = some (some (.ref (He.fAd K ("_law_pair_of_wood", none))))) = true from atHB C.more 2 0 (r := Hd.exL2) rfl rfl)
  have a20 : PySem.W.nsIn K mainGlobals "_law_total" = some (some (.ref (He.fAd K ("_law_total", none)))) := of_decide_eq_true (show decide (PySem.W.nsIn K mainGlobals "_law_total" = some (some (.ref (He.fAd K ("_law_total", none))))) = true from atHB C.more 2 1 (r := Hd.exL2) rfl rfl)
  have a21 : PySem.W.nsIn K mainGlobals "_law_saying_ok" = some (some (.ref (He.fAd K ("_law_saying_ok", none)))) := of_decide_eq_true (show decide (PySem.W.nsIn K mainGlobals "_law_saying_ok" = some (some (.ref (He.fAd K ("_law_saying_ok", none))))) = true from atHB C.more 2 2 (r := Hd.exL2) rfl rfl)
  have a22 : PySem.W.nsIn K mainGlobals "_law_model" = some (some (.ref (He.fAd K ("_law_model", none)))) := of_decide_eq_true (show decide (PySem.W.nsIn K mainGlobals "_law_model" = some (some (.ref (He.fAd K ("_law_model", none))))) = true from atHB C.more 2 3 (r := Hd.exL2) rfl rfl)
  have a23 : PySem.W.nsIn K mainGlobals "_law_name_ok" = some (some (.ref (He.fAd K ("_law_name_ok", none)))) := of_decide_eq_true (show decide (PySem.W.nsIn K mainGlobals "_law_name_ok" = some (some (.ref (He.fAd K ("_law_name_ok", none))))) = true from atHB C.more 2 4 (r := Hd.exL2) rfl rfl)
  have a24 : PySem.W.nsIn K mainGlobals "_law_come" = some (some (.ref (He.fAd K ("_law_come", none)))) := of_decide_eq_true (show decide (PySem.W.nsIn K mainGlobals "_law_come" = some (some (.ref (He.fAd K ("_law_come", none))))) = true from atHB C.more 2 5 (r := Hd.exL2) rfl rfl)
  have a25 : PySem.W.nsIn K mainGlobals "_law_leave" = some (some (.ref (He.fAd K ("_law_leave", none)))) := of_decide_eq_true (show decide (PySem.W.nsIn K mainGlobals "_law_leave" = some (some (.ref (He.fAd K ("_law_leave", none))))) = true from atHB C.more 2 6 (r := Hd.exL2) rfl rfl)
  have a26 : PySem.W.nsIn K mainGlobals "_law_result_ok" = some (some (.ref (He.fAd K ("_law_result_ok", none)))) := of_decide_eq_true (show decide (PySem.W.nsIn K mainGlobals "_law_result_ok" = some (some (.ref (He.fAd K ("_law_result_ok", none))))) = true from atHB C.more 2 7 (r := Hd.exL2) rfl rfl)
  have a27 : PySem.W.nsIn K mainGlobals "_law_pairs_told" = some (some (.ref (He.fAd K ("_law_pairs_told", none)))) := of_decide_eq_true (show decide (PySem.W.nsIn K mainGlobals "_law_pairs_told" = some (some (.ref (He.fAd K ("_law_pairs_told", none))))) = true from atHB C.more 2 8 (r := Hd.exL2) rfl rfl)
  have a28 : PySem.W.nsIn K mainGlobals "_law_points" = some (some (.ref (He.fAd K ("_law_points", none)))) := of_decide_eq_true (show decide (PySem.W.nsIn K mainGlobals "_law_points" = some (some (.ref (He.fAd K ("_law_points", none))))) = true from atHB C.more 2 9 (r := Hd.exL2) rfl rfl)
  have a29 : PySem.W.nsIn K mainGlobals "_law_standings" = some (some (.ref (He.fAd K ("_law_standings", none)))) := of_decide_eq_true (show decide (PySem.W.nsIn K mainGlobals "_law_standings" = some (some (.ref (He.fAd K ("_law_standings", none))))) = true from atHB C.more 2 10 (r := Hd.exL2) rfl rfl)
  have a30 : PySem.W.nsIn K mainGlobals "_law_people_ok" = some (some (.ref (He.fAd K ("_law_people_ok", none)))) := of_decide_eq_true (show decide (PySem.W.nsIn K mainGlobals "_law_people_ok" = some (some (.ref (He.fAd K ("_law_people_ok", none))))) = true from atHB C.more 2 11 (r := Hd.exL2) rfl rfl)
  have a31 : PySem.W.nsIn K mainGlobals "_law_begun" = some (some (.ref (He.fAd K ("_law_begun", none)))) := of_decide_eq_true (show decide (PySem.W.nsIn K mainGlobals "_law_begun" = some (some (.ref (He.fAd K ("_law_begun", none))))) = true from atHB C.more 2 12 (r := Hd.exL2) rfl rfl)
  have a32 : PySem.W.nsIn K mainGlobals "_law_rich_woods" = some (some (.ref (He.fAd K ("_law_rich_woods", none)))) := of_decide_eq_true (show decide (PySem.W.nsIn K mainGlobals "_law_rich_woods" = some (some (.ref (He.fAd K ("_law_rich_woods", none))))) = true from atHB C.more 2 13 (r := Hd.exL2) rfl rfl)
  have a33 : PySem.W.nsIn K mainGlobals "_law_tried" = some (some (.ref (He.fAd K ("_law_tried", none)))) := of_decide_eq_true (show decide (PySem.W.nsIn K mainGlobals "_law_tried" = some (some (.ref (He.fAd K ("_law_tried", none))))) = true from atHB C.more 2 14 (r := Hd.exL2) rfl rfl)
  have a34 : PySem.W.nsIn K mainGlobals "_law_drawn" = some (some (.ref (He.fAd K ("_law_drawn", none)))) := of_decide_eq_true (show decide (PySem.W.nsIn K mainGlobals "_law_drawn" = some (some (.ref (He.fAd K ("_law_drawn", none))))) = true from atHB C.more 2 15 (r := Hd.exL2) rfl rfl)
  have a35 : PySem.W.nsIn K mainGlobals "law" = some (some (.ref (He.fAd K ("law", none)))) := of_decide_eq_true (show decide (PySem.W.nsIn K mainGlobals "law" = some (some (.ref (He.fAd K ("law", none))))) = true from atHB C.more 2 16 (r := Hd.exL2) rfl rfl)
  obtain ⟨_, g_GREATEST⟩ := intHB_ok (show intHB (fun _ => mainGlobals) "GREATEST" 9 K = true from atHB C.more 2 17 (r := Hd.exL2) rfl rfl)
  obtain ⟨_, g_LETTERS⟩ := strHB_ok (show strHB "LETTERS" "abcdefghijklmnopqrstuvwxyz" K = true from atHB C.more 2 18 (r := Hd.exL2) rfl rfl)
  obtain ⟨_, g_SEATS⟩ := intHB_ok (show intHB (fun _ => mainGlobals) "SEATS" 9 K = true from atHB C.more 2 19 (r := Hd.exL2) rfl rfl)
  have g_all : PySem.W.nsIn K mainGlobals "all" = some none := of_decide_eq_true (show decide (PySem.W.nsIn K mainGlobals "all" = some none) = true from atHB C.more 2 20 (r := Hd.exL2) rfl rfl)
  have g_bool : PySem.W.nsIn K mainGlobals "bool" = some none := of_decide_eq_true (show decide (PySem.W.nsIn K mainGlobals "bool" = some none) = true from atHB C.more 2 21 (r := Hd.exL2) rfl rfl)
  have g_int : PySem.W.nsIn K mainGlobals "int" = some none := of_decide_eq_true (show decide (PySem.W.nsIn K mainGlobals "int" = some none) = true from atHB C.more 2 22 (r := Hd.exL2) rfl rfl)
  have g_isinstance : PySem.W.nsIn K mainGlobals "isinstance" = some none := of_decide_eq_true (show decide (PySem.W.nsIn K mainGlobals "isinstance" = some none) = true from atHB C.more 2 23 (r := Hd.exL2) rfl rfl)
  have g_len : PySem.W.nsIn K mainGlobals "len" = some none := of_decide_eq_true (show decide (PySem.W.nsIn K mainGlobals "len" = some none) = true from atHB C.more 2 24 (r := Hd.exL2) rfl rfl)
  have g_list : PySem.W.nsIn K mainGlobals "list" = some none := of_decide_eq_true (show decide (PySem.W.nsIn K mainGlobals "list" = some none) = true from atHB C.more 2 25 (r := Hd.exL2) rfl rfl)
  have g_max : PySem.W.nsIn K mainGlobals "max" = some none := of_decide_eq_true (show decide (PySem.W.nsIn K mainGlobals "max" = some none) = true from atHB C.more 2 26 (r := Hd.exL2) rfl rfl)
  have g_min : PySem.W.nsIn K mainGlobals "min" = some none := of_decide_eq_true (show decide (PySem.W.nsIn K mainGlobals "min" = some none) = true from atHB C.more 2 27 (r := Hd.exL2) rfl rfl)
  have g_range : PySem.W.nsIn K mainGlobals "range" = some none := of_decide_eq_true (show decide (PySem.W.nsIn K mainGlobals "range" = some none) = true from atHB C.more 2 28 (r := Hd.exL2) rfl rfl)
  have g_sorted : PySem.W.nsIn K mainGlobals "sorted" = some none := of_decide_eq_true (show decide (PySem.W.nsIn K mainGlobals "sorted" = some none) = true from atHB C.more 2 29 (r := Hd.exL2) rfl rfl)
  have g_str : PySem.W.nsIn K mainGlobals "str" = some none := of_decide_eq_true (show decide (PySem.W.nsIn K mainGlobals "str" = some none) = true from atHB C.more 3 0 (r := Hd.exL3) rfl rfl)
  have g_sum : PySem.W.nsIn K mainGlobals "sum" = some none := of_decide_eq_true (show decide (PySem.W.nsIn K mainGlobals "sum" = some none) = true from atHB C.more 3 1 (r := Hd.exL3) rfl rfl)
  have g_tuple : PySem.W.nsIn K mainGlobals "tuple" = some none := of_decide_eq_true (show decide (PySem.W.nsIn K mainGlobals "tuple" = some none) = true from atHB C.more 3 2 (r := Hd.exL3) rfl rfl)
  have xa_BadMany : PySem.W.nsIn K mainGlobals "BadMany" = some (some (.ref (He.ga K "BadMany"))) := of_decide_eq_true (show decide (PySem.W.nsIn K mainGlobals "BadMany" = some (some (.ref (He.ga K "BadMany")))) = true from atHB C.more 3 3 (r := Hd.exL3) rfl rfl)
  have xb_BadMany : PySem.W.subIn K (.ref (He.ga K "BadMany")) (.type "BaseException") = some true := of_decide_eq_true (show decide (PySem.W.subIn K (.ref (He.ga K "BadMany")) (.type "BaseException") = some true) = true from atHB C.more 3 4 (r := Hd.exL3) rfl rfl)
  have xt_BadMany : PySem.W.typeIn K (.ref (He.ga K "BadMany")) = some (.type "type") := of_decide_eq_true (show decide (PySem.W.typeIn K (.ref (He.ga K "BadMany")) = some (.type "type")) = true from atHB C.more 3 5 (r := Hd.exL3) rfl rfl)
  have xk_BadMany : PySem.W.keepIn K (.ref (He.ga K "BadMany")) = true := of_decide_eq_true (show decide (PySem.W.keepIn K (.ref (He.ga K "BadMany")) = true) = true from atHB C.more 3 6 (r := Hd.exL3) rfl rfl)
  have xi_BadMany : PySem.W.excIn K (He.ga K "BadMany") [.type "ValueError", .type "Exception", .type "BaseException", .type "object"] "ValueError.__new__" = true := of_decide_eq_true (show decide (PySem.W.excIn K (He.ga K "BadMany") [.type "ValueError", .type "Exception", .type "BaseException", .type "object"] "ValueError.__new__" = true) = true from atHB C.more 3 7 (r := Hd.exL3) rfl rfl)
  have xa_BadName : PySem.W.nsIn K mainGlobals "BadName" = some (some (.ref (He.ga K "BadName"))) := of_decide_eq_true (show decide (PySem.W.nsIn K mainGlobals "BadName" = some (some (.ref (He.ga K "BadName")))) = true from atHB C.more 3 8 (r := Hd.exL3) rfl rfl)
  have xb_BadName : PySem.W.subIn K (.ref (He.ga K "BadName")) (.type "BaseException") = some true := of_decide_eq_true (show decide (PySem.W.subIn K (.ref (He.ga K "BadName")) (.type "BaseException") = some true) = true from atHB C.more 3 9 (r := Hd.exL3) rfl rfl)
  have xt_BadName : PySem.W.typeIn K (.ref (He.ga K "BadName")) = some (.type "type") := of_decide_eq_true (show decide (PySem.W.typeIn K (.ref (He.ga K "BadName")) = some (.type "type")) = true from atHB C.more 3 10 (r := Hd.exL3) rfl rfl)
  have xk_BadName : PySem.W.keepIn K (.ref (He.ga K "BadName")) = true := of_decide_eq_true (show decide (PySem.W.keepIn K (.ref (He.ga K "BadName")) = true) = true from atHB C.more 3 11 (r := Hd.exL3) rfl rfl)
  have xi_BadName : PySem.W.excIn K (He.ga K "BadName") [.type "ValueError", .type "Exception", .type "BaseException", .type "object"] "ValueError.__new__" = true := of_decide_eq_true (show decide (PySem.W.excIn K (He.ga K "BadName") [.type "ValueError", .type "Exception", .type "BaseException", .type "object"] "ValueError.__new__" = true) = true from atHB C.more 3 12 (r := Hd.exL3) rfl rfl)
  have xa_BadTray : PySem.W.nsIn K mainGlobals "BadTray" = some (some (.ref (He.ga K "BadTray"))) := of_decide_eq_true (show decide (PySem.W.nsIn K mainGlobals "BadTray" = some (some (.ref (He.ga K "BadTray")))) = true from atHB C.more 3 13 (r := Hd.exL3) rfl rfl)
  have xb_BadTray : PySem.W.subIn K (.ref (He.ga K "BadTray")) (.type "BaseException") = some true := of_decide_eq_true (show decide (PySem.W.subIn K (.ref (He.ga K "BadTray")) (.type "BaseException") = some true) = true from atHB C.more 3 14 (r := Hd.exL3) rfl rfl)
  have xt_BadTray : PySem.W.typeIn K (.ref (He.ga K "BadTray")) = some (.type "type") := of_decide_eq_true (show decide (PySem.W.typeIn K (.ref (He.ga K "BadTray")) = some (.type "type")) = true from atHB C.more 3 15 (r := Hd.exL3) rfl rfl)
  have xk_BadTray : PySem.W.keepIn K (.ref (He.ga K "BadTray")) = true := of_decide_eq_true (show decide (PySem.W.keepIn K (.ref (He.ga K "BadTray")) = true) = true from atHB C.more 3 16 (r := Hd.exL3) rfl rfl)
  have xi_BadTray : PySem.W.excIn K (He.ga K "BadTray") [.type "ValueError", .type "Exception", .type "BaseException", .type "object"] "ValueError.__new__" = true := of_decide_eq_true (show decide (PySem.W.excIn K (He.ga K "BadTray") [.type "ValueError", .type "Exception", .type "BaseException", .type "object"] "ValueError.__new__" = true) = true from atHB C.more 3 17 (r := Hd.exL3) rfl rfl)
  have xa_Full : PySem.W.nsIn K mainGlobals "Full" = some (some (.ref (He.ga K "Full"))) := of_decide_eq_true (show decide (PySem.W.nsIn K mainGlobals "Full" = some (some (.ref (He.ga K "Full")))) = true from atHB C.more 3 18 (r := Hd.exL3) rfl rfl)
  have xb_Full : PySem.W.subIn K (.ref (He.ga K "Full")) (.type "BaseException") = some true := of_decide_eq_true (show decide (PySem.W.subIn K (.ref (He.ga K "Full")) (.type "BaseException") = some true) = true from atHB C.more 3 19 (r := Hd.exL3) rfl rfl)
  have xt_Full : PySem.W.typeIn K (.ref (He.ga K "Full")) = some (.type "type") := of_decide_eq_true (show decide (PySem.W.typeIn K (.ref (He.ga K "Full")) = some (.type "type")) = true from atHB C.more 3 20 (r := Hd.exL3) rfl rfl)
  have xk_Full : PySem.W.keepIn K (.ref (He.ga K "Full")) = true := of_decide_eq_true (show decide (PySem.W.keepIn K (.ref (He.ga K "Full")) = true) = true from atHB C.more 3 21 (r := Hd.exL3) rfl rfl)
  have xi_Full : PySem.W.excIn K (He.ga K "Full") [.type "ValueError", .type "Exception", .type "BaseException", .type "object"] "ValueError.__new__" = true := of_decide_eq_true (show decide (PySem.W.excIn K (He.ga K "Full") [.type "ValueError", .type "Exception", .type "BaseException", .type "object"] "ValueError.__new__" = true) = true from atHB C.more 3 22 (r := Hd.exL3) rfl rfl)
  have xa_NoListener : PySem.W.nsIn K mainGlobals "NoListener" = some (some (.ref (He.ga K "NoListener"))) := of_decide_eq_true (show decide (PySem.W.nsIn K mainGlobals "NoListener" = some (some (.ref (He.ga K "NoListener")))) = true from atHB C.more 3 23 (r := Hd.exL3) rfl rfl)
  have xb_NoListener : PySem.W.subIn K (.ref (He.ga K "NoListener")) (.type "BaseException") = some true := of_decide_eq_true (show decide (PySem.W.subIn K (.ref (He.ga K "NoListener")) (.type "BaseException") = some true) = true from atHB C.more 3 24 (r := Hd.exL3) rfl rfl)
  have xt_NoListener : PySem.W.typeIn K (.ref (He.ga K "NoListener")) = some (.type "type") := of_decide_eq_true (show decide (PySem.W.typeIn K (.ref (He.ga K "NoListener")) = some (.type "type")) = true from atHB C.more 3 25 (r := Hd.exL3) rfl rfl)
  have xk_NoListener : PySem.W.keepIn K (.ref (He.ga K "NoListener")) = true := of_decide_eq_true (show decide (PySem.W.keepIn K (.ref (He.ga K "NoListener")) = true) = true from atHB C.more 3 26 (r := Hd.exL3) rfl rfl)
  have xi_NoListener : PySem.W.excIn K (He.ga K "NoListener") [.type "ValueError", .type "Exception", .type "BaseException", .type "object"] "ValueError.__new__" = true := of_decide_eq_true (show decide (PySem.W.excIn K (He.ga K "NoListener") [.type "ValueError", .type "Exception", .type "BaseException", .type "object"] "ValueError.__new__" = true) = true from atHB C.more 3 27 (r := Hd.exL3) rfl rfl)
  have xa_Taken : PySem.W.nsIn K mainGlobals "Taken" = some (some (.ref (He.ga K "Taken"))) := of_decide_eq_true (show decide (PySem.W.nsIn K mainGlobals "Taken" = some (some (.ref (He.ga K "Taken")))) = true from atHB C.more 3 28 (r := Hd.exL3) rfl rfl)
  have xb_Taken : PySem.W.subIn K (.ref (He.ga K "Taken")) (.type "BaseException") = some true := of_decide_eq_true (show decide (PySem.W.subIn K (.ref (He.ga K "Taken")) (.type "BaseException") = some true) = true from atHB C.more 3 29 (r := Hd.exL3) rfl rfl)
  have xt_Taken : PySem.W.typeIn K (.ref (He.ga K "Taken")) = some (.type "type") := of_decide_eq_true (show decide (PySem.W.typeIn K (.ref (He.ga K "Taken")) = some (.type "type")) = true from atHB C.more 4 0 (r := Hd.exL4) rfl rfl)
  have xk_Taken : PySem.W.keepIn K (.ref (He.ga K "Taken")) = true := of_decide_eq_true (show decide (PySem.W.keepIn K (.ref (He.ga K "Taken")) = true) = true from atHB C.more 4 1 (r := Hd.exL4) rfl rfl)
  have xi_Taken : PySem.W.excIn K (He.ga K "Taken") [.type "ValueError", .type "Exception", .type "BaseException", .type "object"] "ValueError.__new__" = true := of_decide_eq_true (show decide (PySem.W.excIn K (He.ga K "Taken") [.type "ValueError", .type "Exception", .type "BaseException", .type "object"] "ValueError.__new__" = true) = true from atHB C.more 4 2 (r := Hd.exL4) rfl rfl)
  have ya_BadMany_BadName : PySem.W.subIn K (.ref (He.ga K "BadMany")) (.ref (He.ga K "BadName")) = some false := of_decide_eq_true (show decide (PySem.W.subIn K (.ref (He.ga K "BadMany")) (.ref (He.ga K "BadName")) = some false) = true from atHB C.more 4 3 (r := Hd.exL4) rfl rfl)
  have xc_BadName : PySem.W.isClsIn K (He.ga K "BadName") = true := of_decide_eq_true (show decide (PySem.W.isClsIn K (He.ga K "BadName") = true) = true from atHB C.more 4 4 (r := Hd.exL4) rfl rfl)
  have ya_BadMany_Full : PySem.W.subIn K (.ref (He.ga K "BadMany")) (.ref (He.ga K "Full")) = some false := of_decide_eq_true (show decide (PySem.W.subIn K (.ref (He.ga K "BadMany")) (.ref (He.ga K "Full")) = some false) = true from atHB C.more 4 5 (r := Hd.exL4) rfl rfl)
  have xc_Full : PySem.W.isClsIn K (He.ga K "Full") = true := of_decide_eq_true (show decide (PySem.W.isClsIn K (He.ga K "Full") = true) = true from atHB C.more 4 6 (r := Hd.exL4) rfl rfl)
  have ya_BadMany_NoListener : PySem.W.subIn K (.ref (He.ga K "BadMany")) (.ref (He.ga K "NoListener")) = some false := of_decide_eq_true (show decide (PySem.W.subIn K (.ref (He.ga K "BadMany")) (.ref (He.ga K "NoListener")) = some false) = true from atHB C.more 4 7 (r := Hd.exL4) rfl rfl)
  have xc_NoListener : PySem.W.isClsIn K (He.ga K "NoListener") = true := of_decide_eq_true (show decide (PySem.W.isClsIn K (He.ga K "NoListener") = true) = true from atHB C.more 4 8 (r := Hd.exL4) rfl rfl)
  have ya_BadMany_Taken : PySem.W.subIn K (.ref (He.ga K "BadMany")) (.ref (He.ga K "Taken")) = some false := of_decide_eq_true (show decide (PySem.W.subIn K (.ref (He.ga K "BadMany")) (.ref (He.ga K "Taken")) = some false) = true from atHB C.more 4 9 (r := Hd.exL4) rfl rfl)
  have xc_Taken : PySem.W.isClsIn K (He.ga K "Taken") = true := of_decide_eq_true (show decide (PySem.W.isClsIn K (He.ga K "Taken") = true) = true from atHB C.more 4 10 (r := Hd.exL4) rfl rfl)
  have ya_BadName_BadName : PySem.W.subIn K (.ref (He.ga K "BadName")) (.ref (He.ga K "BadName")) = some true := of_decide_eq_true (show decide (PySem.W.subIn K (.ref (He.ga K "BadName")) (.ref (He.ga K "BadName")) = some true) = true from atHB C.more 4 11 (r := Hd.exL4) rfl rfl)
  have ya_BadName_Full : PySem.W.subIn K (.ref (He.ga K "BadName")) (.ref (He.ga K "Full")) = some false := of_decide_eq_true (show decide (PySem.W.subIn K (.ref (He.ga K "BadName")) (.ref (He.ga K "Full")) = some false) = true from atHB C.more 4 12 (r := Hd.exL4) rfl rfl)
  have ya_BadName_NoListener : PySem.W.subIn K (.ref (He.ga K "BadName")) (.ref (He.ga K "NoListener")) = some false := of_decide_eq_true (show decide (PySem.W.subIn K (.ref (He.ga K "BadName")) (.ref (He.ga K "NoListener")) = some false) = true from atHB C.more 4 13 (r := Hd.exL4) rfl rfl)
  have ya_BadName_Taken : PySem.W.subIn K (.ref (He.ga K "BadName")) (.ref (He.ga K "Taken")) = some false := of_decide_eq_true (show decide (PySem.W.subIn K (.ref (He.ga K "BadName")) (.ref (He.ga K "Taken")) = some false) = true from atHB C.more 4 14 (r := Hd.exL4) rfl rfl)
  have ya_Full_BadName : PySem.W.subIn K (.ref (He.ga K "Full")) (.ref (He.ga K "BadName")) = some false := of_decide_eq_true (show decide (PySem.W.subIn K (.ref (He.ga K "Full")) (.ref (He.ga K "BadName")) = some false) = true from atHB C.more 4 15 (r := Hd.exL4) rfl rfl)
  have ya_Full_Full : PySem.W.subIn K (.ref (He.ga K "Full")) (.ref (He.ga K "Full")) = some true := of_decide_eq_true (show decide (PySem.W.subIn K (.ref (He.ga K "Full")) (.ref (He.ga K "Full")) = some true) = true from atHB C.more 4 16 (r := Hd.exL4) rfl rfl)
  have ya_Full_NoListener : PySem.W.subIn K (.ref (He.ga K "Full")) (.ref (He.ga K "NoListener")) = some false := of_decide_eq_true (show decide (PySem.W.subIn K (.ref (He.ga K "Full")) (.ref (He.ga K "NoListener")) = some false) = true from atHB C.more 4 17 (r := Hd.exL4) rfl rfl)
  have ya_Full_Taken : PySem.W.subIn K (.ref (He.ga K "Full")) (.ref (He.ga K "Taken")) = some false := of_decide_eq_true (show decide (PySem.W.subIn K (.ref (He.ga K "Full")) (.ref (He.ga K "Taken")) = some false) = true from atHB C.more 4 18 (r := Hd.exL4) rfl rfl)
  have ya_NoListener_BadName : PySem.W.subIn K (.ref (He.ga K "NoListener")) (.ref (He.ga K "BadName")) = some false := of_decide_eq_true (show decide (PySem.W.subIn K (.ref (He.ga K "NoListener")) (.ref (He.ga K "BadName")) = some false) = true from atHB C.more 4 19 (r := Hd.exL4) rfl rfl)
  have ya_NoListener_Full : PySem.W.subIn K (.ref (He.ga K "NoListener")) (.ref (He.ga K "Full")) = some false := of_decide_eq_true (show decide (PySem.W.subIn K (.ref (He.ga K "NoListener")) (.ref (He.ga K "Full")) = some false) = true from atHB C.more 4 20 (r := Hd.exL4) rfl rfl)
  have ya_NoListener_NoListener : PySem.W.subIn K (.ref (He.ga K "NoListener")) (.ref (He.ga K "NoListener")) = some true := of_decide_eq_true (show decide (PySem.W.subIn K (.ref (He.ga K "NoListener")) (.ref (He.ga K "NoListener")) = some true) = true from atHB C.more 4 21 (r := Hd.exL4) rfl rfl)
  have ya_NoListener_Taken : PySem.W.subIn K (.ref (He.ga K "NoListener")) (.ref (He.ga K "Taken")) = some false := of_decide_eq_true (show decide (PySem.W.subIn K (.ref (He.ga K "NoListener")) (.ref (He.ga K "Taken")) = some false) = true from atHB C.more 4 22 (r := Hd.exL4) rfl rfl)
  have ya_Taken_BadName : PySem.W.subIn K (.ref (He.ga K "Taken")) (.ref (He.ga K "BadName")) = some false := of_decide_eq_true (show decide (PySem.W.subIn K (.ref (He.ga K "Taken")) (.ref (He.ga K "BadName")) = some false) = true from atHB C.more 4 23 (r := Hd.exL4) rfl rfl)
  have ya_Taken_Full : PySem.W.subIn K (.ref (He.ga K "Taken")) (.ref (He.ga K "Full")) = some false := of_decide_eq_true (show decide (PySem.W.subIn K (.ref (He.ga K "Taken")) (.ref (He.ga K "Full")) = some false) = true from atHB C.more 4 24 (r := Hd.exL4) rfl rfl)
  have ya_Taken_NoListener : PySem.W.subIn K (.ref (He.ga K "Taken")) (.ref (He.ga K "NoListener")) = some false := of_decide_eq_true (show decide (PySem.W.subIn K (.ref (He.ga K "Taken")) (.ref (He.ga K "NoListener")) = some false) = true from atHB C.more 4 25 (r := Hd.exL4) rfl rfl)
  have ya_Taken_Taken : PySem.W.subIn K (.ref (He.ga K "Taken")) (.ref (He.ga K "Taken")) = some true := of_decide_eq_true (show decide (PySem.W.subIn K (.ref (He.ga K "Taken")) (.ref (He.ga K "Taken")) = some true) = true from atHB C.more 4 26 (r := Hd.exL4) rfl rfl)
  have tbo : tabOnly K = true := (show tabOnly K = true from atHB C.more 4 27 (r := Hd.exL4) rfl rfl)
  have k0 := F0.kp
  have k1 := F1.kp
  have k2 := F2.kp
  have k3 := F3.kp
  have k4 := F4.kp
  have k5 := F5.kp
  have k6 := F6.kp
  have k7 := F7.kp
  have k8 := F8.kp
  have k9 := F9.kp
  have k10 := F10.kp
  have k11 := F11.kp
  have k12 := F12.kp
  have k13 := F13.kp
  have k14 := F14.kp
  have k15 := F15.kp
  have k16 := F16.kp
  have k17 := F17.kp
  have k18 := F18.kp
  have k19 := F19.kp
  have k20 := F20.kp
  have k21 := F21.kp
  have k22 := F22.kp
  have k23 := F23.kp
  have k24 := F24.kp
  have k25 := F25.kp
  have k26 := F26.kp
  have k27 := F27.kp
  have k28 := F28.kp
  have k29 := F29.kp
  have k30 := F30.kp
  have k31 := F31.kp
  have k32 := F32.kp
  have k33 := F33.kp
  have k34 := F34.kp
  have k35 := F35.kp
  have e := hfa.symm.trans (PySem.W.mg_of X G a35)
  cases e
  have GG : Gs K mg (caOf mg) := { g_GREATEST := ⟨_, PySem.W.mg_of X G g_GREATEST⟩, g_LETTERS := ⟨_, PySem.W.mg_of X G g_LETTERS⟩, g_SEATS := ⟨_, PySem.W.mg_of X G g_SEATS⟩, g_all := PySem.W.mg_none_of X G g_all, g_bool := PySem.W.mg_none_of X G g_bool, g_int := PySem.W.mg_none_of X G g_int, g_isinstance := PySem.W.mg_none_of X G g_isinstance, g_len := PySem.W.mg_none_of X G g_len, g_list := PySem.W.mg_none_of X G g_list, g_max := PySem.W.mg_none_of X G g_max, g_min := PySem.W.mg_none_of X G g_min, g_range := PySem.W.mg_none_of X G g_range, g_sorted := PySem.W.mg_none_of X G g_sorted, g_str := PySem.W.mg_none_of X G g_str, g_sum := PySem.W.mg_none_of X G g_sum, g_tuple := PySem.W.mg_none_of X G g_tuple, x_BadMany := exG_of X G xa_BadMany xi_BadMany xk_BadMany xb_BadMany xt_BadMany, x_BadName := exG_of X G xa_BadName xi_BadName xk_BadName xb_BadName xt_BadName, x_BadTray := exG_of X G xa_BadTray xi_BadTray xk_BadTray xb_BadTray xt_BadTray, x_Full := exG_of X G xa_Full xi_Full xk_Full xb_Full xt_Full, x_NoListener := exG_of X G xa_NoListener xi_NoListener xk_NoListener xb_NoListener xt_NoListener, x_Taken := exG_of X G xa_Taken xi_Taken xk_Taken xb_Taken xt_Taken, y_BadMany_BadName := exm_of X G xa_BadMany xa_BadName (exm_by xb_BadName xc_BadName xt_BadName ya_BadMany_BadName), y_BadMany_Full := exm_of X G xa_BadMany xa_Full (exm_by xb_Full xc_Full xt_Full ya_BadMany_Full), y_BadMany_NoListener := exm_of X G xa_BadMany xa_NoListener (exm_by xb_NoListener xc_NoListener xt_NoListener ya_BadMany_NoListener), y_BadMany_Taken := exm_of X G xa_BadMany xa_Taken (exm_by xb_Taken xc_Taken xt_Taken ya_BadMany_Taken), y_BadName_BadName := exm_of X G xa_BadName xa_BadName (exm_by xb_BadName xc_BadName xt_BadName ya_BadName_BadName), y_BadName_Full := exm_of X G xa_BadName xa_Full (exm_by xb_Full xc_Full xt_Full ya_BadName_Full), y_BadName_NoListener := exm_of X G xa_BadName xa_NoListener (exm_by xb_NoListener xc_NoListener xt_NoListener ya_BadName_NoListener), y_BadName_Taken := exm_of X G xa_BadName xa_Taken (exm_by xb_Taken xc_Taken xt_Taken ya_BadName_Taken), y_Full_BadName := exm_of X G xa_Full xa_BadName (exm_by xb_BadName xc_BadName xt_BadName ya_Full_BadName), y_Full_Full := exm_of X G xa_Full xa_Full (exm_by xb_Full xc_Full xt_Full ya_Full_Full), y_Full_NoListener := exm_of X G xa_Full xa_NoListener (exm_by xb_NoListener xc_NoListener xt_NoListener ya_Full_NoListener), y_Full_Taken := exm_of X G xa_Full xa_Taken (exm_by xb_Taken xc_Taken xt_Taken ya_Full_Taken), y_NoListener_BadName := exm_of X G xa_NoListener xa_BadName (exm_by xb_BadName xc_BadName xt_BadName ya_NoListener_BadName), y_NoListener_Full := exm_of X G xa_NoListener xa_Full (exm_by xb_Full xc_Full xt_Full ya_NoListener_Full), y_NoListener_NoListener := exm_of X G xa_NoListener xa_NoListener (exm_by xb_NoListener xc_NoListener xt_NoListener ya_NoListener_NoListener), y_NoListener_Taken := exm_of X G xa_NoListener xa_Taken (exm_by xb_Taken xc_Taken xt_Taken ya_NoListener_Taken), y_Taken_BadName := exm_of X G xa_Taken xa_BadName (exm_by xb_BadName xc_BadName xt_BadName ya_Taken_BadName), y_Taken_Full := exm_of X G xa_Taken xa_Full (exm_by xb_Full xc_Full xt_Full ya_Taken_Full), y_Taken_NoListener := exm_of X G xa_Taken xa_NoListener (exm_by xb_NoListener xc_NoListener xt_NoListener ya_Taken_NoListener), y_Taken_Taken := exm_of X G xa_Taken xa_Taken (exm_by xb_Taken xc_Taken xt_Taken ya_Taken_Taken), fl_box := (fun C hC => by simp at hC; subst hC; exact ⟨⟨_, aC_Room, ⟨pg_Room, hd_Room, po_Room, sa_Room⟩, nA_Room_box⟩⟩), fl_ended := (fun C hC => by simp at hC; subst hC; exact ⟨⟨_, aC_Room, ⟨pg_Room, hd_Room, po_Room, sa_Room⟩, nA_Room_ended⟩⟩), fl_filled := (fun C hC => by simp at hC; subst hC; exact ⟨⟨_, aC_Room, ⟨pg_Room, hd_Room, po_Room, sa_Room⟩, nA_Room_filled⟩⟩), fl_given := (fun C hC => by simp at hC; subst hC; exact ⟨⟨_, aC_Sayings, ⟨pg_Sayings, hd_Sayings, po_Sayings, sa_Sayings⟩, nA_Sayings_given⟩⟩), fl_heard := (fun C hC => by simp at hC; subst hC; exact ⟨⟨_, aC_Room, ⟨pg_Room, hd_Room, po_Room, sa_Room⟩, nA_Room_heard⟩⟩), fl_lifted := (fun C hC => by simp at hC; subst hC; exact ⟨⟨_, aC_Room, ⟨pg_Room, hd_Room, po_Room, sa_Room⟩, nA_Room_lifted⟩⟩), fl_people := (fun C hC => by simp at hC; subst hC; exact ⟨⟨_, aC_Room, ⟨pg_Room, hd_Room, po_Room, sa_Room⟩, nA_Room_people⟩⟩), fl_scores := (fun C hC => by simp at hC; subst hC; exact ⟨⟨_, aC_Room, ⟨pg_Room, hd_Room, po_Room, sa_Room⟩, nA_Room_scores⟩⟩), fl_size := (fun C hC => by simp at hC; subst hC; exact ⟨⟨_, aC_Sayings, ⟨pg_Sayings, hd_Sayings, po_Sayings, sa_Sayings⟩, nA_Sayings_size⟩⟩), fl_stock := (fun C hC => by simp at hC; subst hC; exact ⟨⟨_, aC_Tray, ⟨pg_Tray, hd_Tray, po_Tray, sa_Tray⟩, nA_Tray_stock⟩⟩), fl_wrote := (fun C hC => by simp at hC; subst hC; exact ⟨⟨_, aC_Room, ⟨pg_Room, hd_Room, po_Room, sa_Room⟩, nA_Room_wrote⟩⟩) }
  have bL := F35.bindsA (ps := ["_law_script"]) fun _ _ _ _ _ _ us hl => match us, hl with | [_], _ => rfl
  refine ⟨tbo, fd35, fun s v => bL s [v] rfl, fun base _ _ tbb => ?_⟩
  have st : StF K mg base := ⟨tbb _ List.mem_cons_self, C.hd _ List.mem_cons_self, tbo⟩
  have o0 := w_p_look_many (P := P) (w := w) (base := base) GG  F0
  have c_p_look_many := fn_g (base := base) (dvs := []) (dd := []) (PySem.W.mg_of X G a0) o0 F0.kp (F0.bindsN (ps := ["censers"]) fun _ _ _ _ _ _ us hl => match us, hl with | [_], _ => rfl) .nil (fun _ => .nil) rfl
  have o2 := w_p_good_name (P := P) (w := w) (base := base) GG  F2
  have c_p_good_name := fn_g (base := base) (dvs := []) (dd := []) (PySem.W.mg_of X G a2) o2 F2.kp (F2.bindsN (ps := ["name"]) fun _ _ _ _ _ _ us hl => match us, hl with | [_], _ => rfl) .nil (fun _ => .nil) rfl
  have o4 := w_p_Room___init__ (P := P) (w := w) (base := base) GG  F4
  have c_p_Room___init__ : MtI P w K mg base (caOf mg) "Room" f_p_Room___init__ 1 := ⟨⟨(He.ga K "Room"), (He.fAd K ("Room", some "__init__")), _, ["self", "tray"], aC_Room, PySem.W.mg_of X G aC_Room, ⟨mk_Room, a4, i4, kc_Room⟩, o4, (F4.bindsN (ps := ["self", "tray"]) fun _ _ _ _ _ _ us hl => match us, hl with | [_, _], _ => rfl), fun t fs ds z => mkG_len z⟩⟩
  have o5 := w_p_Room_look_listener (P := P) (w := w) (base := base) GG  F5
  have c_p_Room_look_listener : MtR P w K mg base (caOf mg) "Room" "look_listener" f_p_Room_look_listener 1 := ⟨⟨(He.ga K "Room"), (He.fAd K ("Room", some "look_listener")), _, ["self", "name"], aC_Room, ⟨pg_Room, hd_Room, po_Room, sa_Room⟩, ⟨a5, i5, k5⟩, o5, (F5.bindsN (ps := ["self", "name"]) fun _ _ _ _ _ _ us hl => match us, hl with | [_, _], _ => rfl), fun as z => mkF_len z⟩⟩
  have o8 := w_p_Room_listeners (P := P) (w := w) (base := base) GG  F8
  have c_p_Room_listeners : MtR P w K mg base (caOf mg) "Room" "listeners" f_p_Room_listeners 1 := ⟨⟨(He.ga K "Room"), (He.fAd K ("Room", some "listeners")), _, ["self"], aC_Room, ⟨pg_Room, hd_Room, po_Room, sa_Room⟩, ⟨a8, i8, k8⟩, o8, (F8.bindsN (ps := ["self"]) fun _ _ _ _ _ _ us hl => match us, hl with | [_], _ => rfl), fun as z => mkF_len z⟩⟩
  have o10 := w_p_Room_standings (P := P) (w := w) (base := base) GG st F10
  have c_p_Room_standings : MtT P w K mg base (caOf mg) "Room" "standings" f_p_Room_standings 1 := ⟨⟨(He.ga K "Room"), (He.fAd K ("Room", some "standings")), _, ["self"], aC_Room, ⟨pg_Room, hd_Room, po_Room, sa_Room⟩, ⟨a10, i10, k10⟩, o10, (F10.bindsN (ps := ["self"]) fun _ _ _ _ _ _ us hl => match us, hl with | [_], _ => rfl), fun as z => mkT_len z⟩⟩
  have o11 := w_l_draw (P := P) (w := w) (base := base) GG  F11
  have c_l_draw := fn_g (base := base) (dvs := []) (dd := []) (PySem.W.mg_of X G a11) o11 F11.kp (F11.bindsN (ps := ["_law_cell_here", "_law_limits"]) fun _ _ _ _ _ _ us hl => match us, hl with | [_, _], _ => rfl) .nil (fun _ => .nil) rfl
  have o12 := w_l_cell (P := P) (w := w) (base := base) GG  F12
  have c_l_cell := fn_g (base := base) (dvs := []) (dd := []) (PySem.W.mg_of X G a12) o12 F12.kp (F12.bindsN (ps := ["_law_script", "_law_k"]) fun _ _ _ _ _ _ us hl => match us, hl with | [_, _], _ => rfl) .nil (fun _ => .nil) rfl
  have o13 := w_l_many (P := P) (w := w) (base := base) GG  F13
  have c_l_many := fn_g (base := base) (dvs := []) (dd := []) (PySem.W.mg_of X G a13) o13 F13.kp (F13.bindsN (ps := ["_law_script", "_law_few"]) fun _ _ _ _ _ _ us hl => match us, hl with | [_, _], _ => rfl) .nil (fun _ => .nil) rfl
  have o14 := w_l_num (P := P) (w := w) (base := base) GG  F14
  have c_l_num := fn_g (base := base) (dvs := []) (dd := []) (PySem.W.mg_of X G a14) o14 F14.kp (F14.bindsN (ps := ["_law_found"]) fun _ _ _ _ _ _ us hl => match us, hl with | [_], _ => rfl) .nil (fun _ => .nil) rfl
  have o15 := w_l_split (P := P) (w := w) (base := base) GG  F15
  obtain ⟨ds15_0, vv15_0, bb15_0⟩ := F15.binds1 (ps := ["_law_cell_here", "_law_parts", "_law_wide"]) 3 1 (by decide) rfl fun _ _ _ _ _ _ _ us its h1 h2 => match us, its, h1, h2 with | [_, _, _], [_], _, _ => ⟨_, rfl, rfl⟩
  have c_l_split := fn_g (base := base) (dvs := []) (dd := []) (PySem.W.mg_of X G a15) o15 F15.kp bb15_0 vv15_0 (fun _ => .nil) rfl
  obtain ⟨ds15_1, vv15_1, bb15_1⟩ := F15.binds1 (ps := ["_law_cell_here", "_law_parts", "_law_wide"]) 2 0 (by decide) rfl fun _ _ _ _ _ _ _ us its h1 h2 => match us, its, h1, h2 with | [_, _], [_], _, _ => ⟨_, rfl, rfl⟩
  have c_l_split_1 := fn_g (base := base) (dvs := [.int 0]) (dd := [.int 0]) (PySem.W.mg_of X G a15) o15 F15.kp bb15_1 vv15_1 (fun _ => (.cons (f := []) (g := []) (.int _) .nil)) rfl
  have o16 := w_l_refused (P := P) (w := w) (base := base) GG  F16
  have c_l_refused := fn_g (base := base) (dvs := []) (dd := []) (PySem.W.mg_of X G a16) o16 F16.kp (F16.bindsN (ps := ["_law_found"]) fun _ _ _ _ _ _ us hl => match us, hl with | [_], _ => rfl) .nil (fun _ => .nil) rfl
  have o20 := w_l_total (P := P) (w := w) (base := base) GG  F20
  have c_l_total := fn_g (base := base) (dvs := []) (dd := []) (PySem.W.mg_of X G a20) o20 F20.kp (F20.bindsN (ps := ["_law_left"]) fun _ _ _ _ _ _ us hl => match us, hl with | [_], _ => rfl) .nil (fun _ => .nil) rfl
  have o22 := w_l_model (P := P) (w := w) (base := base) GG  F22
  have c_l_model := fn_g (base := base) (dvs := []) (dd := []) (PySem.W.mg_of X G a22) o22 F22.kp (F22.bindsN (ps := ["_law_left"]) fun _ _ _ _ _ _ us hl => match us, hl with | [_], _ => rfl) .nil (fun _ => .nil) rfl
  have o23 := w_l_name_ok (P := P) (w := w) (base := base) GG  F23
  have c_l_name_ok := fn_g (base := base) (dvs := []) (dd := []) (PySem.W.mg_of X G a23) o23 F23.kp (F23.bindsN (ps := ["_law_name"]) fun _ _ _ _ _ _ us hl => match us, hl with | [_], _ => rfl) .nil (fun _ => .nil) rfl
  have o25 := w_l_leave (P := P) (w := w) (base := base) GG  F25
  have c_l_leave : FnGH P w K mg base (caOf mg) f_l_leave [0] 1 "_law_leave" := ⟨⟨(He.fAd K ("_law_leave", none)), _, ["_law_m", "_law_name"], PySem.W.mg_of X G a25, o25, F25.kp, (F25.bindsN (ps := ["_law_m", "_law_name"]) fun _ _ _ _ _ _ us hl => match us, hl with | [_, _], _ => rfl), fun t as z => mkH_len z⟩⟩
  have o29 := w_l_standings (P := P) (w := w) (base := base) GG  F29
  have c_l_standings := fn_g (base := base) (dvs := []) (dd := []) (PySem.W.mg_of X G a29) o29 F29.kp (F29.bindsN (ps := ["_law_m"]) fun _ _ _ _ _ _ us hl => match us, hl with | [_], _ => rfl) .nil (fun _ => .nil) rfl
  have o34 := w_l_drawn_v2 (P := P) (w := w) (base := base) GG  F34
  have c_l_drawn_v2 := fn_g (base := base) (dvs := []) (dd := []) (PySem.W.mg_of X G a34) o34 F34.kp (F34.bindsN (ps := ["_law_row", "_law_people", "_law_pool"]) fun _ _ _ _ _ _ us hl => match us, hl with | [_, _, _], _ => rfl) .nil (fun _ => .nil) rfl
  have o1 := w_p_Sayings___init__ (P := P) (w := w) (base := base) GG c_p_look_many F1
  have c_p_Sayings___init__ : MtI P w K mg base (caOf mg) "Sayings" f_p_Sayings___init__ 2 := ⟨⟨(He.ga K "Sayings"), (He.fAd K ("Sayings", some "__init__")), _, ["self", "censers"], aC_Sayings, PySem.W.mg_of X G aC_Sayings, ⟨mk_Sayings, a1, i1, kc_Sayings⟩, o1, (F1.bindsN (ps := ["self", "censers"]) fun _ _ _ _ _ _ us hl => match us, hl with | [_, _], _ => rfl), fun t fs ds z => mkG_len z⟩⟩
  have o3 := w_p_Tray___init__ (P := P) (w := w) (base := base) GG c_p_good_name F3
  have c_p_Tray___init__ : MtI P w K mg base (caOf mg) "Tray" f_p_Tray___init__ 2 := ⟨⟨(He.ga K "Tray"), (He.fAd K ("Tray", some "__init__")), _, ["self", "woods"], aC_Tray, PySem.W.mg_of X G aC_Tray, ⟨mk_Tray, a3, i3, kc_Tray⟩, o3, (F3.bindsN (ps := ["self", "woods"]) fun _ _ _ _ _ _ us hl => match us, hl with | [_, _], _ => rfl), fun t fs ds z => mkG_len z⟩⟩
  have o7 := w_p_Room_leave (P := P) (w := w) (base := base) GG c_p_Room_look_listener F7
  have c_p_Room_leave : MtC P w K mg base (caOf mg) "Room" "leave" f_p_Room_leave 2 := ⟨⟨(He.ga K "Room"), (He.fAd K ("Room", some "leave")), _, ["self", "name"], aC_Room, ⟨pg_Room, hd_Room, po_Room, sa_Room⟩, ⟨a7, i7, k7⟩, o7, (F7.bindsN (ps := ["self", "name"]) fun _ _ _ _ _ _ us hl => match us, hl with | [_, _], _ => rfl), fun t fs ds z => mkG_len z⟩⟩
  have o9 := w_p_Room_points (P := P) (w := w) (base := base) GG c_p_Room_look_listener F9
  have c_p_Room_points : MtR P w K mg base (caOf mg) "Room" "points" f_p_Room_points 2 := ⟨⟨(He.ga K "Room"), (He.fAd K ("Room", some "points")), _, ["self", "name"], aC_Room, ⟨pg_Room, hd_Room, po_Room, sa_Room⟩, ⟨a9, i9, k9⟩, o9, (F9.bindsN (ps := ["self", "name"]) fun _ _ _ _ _ _ us hl => match us, hl with | [_, _], _ => rfl), fun as z => mkF_len z⟩⟩
  have o17 := w_l_names (P := P) (w := w) (base := base) GG c_l_draw F17
  have c_l_names := fn_g (base := base) (dvs := []) (dd := []) (PySem.W.mg_of X G a17) o17 F17.kp (F17.bindsN (ps := ["_law_cell_here", "_law_count"]) fun _ _ _ _ _ _ us hl => match us, hl with | [_, _], _ => rfl) .nil (fun _ => .nil) rfl
  have o19 := w_l_pair_of_wood (P := P) (w := w) (base := base) GG c_l_num F19
  have c_l_pair_of_wood := fn_g (base := base) (dvs := []) (dd := []) (PySem.W.mg_of X G a19) o19 F19.kp (F19.bindsN (ps := ["_law_found"]) fun _ _ _ _ _ _ us hl => match us, hl with | [_], _ => rfl) .nil (fun _ => .nil) rfl
  have o21 := w_l_saying_ok (P := P) (w := w) (base := base) GG c_l_num F21
  have c_l_saying_ok := fn_g (base := base) (dvs := []) (dd := []) (PySem.W.mg_of X G a21) o21 F21.kp (F21.bindsN (ps := ["_law_found", "_law_due"]) fun _ _ _ _ _ _ us hl => match us, hl with | [_, _], _ => rfl) .nil (fun _ => .nil) rfl
  have o24 := w_l_come (P := P) (w := w) (base := base) GG c_l_name_ok F24
  have c_l_come : FnGH P w K mg base (caOf mg) f_l_come [0] 2 "_law_come" := ⟨⟨(He.fAd K ("_law_come", none)), _, ["_law_m", "_law_name"], PySem.W.mg_of X G a24, o24, F24.kp, (F24.bindsN (ps := ["_law_m", "_law_name"]) fun _ _ _ _ _ _ us hl => match us, hl with | [_, _], _ => rfl), fun t as z => mkH_len z⟩⟩
  have o18 := w_l_woods (P := P) (w := w) (base := base) GG c_l_split_1 c_l_draw c_l_names F18
  have c_l_woods := fn_g (base := base) (dvs := []) (dd := []) (PySem.W.mg_of X G a18) o18 F18.kp (F18.bindsN (ps := ["_law_cell_here"]) fun _ _ _ _ _ _ us hl => match us, hl with | [_], _ => rfl) .nil (fun _ => .nil) rfl
  have o26 := w_l_result_ok (P := P) (w := w) (base := base) GG c_l_num c_l_saying_ok c_l_pair_of_wood F26
  have c_l_result_ok := fn_g (base := base) (dvs := []) (dd := []) (PySem.W.mg_of X G a26) o26 F26.kp (F26.bindsN (ps := ["_law_found", "_law_due"]) fun _ _ _ _ _ _ us hl => match us, hl with | [_, _], _ => rfl) .nil (fun _ => .nil) rfl
  have o27 := w_l_pairs_told (P := P) (w := w) (base := base) GG c_l_pair_of_wood F27
  have c_l_pairs_told := fn_g (base := base) (dvs := []) (dd := []) (PySem.W.mg_of X G a27) o27 F27.kp (F27.bindsN (ps := ["_law_found", "_law_due"]) fun _ _ _ _ _ _ us hl => match us, hl with | [_, _], _ => rfl) .nil (fun _ => .nil) rfl
  have o28 := w_l_points (P := P) (w := w) (base := base) GG c_p_Room_points F28
  have c_l_points := fn_g (base := base) (dvs := []) (dd := []) (PySem.W.mg_of X G a28) o28 F28.kp (F28.bindsN (ps := ["_law_room", "_law_name"]) fun _ _ _ _ _ _ us hl => match us, hl with | [_, _], _ => rfl) .nil (fun _ => .nil) rfl
  have o6 := w_p_Room_come (P := P) (w := w) (base := base) GG c_p_good_name c_p_Sayings___init__ F6
  have c_p_Room_come : MtC P w K mg base (caOf mg) "Room" "come" f_p_Room_come 4 := ⟨⟨(He.ga K "Room"), (He.fAd K ("Room", some "come")), _, ["self", "name"], aC_Room, ⟨pg_Room, hd_Room, po_Room, sa_Room⟩, ⟨a6, i6, k6⟩, o6, (F6.bindsN (ps := ["self", "name"]) fun _ _ _ _ _ _ us hl => match us, hl with | [_, _], _ => rfl), fun t fs ds z => mkG_len z⟩⟩
  have o30 := w_l_people_ok (P := P) (w := w) (base := base) GG c_p_Room_listeners c_l_points c_l_num c_l_refused c_l_pairs_told c_l_standings c_p_Room_standings F30
  have c_l_people_ok := fn_gT (base := base) (dvs := []) (dd := []) (PySem.W.mg_of X G a30) o30 F30.kp (F30.bindsN (ps := ["_law_room", "_law_m", "_law_stranger"]) fun _ _ _ _ _ _ us hl => match us, hl with | [_, _, _], _ => rfl) .nil (fun _ => .nil) rfl
  have o32 := w_l_rich_woods (P := P) (w := w) (base := base) GG c_l_woods c_l_total F32
  have c_l_rich_woods := fn_g (base := base) (dvs := []) (dd := []) (PySem.W.mg_of X G a32) o32 F32.kp (F32.bindsN (ps := ["_law_cell_here", "_law_size"]) fun _ _ _ _ _ _ us hl => match us, hl with | [_, _], _ => rfl) .nil (fun _ => .nil) rfl
  have o31 := w_l_begun (P := P) (w := w) (base := base) GG c_l_split c_l_woods c_l_draw c_l_rich_woods c_l_names F31
  have c_l_begun := fn_g (base := base) (dvs := []) (dd := []) (PySem.W.mg_of X G a31) o31 F31.kp (F31.bindsN (ps := ["_law_cell_here"]) fun _ _ _ _ _ _ us hl => match us, hl with | [_], _ => rfl) .nil (fun _ => .nil) rfl
  have o33 := w_l_tried_v19 (P := P) (w := w) (base := base) GG c_p_Room_come c_p_Room_leave F33
  have c_l_tried_v19 : FnGH P w K mg base (caOf mg) f_l_tried_v19 [0] 5 "_law_tried" := ⟨⟨(He.fAd K ("_law_tried", none)), _, ["_law_room", "_law_deed"], PySem.W.mg_of X G a33, o33, F33.kp, (F33.bindsN (ps := ["_law_room", "_law_deed"]) fun _ _ _ _ _ _ us hl => match us, hl with | [_, _], _ => rfl), fun t as z => mkH_len z⟩⟩
  exact law_fnT (w_l_law_k51_v2 (P := P) (w := w) (base := base) GG c_l_cell c_l_begun c_p_Tray___init__ c_p_Room___init__ c_l_model c_l_many c_l_draw c_l_drawn_v2 c_l_come c_l_leave c_l_result_ok c_l_tried_v19 c_l_people_ok c_p_Room_listeners c_p_Room_standings F35) hlaw
end Cz
open PySem PySem.W PySem.Calls PyProof.Rows
set_option maxHeartbeats 0 in
theorem PySem.Challenge.cw_censers_k51_listeners_come_and_go_holds : PySem.Challenge.rw_censers_k51_listeners_come_and_go.Holds := by
  w_on; o_law
  refine HandSHeadRun.head_any (r := OpenLaw.row PySem.Challenge.rw_censers_k51_listeners_come_and_go) (q := view (OpenLaw.row PySem.Challenge.rw_censers_k51_listeners_come_and_go).prog [74]) (H := Hd.hk) (ob := Hd.ob) (M := 20000) (loose := Hd.nms) (d := HandSHeadRun.topDef (OpenLaw.row PySem.Challenge.rw_censers_k51_listeners_come_and_go).prog 74) (kwd := []) Hd.ob_eq
    (by kernel_rfl) (fun s => by kernel_rfl) Hd.run (by kernel_rfl) (by kernel_rfl) (by kernel_rfl) (by rfl) (by first | assumption | decide +kernel) (by decide +kernel) ⟨rfl, rfl, rfl, rfl, rfl, by decide +kernel⟩ ?hw ?hc
  case hw => w_witness2
  case hc =>
    refine LamX.walk_ofTsE (l := PySem.Challenge.rw_censers_k51_listeners_come_and_go) (n := 63) (k := 6) (x := "_law_script") (CX := fun w => L2.CX PySem.Challenge.rw_censers_k51_listeners_come_and_go.prog w) rfl (by decide) (by kernel_rfl) ⟨rfl, by decide, by decide⟩ ?F ?C
    case C =>
      intro w H s e s' c
      obtain ⟨_, _, _, _, _, _, _, _, _, _, _, _, z⟩ := c
      exact z
    case F =>
      intro w mg fa h Y G hmg0
      obtain ⟨K, KX, c⟩ := Y
      have hmg : mg ("law" : PySem.Str) = some (.ref fa) := by
        have e : (HandSHeadRun.topDef (OpenLaw.row PySem.Challenge.rw_censers_k51_listeners_come_and_go).prog 74).name = ("law" : PySem.Str) := by kernel_rfl
        rw [← e]
        exact hmg0
      obtain ⟨tbo, fd, hb, hF⟩ := Cz.all_mk (P := PySem.Challenge.rw_censers_k51_listeners_come_and_go.prog) (w := w) KX G hmg c Cz.law_ok_k51
      have mm : Cz.stD ∈ Hd.tfL := List.mem_cons_self
      exact ⟨K, KX, fd, [He.cT K Cz.stD], Cz.spLawT K, (fun p hp => by rw [List.mem_singleton.mp hp]; exact c.empty _ mm), (fun p hp => by rw [List.mem_singleton.mp hp]; exact c.out _ mm), (fun p hp => by rw [List.mem_singleton.mp hp]; exact PySem.W.codeHd_of_K KX (c.hd _ mm)), hb, fun H a ns hl hbt hH hS => ⟨a, ns, rfl, hS, hl, hbt, Cz.tabOnly_ok tbo (LamX.TabS.nil (hH _ List.mem_cons_self)), fun _ => rfl⟩, fun base h1 h2 h3 => hF base h1 h2 h3⟩
