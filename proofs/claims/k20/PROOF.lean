import PyProof.Rows.All
import Wide.All
import OpenK.AllK
import Wide.FinOn
import HandS.HeadWalk
import HandS.EndTab
import HandS.HeadHook4
import HandS.Head2
import HandS.Words
import HandS.ForMost
import HandS.TupAny
import HandS.TupMul
import HandS.Conv
import KE.KIndexOf
import PyProof.Rows.SeqMore
import KE.KeyNested
import HandS.Lambda
import HandS.ForExc
import HandS.Evl
import HandS.Deep
import HandS.IsInst
import HandS.Zip
import HandS.SortInts
import HandS.Wide
import HandS.Defaults
import HandS.Head0
import HandS.Head1
import HandS.HeadEnd
import HandS.HeadHook1
import HandS.HeadHook2
import HandS.HeadHook3
import HandS.EndBits
import HandS.WordsExc
import KE.SortData
import HandS.ExcIs
import HandS.Iter
import HandS.Style
import PyProof.EnumMake
import KE.GoesMore
import KE.DataFind
import PyProof.SeqIndex
import PyProof.SliceList
import PyProof.Rows.SetFrom
import KE.KTupSum
import HandS.SetFor
import HandS.Strs
import KE.DataMinMax
import HandS.Text
import HandS.Codes
import KE.KDictPairs
import KE.GoesComp
import PyProof.StrBlock2
import KE.KCallOwn
import KE.GoesZip
import KE.GoesEnum
import KE.SortCalls
import KE.DataCmp
import HandS.TupSets
import KE.KDictSum
import HandS.TupLen
import PySem.Challenge.RW_slotorders_k20_many_notes
set_option Elab.async false
set_option linter.all false
set_option maxRecDepth 100000
set_option maxHeartbeats 0
namespace DH
open PySem PySem.Spec PyProof.Rows L2
def tupN (K : PySem.W.Frag) (x : Str) (vs : List He.Dv) : Bool := match K.lookup (He.ga K x) with
  | some ⟨.type c, none, .seq its _, _⟩ => decide (c = "tuple") && (decide (its.size ≤ sizeLine) && He.relAll (vs.map (He.Dv.v K)) its.toList)
  | _ => false
abbrev veL : List Value := [.type "ValueError", .type "Exception", .type "BaseException", .type "object"]
def resL : List (Str × Str) := [("InvalidWay", "way"), ("InvalidWays", "ways"), ("InvalidSize", "size"), ("InvalidKey", "key"), ("InvalidKeys", "all"), ("InvalidRow", "row"), ("InvalidSight", "sight"), ("InvalidSeen", "seen"), ("InvalidOrder", "order"), ("InvalidTable", "table"), ("InvalidNumber", "number"), ("InvalidDeed", "deed"), ("InvalidText", "text"), ("TooLarge", "large"), ("Alike", "alike"), ("Sound", "sound"), ("NotShown", "shown"), ("NoRow", "there"), ("TooMany", "many"), ("NothingToUndo", "undo")]
def xcB (K : PySem.W.Frag) (x : Str) : Bool := PySem.W.excIn K (He.ga K x) veL "ValueError.__new__" && (PySem.W.keepIn K (.ref (He.ga K x)) && (decide (PySem.W.subIn K (.ref (He.ga K x)) (.type "BaseException") = some true) && decide (PySem.W.typeIn K (.ref (He.ga K x)) = some (.type "type"))))
def ecB (K : PySem.W.Frag) (D : Addr) : Bool := decide (PySem.W.findIn K (.ref D) "__getattribute__" = some (some (.builtin "BaseException.__getattribute__"))) && (decide (PySem.W.findIn K (.ref D) "__getattr__" = some none) && (decide (PySem.W.subIn K (.ref D) (.type "BaseException") = some true) && (PySem.W.hasDictIn K D
  && (decide (PySem.W.findIn K (.ref D) "__class__" = some (some (.builtin "object.__class__"))) && (decide (PySem.W.specialIn K (.builtin "object.__class__") "__get__" = some (some (.builtin "getset_descriptor.__get__"))) && (decide (PySem.W.takesIn K (.builtin "object.__class__") = some true) && decide (PySem.W.mroIn K D (.type "object") = some true)))))))
def xaB (K : PySem.W.Frag) : Bool := resL.all fun p => ecB K (He.ga K p.1) && (decide (PySem.W.kitOne K (.ref (He.ga K p.1)) (.type "ValueError") = some true) && (decide (PySem.W.exmOne K (.ref (He.ga K p.1)) (.ref (He.ga K "SlotError")) = some true) && resL.all fun q => decide (PySem.W.kitOne K (.ref (He.ga K p.1)) (.ref (He.ga K q.1)) = some (decide (p.1 = q.1)))))
def ocL : List Str := ["way", "tables", "past", "future", "ways", "sight", "left_along", "noted"]
def ocB (K : PySem.W.Frag) (x : Str) : Bool := (ocL.all fun f => decide (PySem.W.findIn K (.ref (He.ga K x)) f = some none)) && (decide (PySem.W.findIn K (.ref (He.ga K x)) "__class__" = some (some (.builtin "object.__class__"))) && (decide (PySem.W.specialIn K (.builtin "object.__class__") "__get__" = some (some (.builtin "getset_descriptor.__get__"))) && (decide (PySem.W.takesIn K (.builtin "object.__class__") = some true) && (decide (PySem.W.mroIn K (He.ga K x) (.type "object") = some true)
  && (decide (PySem.W.findIn K (.ref (He.ga K x)) "__ne__" = some (some (.builtin "object.__ne__"))) && (decide (PySem.W.kitOne K (.ref (He.ga K x)) (.ref (He.ga K x)) = some true) && (decide (PySem.W.kitOne K (.type "tuple") (.ref (He.ga K x)) = some false) && (PySem.W.notFirst K (He.ga K x) (.ref (He.ga K x)) && PySem.W.notFirst K (He.ga K x) (.type "tuple")))))))))
def tabsOf (K : PySem.W.Frag) (tf : List He.Defn) : List (Addr × Str) := tf.map fun p => ((He.cT K p).2, p.1 ++ ".<locals>." ++ "<lambda>")
def uniqB (l : List (Addr × Str)) : Bool := l.all fun p => l.all fun q => !decide (p.1 = q.1) || decide (p.2 = q.2)
/-- the run's equation, by parts: each part is a run of its own, for the kernel's memory -/
noncomputable abbrev runE (r : PySem.W.OpenRow) (w : World) (os : OsState) : Option PySem.W.SharedT := HandSHeadRun.endF (HandSHeadRun.stepQ (HandSHeadRun.denQ HandSHeadRun.tabQ) r.prog w) 20000 r.prog w os
open PySem.W PySem.Calls in
theorem run_of {r : PySem.W.OpenRow} {q : Program} {n : Nat} {fa : List He.Fa} {fn : List He.DefD} {tf : List He.Defn} {ex : PySem.W.Frag → Bool} {ob : PySem.W.SharedT → He.AlX} {loose : List PySem.Str} {w : World}
    (h1 : ∀ os, (runE r w os).map (fun s => (HandSHeadRun.looksF r.prog (boot_heap w.params) s.abs, HandSHeadRun.seenQ q loose (importedModules r.prog.main.body) (fun s => PySem.W.xlAt q [] s && PySem.W.recOk r.toRowW.records s) s.abs)) = some (true, PySem.W.openGood q loose))
    (h2 : ∀ os, (runE r w os).map (fun s => (ob s).1.1.1) = some true) (h3 : ∀ os, (runE r w os).map (fun s => ((ob s).1.1.2, (ob s).1.2, (ob s).2)) = some (fn.map He.DefD.val, [], true)) :
    HandSHeadRun.RunEq r q (He.hookX n fa fn [] tf ex) ob 20000 loose w := by
  intro os
  have a1 := h1 os
  have a2 := h2 os
  have a3 := h3 os
  cases e : runE r w os with
  | none =>
    rw [e] at a2
    cases a2
  | some s =>
    rw [e] at a1 a2 a3
    show (runE r w os).map _ = _
    rw [e]
    have b1 := Option.some.inj a1
    have b2 : (ob s).1.1.1 = true := Option.some.inj a2
    have b4 := Option.some.inj a3
    have b3 : (ob s).1.1.2 = fn.map He.DefD.val := congrArg Prod.fst b4
    have c1 := congrArg Prod.fst b1
    have c2 := congrArg Prod.snd b1
    have d1 : (ob s).1.2 = [] := congrArg (fun z => z.2.1) b4
    have d2 : (ob s).2 = true := congrArg (fun z => z.2.2) b4
    have eo : ob s = (((true, fn.map He.DefD.val), []), true) := by
      rcases z : ob s with ⟨⟨⟨x1, x2⟩, x3⟩, x4⟩
      rw [z] at b2 b3 d1 d2
      simp only at b2 b3 d1 d2
      rw [b2, b3, d1, d2]
    show some (_, _, ob s) = _
    rw [eo]
    simp only at c1 c2
    rw [c1, c2]
    rfl
end DH
namespace G6
open PySem PySem.Spec L2 DH
def top (i : Nat) : Stmt := PySem.Challenge.pw_slotorders_k20_many_notes.main.body.getD i (.Pass ⟨0, 0, 0, 0⟩)
def cbody : Stmt → List Stmt
  | .ClassDef _ _ _ b _ _ _ _ _ _ _ => b
  | _ => []
def mtop (i j : Nat) : Stmt := (cbody (top i)).getD j (.Pass ⟨0, 0, 0, 0⟩)
def dOf (n : Str) (i : Nat) : He.DefD := ⟨(n, none), n, n, defArgs (top i), defBody (top i), defScope (top i), [], []⟩
def oOf (c n q : Str) (i j : Nat) : He.DefD := ⟨(c, some n), n, q, defArgs (mtop i j), defBody (mtop i j), defScope (mtop i j), [], []⟩
def hfn : List He.DefD := [dOf "is_between" 28, dOf "is_word" 29, dOf "home_of" 44, dOf "bound_of" 46, dOf "begun" 50, dOf "keys_in" 51, dOf "each_once" 53, dOf "with_slot" 55, oOf "Watcher" "left" "Watcher.left" 73 2, oOf "Watcher" "table" "Watcher.table" 73 3, oOf "Watcher" "notes" "Watcher.notes" 73 4, oOf "Watcher" "undo" "Watcher.undo" 73 5, oOf "Watcher" "__eq__" "Watcher.__eq__" 73 6, oOf "Watcher" "__len__" "Watcher.__len__" 73 7, oOf "Desk" "undo" "Desk.undo" 75 2, oOf "Desk" "table" "Desk.table" 75 5, oOf "Desk" "history" "Desk.history" 75 6, oOf "Desk" "__eq__" "Desk.__eq__" 75 7, oOf "Desk" "__len__" "Desk.__len__" 75 8, dOf "_law_draw" 77, dOf "_law_begun" 78, dOf "_law_result" 79, dOf "is_slot_way" 30, dOf "is_key" 34, dOf "check_sight" 42, dOf "walk_of" 45, dOf "order_in" 52, dOf "distance" 56, dOf "used_in" 59, dOf "_law_way" 80] ++ [dOf "is_way" 31, dOf "is_deed" 38, dOf "found_at" 54, dOf "placed" 57, dOf "pulled" 61, dOf "seen_of" 64, dOf "is_order" 70, oOf "Desk" "order" "Desk.order" 75 4, dOf "check_way" 32, dOf "check_ways" 33, dOf "is_row" 39, dOf "check_deed" 40, dOf "laid_anew" 58, dOf "is_sight_of" 71, oOf "Desk" "__str__" "Desk.__str__" 75 9, dOf "check_row" 41, dOf "grown" 60, dOf "removed" 62, oOf "Watcher" "__init__" "Watcher.__init__" 73 0, oOf "Desk" "__init__" "Desk.__init__" 75 0, dOf "done" 63, dOf "work" 66, oOf "Watcher" "note" "Watcher.note" 73 1, oOf "Desk" "do" "Desk.do" 75 1, oOf "Desk" "redo" "Desk.redo" 75 3, dOf "seen_along" 67, dOf "run" 68, dOf "law" 81]
def hfa : List He.Fa := [.glo "is_between", .glo "is_word", .glo "home_of", .glo "bound_of", .glo "begun", .glo "keys_in", .glo "each_once", .glo "with_slot", .glo "Watcher", .glo "Watcher", .glo "Watcher", .glo "Watcher", .glo "Watcher", .glo "Watcher", .glo "Desk", .glo "Desk", .glo "Desk", .glo "Desk", .glo "Desk", .glo "_law_draw", .glo "_law_begun", .glo "_law_result", .glo "is_slot_way", .glo "is_key", .glo "check_sight", .glo "walk_of", .glo "order_in", .glo "distance", .glo "used_in", .glo "_law_way"] ++ [.glo "is_way", .glo "is_deed", .glo "found_at", .glo "placed", .glo "pulled", .glo "seen_of", .glo "is_order", .glo "Desk", .glo "check_way", .glo "check_ways", .glo "is_row", .glo "check_deed", .glo "laid_anew", .glo "is_sight_of", .glo "Desk", .glo "check_row", .glo "grown", .glo "removed", .glo "Watcher", .glo "Desk", .glo "done", .glo "work", .glo "Watcher", .glo "Desk", .glo "Desk", .glo "seen_along", .glo "run", .glo "law", .glo "HOMES", .glo "STEPS"] ++ [.glo "COMES", .glo "GONES", .glo "GROWS", .glo "KINDS", .glo "SIGHTS", .free "ValueError", .free "all", .free "bool", .free "dict", .free "enumerate", .free "int", .free "isinstance", .free "len", .free "range", .free "str", .free "tuple", .free "zip", .int "EMPTY" (-1), .int "GONE" (-2), .glo "SlotError", .glo "InvalidWay", .glo "InvalidWays", .glo "InvalidSize", .glo "InvalidKey", .glo "InvalidKeys", .glo "InvalidRow", .glo "InvalidSight", .glo "InvalidSeen", .glo "InvalidOrder", .glo "InvalidTable"] ++ [.glo "InvalidNumber", .glo "InvalidDeed", .glo "InvalidText", .glo "TooLarge", .glo "Alike", .glo "Sound", .glo "NoRow", .glo "NotShown", .glo "TooMany", .glo "NothingToUndo", .cls "Desk", .mkr "Desk", .glo "Desk", .cls "Watcher", .mkr "Watcher", .glo "Watcher", .meth "Watcher" "left", .meth "Watcher" "table", .meth "Watcher" "notes", .meth "Watcher" "undo", .meth "Watcher" "__eq__", .meth "Watcher" "__len__", .meth "Desk" "undo", .meth "Desk" "table", .meth "Desk" "history", .meth "Desk" "__eq__", .meth "Desk" "__len__", .meth "Desk" "order", .meth "Desk" "__str__", .meth "Watcher" "note"] ++ [.meth "Desk" "do", .meth "Desk" "redo"]
def htf : List He.Defn := [("law", none)]
def hex (K : PySem.W.Frag) : Bool := [tupN K "HOMES" [.str "low", .str "fold"], tupN K "STEPS" [.str "up", .str "down", .str "wide", .str "own"], tupN K "COMES" [.str "late", .str "empty", .str "near", .str "first"], tupN K "GONES" [.str "mark", .str "hole", .str "again", .str "pull"], tupN K "GROWS" [.str "half", .str "three", .str "full"], tupN K "KINDS" [.str "ask", .str "put", .str "take"], tupN K "SIGHTS" [.str "both", .str "looks", .str "order"], xcB K "InvalidDeed", xcB K "InvalidRow", xcB K "InvalidSeen", xcB K "InvalidSight", xcB K "InvalidWay", xcB K "InvalidWays", xcB K "NotShown", xcB K "NothingToUndo", xcB K "TooMany", xaB K, ocB K "Desk", ocB K "Watcher", uniqB (tabsOf K htf)].all id
abbrev R : PySem.W.OpenRow := PySem.W.OpenLaw.row PySem.Challenge.rw_slotorders_k20_many_notes
abbrev hk : PySem.W.Hook := He.hookX 4 hfa hfn [] htf hex
def hob (s : PySem.W.SharedT) : He.AlX := He.obsX 4 hfa hfn [] htf hex (HandSHeadRun.getT s)
theorem hob_eq (s : PySem.W.SharedT) : hob s = hk.obs s.abs := He.obsX_eq (HandSHeadRun.getT_eq s)
def loose : List PySem.Str := [("SlotError" : PySem.Str), ("InvalidWay" : PySem.Str), ("InvalidWays" : PySem.Str), ("InvalidSize" : PySem.Str), ("InvalidKey" : PySem.Str), ("InvalidKeys" : PySem.Str), ("InvalidRow" : PySem.Str), ("InvalidSight" : PySem.Str), ("InvalidSeen" : PySem.Str), ("InvalidOrder" : PySem.Str), ("InvalidTable" : PySem.Str), ("InvalidNumber" : PySem.Str), ("InvalidDeed" : PySem.Str), ("InvalidText" : PySem.Str), ("TooLarge" : PySem.Str), ("Alike" : PySem.Str), ("Sound" : PySem.Str), ("NoRow" : PySem.Str), ("NotShown" : PySem.Str), ("TooMany" : PySem.Str), ("NothingToUndo" : PySem.Str), ("HOMES" : PySem.Str), ("STEPS" : PySem.Str), ("COMES" : PySem.Str), ("GONES" : PySem.Str), ("GROWS" : PySem.Str), ("is_between" : PySem.Str), ("is_word" : PySem.Str), ("is_slot_way" : PySem.Str), ("is_way" : PySem.Str)] ++ [("check_way" : PySem.Str), ("check_ways" : PySem.Str), ("is_key" : PySem.Str), ("KINDS" : PySem.Str), ("SIGHTS" : PySem.Str), ("is_deed" : PySem.Str), ("is_row" : PySem.Str), ("check_deed" : PySem.Str), ("check_row" : PySem.Str), ("check_sight" : PySem.Str), ("home_of" : PySem.Str), ("walk_of" : PySem.Str), ("bound_of" : PySem.Str), ("EMPTY" : PySem.Str), ("GONE" : PySem.Str), ("begun" : PySem.Str), ("keys_in" : PySem.Str), ("order_in" : PySem.Str), ("each_once" : PySem.Str), ("found_at" : PySem.Str), ("with_slot" : PySem.Str), ("distance" : PySem.Str), ("placed" : PySem.Str), ("laid_anew" : PySem.Str), ("used_in" : PySem.Str), ("grown" : PySem.Str), ("pulled" : PySem.Str), ("removed" : PySem.Str), ("done" : PySem.Str), ("seen_of" : PySem.Str)] ++ [("work" : PySem.Str), ("seen_along" : PySem.Str), ("run" : PySem.Str), ("is_order" : PySem.Str), ("is_sight_of" : PySem.Str), ("Watcher" : PySem.Str), ("Desk" : PySem.Str), ("_law_draw" : PySem.Str), ("_law_begun" : PySem.Str), ("_law_result" : PySem.Str), ("_law_way" : PySem.Str)]
open PySem.W PySem.Calls PyProof.Rows in
theorem run_a (w : World) (os : OsState) : (DH.runE R w os).map (fun s => (HandSHeadRun.looksF R.prog (boot_heap w.params) s.abs, HandSHeadRun.seenQ (PySem.W.view R.prog [81]) loose (importedModules R.prog.main.body) (fun s => PySem.W.xlAt (PySem.W.view R.prog [81]) [] s && PySem.W.recOk R.toRowW.records s) s.abs)) = some (true, PySem.W.openGood (PySem.W.view R.prog [81]) loose) := by kernel_rfl
theorem run_b (w : World) (os : OsState) : (DH.runE R w os).map (fun s => (hob s).1.1.1) = some true := by kernel_rfl
theorem run_c (w : World) (os : OsState) : (DH.runE R w os).map (fun s => ((hob s).1.1.2, (hob s).1.2, (hob s).2)) = some (hfn.map He.DefD.val, [], true) := by kernel_rfl
theorem run (w : World) : HandSHeadRun.RunEq R (PySem.W.view R.prog [81]) hk hob 20000 loose w := DH.run_of (run_a w) (run_b w) (run_c w)
end G6
namespace DL
open PySem PySem.Spec PyProof.Rows L2
/-- a new tuple's object -/
def tupO (its : List Value) (n : Nat) : Obj := { cls := .type "tuple", data := .seq its.toArray n }
def TqT (K : PySem.W.Frag) (H : Hp) (a : Addr) (xs : List V) : Prop := (∃ o : Obj, o.dict = none ∧ H a = some (.frz o (.tup xs))) ∨
  ∃ (o : Obj) (its : Array Value) (n : Nat), K.lookup a = some o ∧ o.cls = .type "tuple" ∧ o.dict = none ∧ o.data = .seq its n ∧ its.size ≤ sizeLine ∧ Vals xs its.toList
theorem TqT.sq {K : PySem.W.Frag} {H : Hp} {a : Addr} {xs : List V} (h : TqT K H a xs) : SqT K H a xs := by
  rcases h with ⟨o, _, h⟩ | ⟨o, its, n, h1, h2, _, h4, h5, h6⟩
  · exact .inl (.inr ⟨o, h⟩)
  · exact .inr ⟨o, its, n, h1, h2, h4, h5, h6⟩
/-- what a rule says of a new tuple -/
def NewT (xs : List V) (H : Hp) (Q : VK) : Prop := ∀ p o, H p = none → o.dict = none → Q (.ref p) (upd H p (.frz o (.tup xs)))
section
variable {X : Cx} {pins : List (Addr × Obj)} {σ : L2.St} {H : Hp} {s : Shared} {h' : Heap} {Q : VK}
theorem laidT {a : Addr} {xs : List V} {its : List Value} {n tk : Nat} (I : Inv X pins σ H s) (k : ∀ b u, s.heap.get? b = some u → h'.get? b = some u) (le : s.heap.objs.size ≤ a) (e : h'.get? a = some (tupO its n)) (r : Vals xs its) (hz : xs.length ≤ sizeLine) (q : NewT xs H Q) :
    EP X pins σ Q (.ref a) { s with heap := h', toks := tk } :=
  ⟨.ref a, upd H a (.frz (tupO its n) (.tup xs)), I.laid k le (show ObjOk X.prog X.w _ h' a (.frz (tupO its n) (.tup xs)) from ⟨e, hz, its, r, _, e, rfl, n, rfl⟩), rfl, q a _ (I.hok.fresh le) rfl⟩
/-- (a, b, ..) -/
def tTupF (t : TA) : TE := fun σ H Q => t σ H fun xs H1 => xs.length ≤ sizeLine ∧ NewT xs H1 Q
theorem pe_tupF {es : List Expr} {t : TA} {pos : Pos} {x1} (h : PA X es t) : PE X (.Tuple es x1 pos) (tTupF t) :=
  ⟨fun pins s σ H Q I hq => wpAny_Tuple_spliced (thn (h.run pos pins s σ H _ I hq) fun us s1 ⟨xs, H1, I1, r, z, q⟩ => ⟨by rw [← r.length]; exact z,
    laidT (n := 0) (tk := s1.toks) I1 (fun b u e => Heap.get?_push_of_some _ e) (Nat.le_refl _) (Heap.get?_push_size _ rfl) r z q⟩)⟩
/-- tuple(xs) -/
def rTupF (K : PySem.W.Frag) : List V → Hp → VK → Prop := fun xs H Q => ∃ p ys, xs = [.ref p] ∧ ((SqL K H p ys ∧ NewT ys H Q) ∨ (SqT K H p ys ∧ Q (.ref p) H))
theorem call_tupF : CallR X (.type "tuple") (rTupF X.K) := by
  intro pins s σ H xs us Q I r h
  obtain ⟨p, ys, rfl, h⟩ := h
  obtain ⟨u, rfl, ru⟩ := vals1 r
  cases ru
  rcases h with ⟨hq, q⟩ | ⟨hq, q⟩
  · obtain ⟨its, rv, pl, hz⟩ := I.list hq
    have hl := rv.length
    refine call_tuple_list pl.isList (fun h1 kp => ?_) (by rw [List.size_toArray]; omega)
    have I1 : Inv X pins σ H { s with heap := h1 } := I.kept (t' := s.toks) kp
    exact laidT (s := { s with heap := h1 }) (n := 0) (tk := s.toks) I1 (fun b o e => Heap.get?_push_of_some _ e) (Nat.le_refl _) (Heap.get?_push_size _ rfl) rv hz q
  · obtain ⟨its, rv, pl, hz⟩ := I.tuple hq
    exact call_tuple_same pl ⟨.ref p, H, I, rfl, q⟩
/-- t + u -/
def rCatF (K : PySem.W.Frag) : R2 := fun x y H Q => ∃ a b xs ys, x = .ref a ∧ y = .ref b ∧ SqT K H a xs ∧ SqT K H b ys ∧ xs.length + ys.length ≤ sizeLine ∧
  (xs = [] → Q (.ref b) H) ∧ (xs ≠ [] → ys = [] → Q (.ref a) H) ∧ (xs ≠ [] → ys ≠ [] → NewT (xs ++ ys) H Q)
theorem op_catF : OpR X (binaryOp .Add) (rCatF X.K) := by
  intro pins s σ H x y v u Q I rx ry h
  obtain ⟨a, b, xs, ys, rfl, rfl, ha, hb, hz, q0, q1, q2⟩ := h
  cases rx
  cases ry
  obtain ⟨its, r1, p1, _⟩ := I.tuple ha
  obtain ⟨its2, r2, p2, _⟩ := I.tuple hb
  by_cases hx : xs = []
  · subst hx
    cases r1
    exact cat_tup0 p1 p2 ⟨.ref b, H, I, rfl, q0 rfl⟩
  · refine HT.cat_tup p1 p2 (fun z => hx (r1.nil_iff.mp z)) (fun z => ⟨.ref a, H, I, rfl, q1 hx (r2.nil_iff.mp z)⟩) (fun z => ?_) (by rw [← r1.length, ← r2.length]; exact hz)
    exact laidT (n := 0) (tk := s.toks) I (fun b ob q => Heap.get?_push_of_some _ q) (Nat.le_refl _) (Heap.get?_push_size _ rfl) (r1.append r2) (by rw [List.length_append]; exact hz) (q2 hx fun w => z (r2.nil_iff.mpr w))
/-- t[lo:hi] -/
def rSlF (K : PySem.W.Frag) : V → Option Int → Option Int → Hp → VK → Prop := fun x lo hi H Q => ∃ a xs, x = .ref a ∧ SqT K H a xs ∧
  (HT.sIx xs.length 0 lo = 0 ∧ HT.sIx xs.length xs.length hi = xs.length → Q (.ref a) H) ∧ (¬ (HT.sIx xs.length 0 lo = 0 ∧ HT.sIx xs.length xs.length hi = xs.length) → NewT (cutV xs lo hi) H Q)
theorem sl_tupF : SlR X (rSlF X.K) := by
  intro pins s σ H x v vl vu lo hi sl Q I rx hs pl pu h
  obtain ⟨a, xs, rfl, hx, q1, q2⟩ := h
  cases rx
  obtain ⟨its, r, ht, hz⟩ := I.tuple hx
  have hlen : its.toArray.size = xs.length := by
    rw [List.size_toArray]
    exact r.length.symm
  refine ⟨"tuple", _, PyProof.Rows.slot_tuple_getitem.lookup, ht.typeIs, ?_⟩
  by_cases hw : HT.sIx xs.length 0 lo = 0 ∧ HT.sIx xs.length xs.length hi = xs.length
  · exact getItem_tuple_whole ht hs pl pu (by rw [hlen]; exact hw) ⟨.ref a, H, I, rfl, q1 hw⟩
  · refine HT.getItem_tuple_cut ht hs pl pu (by rw [hlen]; exact hw) ?_ (by rw [hlen]; exact hz)
    rw [hlen]
    exact laidT (n := 0) (tk := s.toks) I (fun b ob q => Heap.get?_push_of_some _ q) (Nat.le_refl _) (Heap.get?_push_size _ rfl) ((r.drop _).take _) (Nat.le_trans (cutV_length xs lo hi) hz) (q2 hw)
/-- t * k -/
def rRepF (K : PySem.W.Frag) : R2 := fun x y H Q => ∃ l k xs, x = .ref l ∧ y = .int k ∧ SqT K H l xs ∧ xs ≠ [] ∧ 2 ≤ k ∧ k ≤ 1000 ∧ xs.length ≤ 1000 ∧ NewT (List.replicate k.toNat xs).flatten H Q
theorem op_repF : OpR X (binaryOp .Mult) (rRepF X.K) := by
  intro pins s σ H x y v u Q I rx ry h
  obtain ⟨l, k, xs, rfl, rfl, hT, hne, h1, h2, hz, q⟩ := h
  cases rx
  obtain ⟨t, rfl⟩ := ry
  obtain ⟨its, r, ⟨⟨cls, dd, data, sl⟩, ho, hc, n, hd⟩, hs⟩ := I.tuple hT
  replace hc : cls = .type "tuple" := hc
  replace hd : data = .seq its.toArray n := hd
  subst hc hd
  have hlen : its.toArray.size = xs.length := by
    rw [List.size_toArray]
    exact r.length.symm
  have emp : its.toArray.isEmpty = false := by
    cases r with
    | nil => exact absurd rfl hne
    | cons _ _ => rfl
  have prod : k.toNat * xs.length ≤ 1000 * 1000 := Nat.mul_le_mul (by omega) hz
  have prodI : ((its.toArray.size : Nat) : Int) * k ≤ 1000000 := by
    rw [hlen]
    have : ((xs.length : Nat) : Int) * k ≤ 1000 * k := Int.mul_le_mul_of_nonneg_right (by omega) (by omega)
    omega
  have c0 : (decide (k < -(2 ^ 63)) || decide (k ≥ 2 ^ 63)) = false := by simp; omega
  have c1 : (its.toArray.isEmpty || k == 1) = false := by rw [emp]; simp; omega
  have c2 : (decide (k ≤ 0) || its.toArray.isEmpty) = false := by rw [emp]; simp; omega
  have c4 : Builtin.Tuple.tupleTooMany (((its.toArray.size : Nat) : Int) * k) = false := by
    unfold Builtin.Tuple.tupleTooMany
    rw [sizeLine_eq]
    exact decide_eq_false (by omega)
  have c5 : (List.replicate k.toNat its).flatten.length ≤ sizeLine := by
    rw [PyProof.Rows.lm_len_rep_flat, ← r.length, sizeLine_eq]
    omega
  have mul := tuple_mulW l its.toArray n dd sl k t c0 c1 c2 (by omega) c4 (by rw [size_rep, List.size_toArray]; exact c5)
  refine wpAny_binaryOp_repeat_ref (T := "tuple") (U := "int") (by decide) ⟨_, ho, rfl⟩ (fun s' => typeIs_int s' k t) noFill_tuple_mul F.fills_int_mul F.slot_int_rmul repeat_tuple F.slot_int_index.lookup ?_
  refine call_meets F.slot_int_rmul (typeIs_int s k t) F.entry_int_rmul (F.args_int_rmul_2 _ _) (int_rmul_tuple k t l its.toArray n dd sl) ⟨ho, rfl, ⟨_, ho, rfl⟩, ?_⟩
  refine call_meets F.slot_tuple_mul ⟨_, ho, rfl⟩ F.entry_tuple_mul (F.args_tuple_mul_2 _ _) mul ⟨ho, ?_⟩
  rw [size_rep]
  refine laidT (n := 0) (tk := s.toks) I (fun b ob q => Heap.get?_push_of_some _ q) (Nat.le_refl _) (Heap.get?_push_size _ rfl) (r.rep k.toNat) ?_ q
  rw [PyProof.Rows.lm_len_rep_flat, sizeLine_eq]
  omega
theorem TqT.ty {a : Addr} {xs : List V} (I : Inv X pins σ H s) (h : TqT X.K H a xs) : s.TypeIs (.ref a) "tuple" ∧ ∀ b, Value.ref a = .ref b → ∃ ob, s.heap.get? b = some ob ∧ ob.dict = none := by
  rcases h with ⟨o, hd, e⟩ | ⟨o, its, n, hk, hc, hd, _⟩
  · obtain ⟨g, hz, its, r, o', g', hc, _⟩ := I.hok a _ e
    rw [g] at g'
    cases g'
    exact ⟨⟨_, g, hc⟩, fun b z => by cases z; exact ⟨_, g, hd⟩⟩
  · exact ⟨⟨_, I.kIn a o hk, hc⟩, fun b z => by cases z; exact ⟨_, I.kIn a o hk, hd⟩⟩
end
end DL
namespace DL
open PySem PySem.Spec PyProof.Rows L2
/-- data as a key -/
def nk : PyData → NestedKey
  | .none => .none
  | .bool b => .num (if b = true then 1 else 0)
  | .int i => .num i
  | .str x => .text x
  | .tuple xs => .tup (nks xs)
  | _ => .none
where nks : List PyData → List NestedKey
  | [] => []
  | x :: xs => nk x :: nks xs
/-- no list, no object within -/
def pureD : PyData → Bool
  | .none => true
  | .bool _ => true
  | .int _ => true
  | .str _ => true
  | .tuple xs => pureAll xs
  | _ => false
where pureAll : List PyData → Bool
  | [] => true
  | x :: xs => pureD x && pureAll xs
/-- a tuple that may be a key -/
structure okK (d : PyData) : Prop where
  pur : pureD d = true
  lay : d.canLay0 = true
  ndp : (nk d).depth ≤ 8
  shp : ∃ xs, d = .tuple xs
/-- the object of a dict with such keys: each key, where it lies, the value -/
structure NdOk (w : World) (o : Obj) (L : List (PyData × Addr × Value)) : Prop where
  ex : o.ExactDict
  dat : ∃ es ep, o.data = .dict es ep ∧ es.toList = L.map fun x => ⟨(nk x.1).hash w, .ref x.2.1, x.2.2⟩
  nd : (L.map fun x => nk x.1).Nodup
  ok : ∀ x ∈ L, okK x.1
/-- a thing known to its object, that may be written -/
def ObE (p : Addr) (o : Obj) : HO := .ext fun h => h.get? p = some o
/-- a dict that remembers what was computed: its entries -/
def MemoE (p : Addr) (es : Array DictEntry) (i : Nat) : HO := .ext fun h => ∃ (o : Obj) (ep : Nat), h.get? p = some o ∧ o.ExactDict ∧ o.data = .dict es ep ∧ (ep = es.size ∨ ep = es.size + i + 1)
/-- every object up to p is o -/
def allO (p : Addr) (o : Obj) : Heap := { objs := Array.replicate (p + 1) o }
theorem allO_get {p : Addr} {o : Obj} {es : Array DictEntry} {ep : Nat} (hd : o.data = .dict es ep) : (allO p o).get? p = some o ∧ ∀ b u, (allO p o).get? b = some u → u = o := by
  have key : ∀ b, (allO p o).get? b = if b < p + 1 then some o else none := fun b => by
    unfold Heap.get? allO
    simp only [Array.getElem?_replicate]
    by_cases h : b < p + 1
    · simp only [h, if_true]
      obtain ⟨c, d, dt, sl⟩ := o
      simp only at hd
      subst hd
      rfl
    · simp only [h, if_false]
  refine ⟨by rw [key, if_pos (Nat.lt_succ_self p)], fun b u e => ?_⟩
  rw [key] at e
  split at e
  · cases e
    rfl
  · cases e
theorem ObE_code {p c : Addr} {o : Obj} {q : Str} {es : Array DictEntry} {ep : Nat} (hd : o.data = .dict es ep) : ObE p o ≠ LamX.CodeO c q := fun e => by
  unfold ObE LamX.CodeO at e
  injection e with e
  have h := congrFun e (allO p o)
  obtain ⟨h1, h2⟩ := allO_get (p := p) hd
  have h3 : ∃ (oc : Obj) (vs : Array Value) (t : Tok), (allO p o).get? c = some oc ∧ oc.data = .fields vs ∧ vs[1]? = some (.str q t) := by
    rw [← h]
    exact h1
  obtain ⟨oc, vs, t, g, d, _⟩ := h3
  rw [h2 c oc g, hd] at d
  cases d
abbrev dOb (es : Array DictEntry) (ep : Nat) : Obj := { cls := .type "dict", data := .dict es ep }
theorem memo_one (p : Addr) (es : Array DictEntry) (ep : Nat) : (allO p (dOb es ep)).get? p = some (dOb es ep) ∧ ∀ b u, (allO p (dOb es ep)).get? b = some u → u = dOb es ep := allO_get (es := es) (ep := ep) rfl
theorem memo_is (p : Addr) (es : Array DictEntry) (i : Nat) {ep : Nat} (h : ep = es.size ∨ ep = es.size + i + 1) : ∃ (o : Obj) (ep' : Nat), (allO p (dOb es ep)).get? p = some o ∧ o.ExactDict ∧ o.data = .dict es ep' ∧ (ep' = es.size ∨ ep' = es.size + i + 1) := ⟨_, ep, (memo_one p es ep).1, ⟨rfl, rfl, rfl⟩, rfl, h⟩
theorem memo_es {p q : Addr} {es fs : Array DictEntry} {i ep : Nat} (h : ∃ (o : Obj) (ep' : Nat), (allO q (dOb fs ep)).get? p = some o ∧ o.ExactDict ∧ o.data = .dict es ep' ∧ (ep' = es.size ∨ ep' = es.size + i + 1)) : es = fs ∧ (ep = es.size ∨ ep = es.size + i + 1) := by
  obtain ⟨o, ep', g, _, d, z⟩ := h
  rw [(memo_one q fs ep).2 p o g] at d
  injection d with d1 d2
  exact ⟨d1.symm, by rw [d2]; exact z⟩
theorem MemoE_ObE {p q : Addr} {es : Array DictEntry} {i : Nat} {o : Obj} : MemoE p es i ≠ ObE q o := fun e => by
  unfold MemoE ObE at e
  injection e with e
  have key : ∀ ep : Nat, (ep = es.size ∨ ep = es.size + i + 1) → dOb es ep = o := fun ep hp => by
    have h3 : (allO p (dOb es ep)).get? q = some o := by
      rw [← congrFun e (allO p (dOb es ep))]
      exact memo_is p es i hp
    exact ((memo_one p es ep).2 q o h3).symm
  have := (key _ (.inl rfl)).trans (key _ (.inr rfl)).symm
  injection this with _ _ z
  injection z with _ z
  omega
theorem MemoE_code {p c : Addr} {es : Array DictEntry} {i : Nat} {q : Str} : MemoE p es i ≠ LamX.CodeO c q := fun e => by
  unfold MemoE LamX.CodeO at e
  injection e with e
  have h3 : ∃ (oc : Obj) (vs : Array Value) (t : Tok), (allO p (dOb es es.size)).get? c = some oc ∧ oc.data = .fields vs ∧ vs[1]? = some (.str q t) := by
    rw [← congrFun e (allO p (dOb es es.size))]
    exact memo_is p es i (.inl rfl)
  obtain ⟨oc, vs, t, g, d, _⟩ := h3
  rw [(memo_one p es es.size).2 c oc g] at d
  cases d
end DL
namespace DL
open PySem PySem.Spec L2
abbrev D := PyData
/-- what is wanted of a value, and of an exception by its class's name -/
abbrev WD (α : Type) := (α → Prop) → (Str → Prop) → Prop
/-- the fields of an instance that may change, as far as they are there -/
def dskF (fs : List (Str × V)) : Bool := List.isPrefixOf (fs.map (·.1)) (["way", "tables", "past", "future"] : List Str) || List.isPrefixOf (fs.map (·.1)) (["ways", "sight", "left_along", "noted"] : List Str)
/-- a list, a dict, an instance: what may change -/
def Mb (o : HO) : Prop := (∃ xs, o = .lst xs) ∨ (∃ k, o = .dK k) ∨ (∃ (p : Addr) (ob : Obj) (es : Array DictEntry) (ep : Nat), o = ObE p ob ∧ ob.data = .dict es ep) ∨ ∃ (C dx : Addr) (fs : List (Str × V)), o = .ins C dx fs ∧ dskF fs = true
/-- what shifts: a table of code objects, what is remembered -/
def Sf (o : HO) : Prop := (∃ ps, o = .tbl ps) ∨ ∃ p es i, o = MemoE p es i
/-- the names of the code objects of a table; what is remembered is sound -/
class Nm where
  tabs : List (Addr × Str)
  uniq : ∀ p ∈ tabs, ∀ q ∈ tabs, p.1 = q.1 → p.2 = q.2
  mem : Hp → Nat → Array DictEntry → Prop
  memK : ∀ {H H' : Hp} {d : Nat} {es : Array DictEntry}, (∀ a o u, H a = some (.frz o u) → H' a = some (.frz o u)) → mem H d es → mem H' d es
  desc : Nat → Option (D × List D)
/-- what is remembered stays, or grows -/
def MemK [Nm] (H H' : Hp) : Prop := ∀ m es i, H m = some (MemoE m es i) → ∃ es', H' m = some (MemoE m es' i) ∧ (Nm.mem H i es → Nm.mem H' i es')
theorem MemK.refl [Nm] (H : Hp) : MemK H H := fun m es i e => ⟨es, e, fun h => h⟩
theorem MemK.trans [Nm] {H H1 H2 : Hp} (a : MemK H H1) (b : MemK H1 H2) : MemK H H2 := fun m es i e =>
  let ⟨es1, e1, h1⟩ := a m es i e
  let ⟨es2, e2, h2⟩ := b m es1 i e1
  ⟨es2, e2, fun h => h2 (h1 h)⟩
theorem MemK.of [Nm] {H H' : Hp} (m : ∀ a p es i, H a = some (MemoE p es i) → H' a = some (MemoE p es i)) (f : ∀ a o u, H a = some (.frz o u) → H' a = some (.frz o u)) : MemK H H' := fun a es i e => ⟨es, m a a es i e, fun h => Nm.memK f h⟩
structure Nl [Nm] (H H' : Hp) : Prop where
  all : ∀ a o, H a = some o → ¬ Mb o → ¬ Sf o → H' a = some o
  mem : MemK H H'
def TabOk [Nm] (H : Hp) : Prop := LamX.Tabs Nm.tabs H
/-- what stood stands, but for what shifts, and that is still sound -/
structure Same [Nm] (H H' : Hp) : Prop where
  all : ∀ a o, H a = some o → ¬ Sf o → H' a = some o
  tab : TabOk H → TabOk H'
  mem : MemK H H'
theorem Same.refl [Nm] (H : Hp) : Same H H := ⟨fun _ _ h _ => h, fun h => h, .refl H⟩
theorem Same.trans [Nm] {H H1 H2 : Hp} (a : Same H H1) (b : Same H1 H2) : Same H H2 := ⟨fun c o h n => b.all c o (a.all c o h n) n, fun h => b.tab (a.tab h), a.mem.trans b.mem⟩
theorem Same.of [Nm] {H H' : Hp} (s : L2.Same H H') : Same H H' := ⟨fun a o h _ => s a o h, fun t => LamX.Tabs.ext t s, .of (fun a p es i e => s a _ e) fun a o u e => s a _ e⟩
/-- nothing that stays -/
def Nn (H : Hp) (a : Addr) : Prop := ∀ o, H a = some o → Sf o
theorem nn {H : Hp} {a : Addr} (h : H a = none) : Nn H a := fun o e => by
  rw [h] at e
  cases e
theorem Nn.ne {H : Hp} {a p : Addr} {o : HO} (n : Nn H p) (e : H a = some o) (z : ¬ Sf o) : a ≠ p := fun q => by
  subst q
  exact z (n o e)
theorem Same.free [Nm] {H H' : Hp} (s : Same H H') {a : Addr} (n : Nn H' a) : Nn H a := fun o e => Classical.byContradiction fun z => z (n o (s.all a o e z))
theorem sf_memo {p : Addr} {es : Array DictEntry} {i : Nat} : Sf (MemoE p es i) := .inr ⟨p, es, i, rfl⟩
theorem no_lst {xs : List V} : ¬ Sf (.lst xs) := fun z => by rcases z with ⟨_, e⟩ | ⟨_, _, _, e⟩ <;> cases e
theorem no_dk {k : List (Key × V)} : ¬ Sf (.dK k) := fun z => by rcases z with ⟨_, e⟩ | ⟨_, _, _, e⟩ <;> cases e
theorem no_ins {C dx : Addr} {fs : List (Str × V)} : ¬ Sf (.ins C dx fs) := fun z => by rcases z with ⟨_, e⟩ | ⟨_, _, _, e⟩ <;> cases e
theorem no_frz {o : Obj} {u : HO} : ¬ Sf (.frz o u) := fun z => by rcases z with ⟨_, e⟩ | ⟨_, _, _, e⟩ <;> cases e
theorem no_mb {o : HO} (h : Mb o) : ¬ Sf o := fun z => by
  rcases z with ⟨_, e⟩ | ⟨_, _, _, e⟩ <;> subst e
  · rcases h with ⟨_, e⟩ | ⟨_, e⟩ | ⟨_, _, _, _, e, _⟩ | ⟨_, _, _, e, _⟩ <;> cases e
  · rcases h with ⟨_, e⟩ | ⟨_, e⟩ | ⟨_, _, _, _, e, _⟩ | ⟨_, _, _, e, _⟩
    · cases e
    · cases e
    · exact MemoE_ObE e
    · cases e
theorem not_mb_code {c : Addr} {q : Str} : ¬ Mb (LamX.CodeO c q) := fun h => by
  rcases h with ⟨_, e⟩ | ⟨_, e⟩ | ⟨_, _, _, _, e, d⟩ | ⟨_, _, _, e, _⟩
  · cases e
  · cases e
  · exact ObE_code d e.symm
  · cases e
theorem no_code {c : Addr} {q : Str} : ¬ Sf (LamX.CodeO c q) := fun z => by
  rcases z with ⟨_, e⟩ | ⟨_, _, _, e⟩
  · cases e
  · exact MemoE_code e.symm
structure Ob [Nm] where
  wd : World
  ro : PySem.W.Frag → Hp → (Addr → Prop) → V → List (D × D) → Prop
  isRef : ∀ {K : PySem.W.Frag} {H : Hp} {P : Addr → Prop} {v : V} {k : List (D × D)}, ro K H P v k → ∃ a, v = .ref a
  keep : ∀ {K : PySem.W.Frag} {H H' : Hp} {P P' : Addr → Prop} {v : V} {k : List (D × D)}, Nl H H' → (∀ a o, H a = some o → Mb o → ¬ P a → H' a = some o) → (∀ a o, H a = some o → ¬ Sf o → ¬ P a → ¬ P' a) → ro K H P v k → ro K H' P' v k
theorem Nl.of [Nm] {H H' : Hp} (s : Same H H') : Nl H H' := ⟨fun a o h _ n => s.all a o h n, s.mem⟩
/-- what may change is changed: what is remembered stays -/
theorem MemK.upd [Nm] {H : Hp} {p : Addr} {o o5 : HO} (e : H p = some o5) (m : Mb o5) : MemK H (L2.upd H p o) := by
  have ne : ∀ {b : Addr} {u : HO}, H b = some u → ¬ Mb u → b ≠ p := fun {b u} eb nu z => by
    subst z
    rw [e] at eb
    cases eb
    exact nu m
  refine .of (fun a q es i ea => ?_) fun a o u ea => ?_
  · rw [upd_ne (ne ea fun z => no_mb z sf_memo)]
    exact ea
  · rw [upd_ne (ne ea fun h => by rcases h with ⟨_, e⟩ | ⟨_, e⟩ | ⟨_, _, _, _, e, _⟩ | ⟨_, _, _, e, _⟩ <;> cases e)]
    exact ea
theorem Nl.upd [Nm] {H : Hp} {p : Addr} {o o5 : HO} (e : H p = some o5) (m : Mb o5) : Nl H (L2.upd H p o) := ⟨fun a u ea nu _ => by
  have : a ≠ p := fun z => by
    subst z
    rw [e] at ea
    cases ea
    exact nu m
  rw [upd_ne this]
  exact ea, .upd e m⟩
theorem TabS_upd {H : Hp} {p P : Addr} {q : Str} {o o5 : HO} (t : LamX.TabS H P q) (e : H p = some o5) (m : Mb o5) : LamX.TabS (upd H p o) P q := by
  obtain ⟨ps, h1, h2, h3⟩ := t
  have ne : ∀ {b : Addr} {u : HO}, H b = some u → ¬ Mb u → b ≠ p := fun {b u} eb nu z => by
    subst z
    rw [e] at eb
    cases eb
    exact nu m
  refine ⟨ps, by rw [upd_ne (ne h1 fun z => no_mb z (.inl ⟨_, rfl⟩))]; exact h1, h2, fun pos cv hc => ?_⟩
  obtain ⟨c, e1, e2⟩ := h3 pos cv hc
  refine ⟨c, e1, ?_⟩
  rw [upd_ne (ne e2 not_mb_code)]
  exact e2
theorem TabOk.upd [Nm] {H : Hp} {p : Addr} {o o5 : HO} (t : TabOk H) (e : H p = some o5) (m : Mb o5) : TabOk (L2.upd H p o) := fun a z => TabS_upd (t a z) e m
theorem Same.upd [Nm] {H H' : Hp} {p : Addr} {o o5 : HO} (s : Same H H') (n : Nn H p) (e : H' p = some o5) (m : Mb o5) : Same H (L2.upd H' p o) :=
  ⟨fun a u h z => by rw [upd_ne (n.ne h z)]; exact s.all a u h z, fun t => (s.tab t).upd e m, s.mem.trans (.upd e m)⟩
theorem mb_lst {xs : List V} : Mb (.lst xs) := .inl ⟨_, rfl⟩
theorem mb_dk {k : List (Key × V)} : Mb (.dK k) := .inr (.inl ⟨_, rfl⟩)
theorem NdOk.mb {w : World} {o : Obj} {L : List (D × Addr × Value)} {p : Addr} (h : NdOk w o L) : Mb (ObE p o) := let ⟨es, ep, e, _⟩ := h.dat; .inr (.inr (.inl ⟨p, o, es, ep, rfl, e⟩))
theorem mb_ins {C dx : Addr} {fs : List (Str × V)} (h : dskF fs = true) : Mb (.ins C dx fs) := .inr (.inr (.inr ⟨C, dx, fs, rfl, h⟩))
theorem not_mb_frz {o : Obj} {u : HO} : ¬ Mb (.frz o u) := fun h => by
  rcases h with ⟨_, e⟩ | ⟨_, e⟩ | ⟨_, _, _, _, e, _⟩ | ⟨_, _, _, e, _⟩ <;> cases e
theorem Nl.rd [Nm] {H H' : Hp} {a : Addr} {u : HO} (n : Nl H H') (h : Rd H a u) (hu : ¬ Mb u) (hs : ¬ Sf u) : Rd H' a u := by
  rcases h with h | ⟨o, h⟩
  · exact .inl (n.all a _ h hu hs)
  · exact .inr ⟨o, n.all a _ h not_mb_frz no_frz⟩
theorem Nl.tup [Nm] {K : PySem.W.Frag} {H H' : Hp} {a : Addr} {xs : List V} (n : Nl H H') (h : TqT K H a xs) : TqT K H' a xs := by
  rcases h with ⟨o, h1, h2⟩ | h
  · exact .inl ⟨o, h1, n.all a _ h2 not_mb_frz no_frz⟩
  · exact .inr h
def kD : Key → D
  | .inl i => .int i
  | .inr x => .str x
/-- a dict as data -/
def dictE (ds : List (Key × D)) : D := .dict (ds.map fun p => (kD p.1, p.2))
/-- a dict whose keys are tuples -/
abbrev ndE (ds : List (D × D)) : D := .dict ((.bool false, .none) :: ds)
/-- .. that is never written again -/
abbrev ndZ (ds : List (D × D)) : D := .dict ((.bool false, .bool true) :: ds)
/-- .. that is never written again -/
def dictZ (ds : List (Key × D)) : D := .dict ((.bool true, .none) :: ds.map fun p => (kD p.1, p.2))
mutual
/-- v stands for the data d; its lists are none of P -/
inductive Dv [Nm] (O : Ob) (K : PySem.W.Frag) (H : Hp) (P : Addr → Prop) : V → D → Prop
  | non : Dv O K H P .non .none
  | bl (b : Bool) : Dv O K H P (.bl b) (.bool b)
  | int (i : Int) : Dv O K H P (.int i) (.int i)
  | str (x : Str) : PyData.strOk x = true → Dv O K H P (.str x) (.str x)
  | lst {a : Addr} {xs : List V} {ds : List D} : H a = some (.lst xs) → ¬ P a → DvAll O K H P xs ds → Dv O K H P (.ref a) (.list ds)
  | tup {a : Addr} {xs : List V} {ds : List D} : TqT K H a xs → DvAll O K H P xs ds → Dv O K H P (.ref a) (.tuple ds)
  | dct {a : Addr} {kvs : List (Key × V)} {ds : List (Key × D)} : H a = some (.dK kvs) → ¬ P a → kvs.map (·.1) = ds.map (·.1) → DvAll O K H P (kvs.map (·.2)) (ds.map (·.2)) → Dv O K H P (.ref a) (dictE ds)
  | dcz {a : Addr} {o : Obj} {kvs : List (Key × V)} {ds : List (Key × D)} : H a = some (.frz o (.dK kvs)) → kvs.map (·.1) = ds.map (·.1) → DvAll O K H P (kvs.map (·.2)) (ds.map (·.2)) → Dv O K H P (.ref a) (dictZ ds)
  | nd {a : Addr} {o : Obj} {L : List (D × Addr × Value)} {vs : List V} {ds : List (D × D)} : H a = some (ObE a o) → ¬ P a → (a == sysModules) = false → NdOk O.wd o L → L.map (·.1) = ds.map (·.1) → DvAll O K H P (L.map fun x => V.ref x.2.1) (ds.map (·.1)) → Vals vs (L.map (·.2.2)) → DvAll O K H P vs (ds.map (·.2)) → Dv O K H P (.ref a) (ndE ds)
  | ndz {a : Addr} {o : Obj} {L : List (D × Addr × Value)} {vs : List V} {ds : List (D × D)} : H a = some (.frz o (ObE a o)) → (a == sysModules) = false → NdOk O.wd o L → L.map (·.1) = ds.map (·.1) → DvAll O K H P (L.map fun x => V.ref x.2.1) (ds.map (·.1)) → Vals vs (L.map (·.2.2)) → DvAll O K H P vs (ds.map (·.2)) → Dv O K H P (.ref a) (ndZ ds)
  | obj {v : V} {k : List (D × D)} : O.ro K H P v k → Dv O K H P v (.dict k)
inductive DvAll [Nm] (O : Ob) (K : PySem.W.Frag) (H : Hp) (P : Addr → Prop) : List V → List D → Prop
  | nil : DvAll O K H P [] []
  | cons {v : V} {vs : List V} {d : D} {ds : List D} : Dv O K H P v d → DvAll O K H P vs ds → DvAll O K H P (v :: vs) (d :: ds)
end
section
variable [Nm] {O : Ob} {K : PySem.W.Frag} {H H' : Hp} {P P' : Addr → Prop}
mutual
theorem Dv.keep (n : Nl H H') (l : ∀ a o, H a = some o → Mb o → ¬ P a → H' a = some o) (p : ∀ a o, H a = some o → ¬ Sf o → ¬ P a → ¬ P' a) : ∀ {v : V} {d : D}, Dv O K H P v d → Dv O K H' P' v d
  | _, _, .non => .non
  | _, _, .bl b => .bl b
  | _, _, .int i => .int i
  | _, _, .str x h => .str x h
  | _, _, .lst h q r => .lst (l _ _ h mb_lst q) (p _ _ h no_lst q) (DvAll.keep n l p r)
  | _, _, .dct h q k r => .dct (l _ _ h mb_dk q) (p _ _ h no_dk q) k (DvAll.keep n l p r)
  | _, _, .nd h q y k e r1 v r2 => .nd (l _ _ h k.mb q) (p _ _ h (no_mb k.mb) q) y k e (DvAll.keep n l p r1) v (DvAll.keep n l p r2)
  | _, _, .ndz h y k e r1 v r2 => .ndz (n.all _ _ h not_mb_frz no_frz) y k e (DvAll.keep n l p r1) v (DvAll.keep n l p r2)
  | _, _, .tup h r => .tup (n.tup h) (DvAll.keep n l p r)
  | _, _, .dcz h k r => .dcz (n.all _ _ h not_mb_frz no_frz) k (DvAll.keep n l p r)
  | _, _, .obj h => .obj (O.keep n l p h)
theorem DvAll.keep (n : Nl H H') (l : ∀ a o, H a = some o → Mb o → ¬ P a → H' a = some o) (p : ∀ a o, H a = some o → ¬ Sf o → ¬ P a → ¬ P' a) : ∀ {vs : List V} {ds : List D}, DvAll O K H P vs ds → DvAll O K H' P' vs ds
  | _, _, .nil => .nil
  | _, _, .cons h r => .cons (Dv.keep n l p h) (DvAll.keep n l p r)
end
theorem Dv.same {v : V} {d : D} (s : Same H H') (h : Dv O K H P v d) : Dv O K H' P v d := h.keep (.of s) (fun a _ e m _ => s.all a _ e (no_mb m)) fun _ _ _ _ q => q
theorem DvAll.same {v : List V} {d : List D} (s : Same H H') (h : DvAll O K H P v d) : DvAll O K H' P v d := h.keep (.of s) (fun a _ e m _ => s.all a _ e (no_mb m)) fun _ _ _ _ q => q
theorem Dv.less {v : V} {d : D} (p : ∀ a, P' a → P a) (h : Dv O K H P v d) : Dv O K H P' v d := h.keep ⟨fun _ _ e _ _ => e, .refl H⟩ (fun _ _ e _ _ => e) fun _ _ _ _ q z => q (p _ z)
theorem DvAll.less {v : List V} {d : List D} (p : ∀ a, P' a → P a) (h : DvAll O K H P v d) : DvAll O K H P' v d := h.keep ⟨fun _ _ e _ _ => e, .refl H⟩ (fun _ _ e _ _ => e) fun _ _ _ _ q z => q (p _ z)
theorem DvAll.length : ∀ {vs : List V} {ds : List D}, DvAll O K H P vs ds → vs.length = ds.length
  | _, _, .nil => rfl
  | _, _, .cons _ r => congrArg (· + 1) r.length
theorem DvAll.get : ∀ {vs : List V} {ds : List D} {i : Nat} {d : D}, DvAll O K H P vs ds → ds[i]? = some d → ∃ v, vs[i]? = some v ∧ Dv O K H P v d
  | _, _, _, _, .nil, e => by simp at e
  | _, _, 0, _, .cons h _, e => by
    simp at e
    subst e
    exact ⟨_, rfl, h⟩
  | _, _, i + 1, _, .cons _ r, e => by
    obtain ⟨v, e1, h1⟩ := r.get (i := i) (by simpa using e)
    exact ⟨v, by simpa using e1, h1⟩
theorem DvAll.append : ∀ {vs ws : List V} {ds es : List D}, DvAll O K H P vs ds → DvAll O K H P ws es → DvAll O K H P (vs ++ ws) (ds ++ es)
  | _, _, _, _, .nil, s => s
  | _, _, _, _, .cons h r, s => .cons h (r.append s)
theorem DvAll.take : ∀ {vs : List V} {ds : List D} (n : Nat), DvAll O K H P vs ds → DvAll O K H P (vs.take n) (ds.take n)
  | _, _, 0, _ => by simpa using DvAll.nil
  | _, _, _ + 1, .nil => .nil
  | _, _, n + 1, .cons h r => .cons h (r.take n)
theorem DvAll.drop : ∀ {vs : List V} {ds : List D} (n : Nat), DvAll O K H P vs ds → DvAll O K H P (vs.drop n) (ds.drop n)
  | _, _, 0, r => r
  | _, _, _ + 1, .nil => .nil
  | _, _, n + 1, .cons _ r => r.drop n
mutual
theorem Dv.dp : ∀ {d : D} {v : V}, Dv O K H P v d → d.canLay0 = true → Dp K H v d
  | _, _, .non, _ => .non
  | _, _, .bl b, _ => .bl b
  | _, _, .int i, _ => .int i
  | _, _, .str x _, _ => .str x
  | _, _, .lst h _ r, e => .lst (.inl (.inl h)) (DvAll.dp r (by simpa [PyData.canLay0] using e))
  | _, _, .tup h r, e => .tup h.sq (DvAll.dp r (by simpa [PyData.canLay0] using e))
  | _, _, .dct _ _ _ _, e => by simp [dictE, PyData.canLay0] at e
  | _, _, .dcz _ _ _, e => by simp [dictZ, PyData.canLay0] at e
  | _, _, .nd _ _ _ _ _ _ _ _, e => by simp [PyData.canLay0] at e
  | _, _, .ndz _ _ _ _ _ _ _, e => by simp [PyData.canLay0] at e
  | _, _, .obj _, e => by simp [PyData.canLay0] at e
theorem DvAll.dp : ∀ {ds : List D} {vs : List V}, DvAll O K H P vs ds → PyData.canLayAll0 ds = true → DpAll K H vs ds
  | _, _, .nil, _ => .nil
  | d :: ds, _, .cons h r, e => by
    have e' : PyData.canLay0 d = true ∧ PyData.canLayAll0 ds = true := by simpa [PyData.canLayAll0] using e
    exact .cons (Dv.dp h e'.1) (DvAll.dp r e'.2)
end
theorem Dv.dpS {d : D} {v : V} (h : Dv O K H P v d) (e : SeqAt.shaped d = true) : Dp K H v d := h.dp (SeqAt.canLay_of_shaped e)
mutual
theorem Dv.pure : ∀ {d : D} {v : V}, Dv O K H P v d → pureD d = true → Dv O K H P' v d
  | _, _, .non, _ => .non
  | _, _, .bl b, _ => .bl b
  | _, _, .int i, _ => .int i
  | _, _, .str x h, _ => .str x h
  | _, _, .lst _ _ _, e => by simp [pureD] at e
  | _, _, .tup h r, e => .tup h (DvAll.pure r (by simpa [pureD] using e))
  | _, _, .dct _ _ _ _, e => by simp [dictE, pureD] at e
  | _, _, .dcz _ _ _, e => by simp [dictZ, pureD] at e
  | _, _, .nd _ _ _ _ _ _ _ _, e => by simp [pureD] at e
  | _, _, .ndz _ _ _ _ _ _ _, e => by simp [pureD] at e
  | _, _, .obj _, e => by simp [pureD] at e
theorem DvAll.pure : ∀ {ds : List D} {vs : List V}, DvAll O K H P vs ds → pureD.pureAll ds = true → DvAll O K H P' vs ds
  | _, _, .nil, _ => .nil
  | d :: ds, _, .cons h r, e => by
    have e' : pureD d = true ∧ pureD.pureAll ds = true := by simpa [pureD.pureAll] using e
    exact .cons (Dv.pure h e'.1) (DvAll.pure r e'.2)
end
end
abbrev Rho := List (Option D)
structure Rs [Nm] (O : Ob) (K : PySem.W.Frag) (P : Addr → Prop) (ρ : Rho) (σ : L2.St) (H : Hp) : Prop where
  len : σ.length = ρ.length
  get : ∀ (i : Nat) (d : D), ρ[i]? = some (some d) → ∃ v, σ[i]? = some (some v) ∧ Dv O K H P v d
structure Dom [Nm] (H : Hp) (P : Addr → Prop) : Prop where
  has : ∀ a, P a → ∃ o, H a = some o ∧ Mb o
  tab : TabOk H
section
variable [Nm]
theorem Dom.same {H H' : Hp} {P : Addr → Prop} (h : Dom H P) (s : Same H H') : Dom H' P := ⟨fun a p =>
  let ⟨o, e, m⟩ := h.has a p
  ⟨o, s.all a o e (no_mb m), m⟩, s.tab h.tab⟩
theorem Dom.own {H H' : Hp} {P : Addr → Prop} {p : Addr} {o : HO} (h : Dom H P) (s : Same H H') (e : H' p = some o) (m : Mb o) : Dom H' (fun c => P c ∨ c = p) := ⟨fun a z => by
  rcases z with z | z
  · exact (h.same s).has a z
  · rw [z]
    exact ⟨o, e, m⟩, (h.same s).tab⟩
theorem Dom.new {H : Hp} {P : Addr → Prop} {p : Addr} (h : Dom H P) (e : Nn H p) : ¬ P p := fun z => by
  obtain ⟨o, e1, m⟩ := h.has p z
  exact no_mb m (e o e1)
theorem Dom.mb {H : Hp} {P : Addr → Prop} (h : Dom H P) {a : Addr} {o : HO} (e : H a = some o) (p : P a) : Mb o := by
  obtain ⟨u, e1, m⟩ := h.has a p
  rw [e] at e1
  cases e1
  exact m
theorem Rs.same {O : Ob} {K : PySem.W.Frag} {P : Addr → Prop} {ρ : Rho} {σ : St} {H H' : Hp} (h : Rs O K P ρ σ H) (s : Same H H') : Rs O K P ρ σ H' := ⟨h.len, fun i d e =>
  let ⟨v, e1, h1⟩ := h.get i d e
  ⟨v, e1, h1.same s⟩⟩
theorem same_new {H : Hp} {p : Addr} {o : HO} (h : H p = none) : Same H (upd H p o) := .of fun b x e => by
  rw [upd_ne (ne_of_none e h)]
  exact e
end
section
variable [Nm]
/-- what an exception of a class does -/
def XOk (X : Cx) (E : XK) (H : Hp) (Ed : Str → Prop) : Prop := ∀ c a H', Same H H' → X.mg c = some (.ref a) → Ed c → E (.ref a) none H'
theorem XOk.same {X : Cx} {E : XK} {H H' : Hp} {Ed : Str → Prop} (h : XOk X E H Ed) (s : Same H H') : XOk X E H' Ed := fun c a H2 s2 m e => h c a H2 (s.trans s2) m e
theorem XOk.no {X : Cx} {E : XK} {H : Hp} : XOk X E H (fun _ => False) := fun _ _ _ _ _ z => z.elim
def VOk (O : Ob) (K : PySem.W.Frag) (P : Addr → Prop) (H : Hp) (Qd : D → Prop) (Q : VK) : Prop := ∀ v d H', Same H H' → Dv O K H' P v d → Qd d → Q v H'
def DE (O : Ob) (X : Cx) (E : XK) (e : Expr) (f : Rho → WD D) : Prop := ∃ t, PE X e t ∧ ∀ (P : Addr → Prop) (ρ : Rho) (σ : L2.St) (H : Hp) (Qd : D → Prop) (Ed : Str → Prop) (Q : VK),
  Dom H P → Rs O X.K P ρ σ H → f ρ Qd Ed → VOk O X.K P H Qd Q → XOk X E H Ed → t σ H Q
/-- a new list -/
def DF (O : Ob) (X : Cx) (E : XK) (e : Expr) (f : Rho → WD (List D)) : Prop := ∃ t, PE X e t ∧ ∀ (P : Addr → Prop) (ρ : Rho) (σ : L2.St) (H : Hp) (Qd : List D → Prop) (Ed : Str → Prop) (Q : VK),
  Dom H P → Rs O X.K P ρ σ H → f ρ Qd Ed → (∀ p vs ds H', Same H H' → Nn H p → H' p = some (.lst vs) → DvAll O X.K H' (fun a => P a ∨ a = p) vs ds → Qd ds → Q (.ref p) H') → XOk X E H Ed → t σ H Q
def DT (O : Ob) (X : Cx) (E : XK) (e : Expr) (f : Rho → WD Bool) : Prop := ∃ t, PT X e t ∧ ∀ (P : Addr → Prop) (ρ : Rho) (σ : L2.St) (H : Hp) (Qd : Bool → Prop) (Ed : Str → Prop) (Q : Bool → Hp → Prop),
  Dom H P → Rs O X.K P ρ σ H → f ρ Qd Ed → (∀ b H', Same H H' → Qd b → Q b H') → XOk X E H Ed → t σ H Q
def DW (O : Ob) (X : Cx) (E : XK) (e : Expr) (f : Rho → WD Bool) : Prop := ∃ t, PW X e t ∧ ∀ (P : Addr → Prop) (ρ : Rho) (σ : L2.St) (H : Hp) (Qd : Bool → Prop) (Ed : Str → Prop) (Q : Bool → Hp → Prop),
  Dom H P → Rs O X.K P ρ σ H → f ρ Qd Ed → (∀ b H', Same H H' → Qd b → Q b H') → XOk X E H Ed → t σ H Q
def DA (O : Ob) (X : Cx) (E : XK) (es : List Expr) (f : Rho → WD (List D)) : Prop := ∃ t, PA X es t ∧ ∀ (P : Addr → Prop) (ρ : Rho) (σ : L2.St) (H : Hp) (Qd : List D → Prop) (Ed : Str → Prop) (Q : List V → Hp → Prop),
  Dom H P → Rs O X.K P ρ σ H → f ρ Qd Ed → (∀ vs ds H', Same H H' → DvAll O X.K H' P vs ds → ds.length = es.length → Qd ds → Q vs H') → XOk X E H Ed → t σ H Q
end
section
variable [Nm]
/-- the judgement by one reading -/
def tE (O : Ob) (K : PySem.W.Frag) (mg : Str → Option Value) (E : XK) (f : Rho → WD D) : TE := fun σ H Q => ∃ (P : Addr → Prop) (ρ : Rho) (Qd : D → Prop) (Ed : Str → Prop), Dom H P ∧ Rs O K P ρ σ H ∧ f ρ Qd Ed ∧ VOk O K P H Qd Q ∧ ∀ c a H', Same H H' → mg c = some (.ref a) → Ed c → E (.ref a) none H'
theorem DE.pe {O : Ob} {X : Cx} {E : XK} {e : Expr} {f : Rho → WD D} (h : DE O X E e f) : PE X e (tE O X.K X.mg E f) := by
  obtain ⟨t, h1, h2⟩ := h
  exact ⟨fun pins s σ H Q I ⟨P, ρ, Qd, Ed, a, b, c, d, e⟩ => h1.run pins s σ H Q I (h2 P ρ σ H Qd Ed Q a b c d e)⟩
def tT (O : Ob) (K : PySem.W.Frag) (mg : Str → Option Value) (E : XK) (f : Rho → WD Bool) : TT := fun σ H Q => ∃ (P : Addr → Prop) (ρ : Rho) (Qd : Bool → Prop) (Ed : Str → Prop), Dom H P ∧ Rs O K P ρ σ H ∧ f ρ Qd Ed ∧ (∀ b H', Same H H' → Qd b → Q b H') ∧ ∀ c a H', Same H H' → mg c = some (.ref a) → Ed c → E (.ref a) none H'
end
section
variable [Nm] {O : Ob} {X : Cx} {E : XK} {a b c : Expr} {fa fb fc : Rho → WD D} {pos : Pos}
def eOfF (f : Rho → WD (List D)) : Rho → WD D := fun ρ Q Ed => f ρ (fun ds => Q (.list ds)) Ed
theorem DF.de {e : Expr} {f : Rho → WD (List D)} (h : DF O X E e f) : DE O X E e (eOfF f) := by
  obtain ⟨t, h1, h2⟩ := h
  refine ⟨t, h1, fun P ρ σ H Qd Ed Q hd hr hf hQ hE => h2 P ρ σ H _ Ed Q hd hr hf (fun p vs ds H' s n e r q => hQ _ _ H' s (.lst e (hd.new n) (r.less fun _ z => .inl z)) q) hE⟩
def eVar (i : Nat) : Rho → WD D := fun ρ Q _ => match ρ[i]? with
  | some (some d) => Q d
  | _ => False
def eC (d : D) : Rho → WD D := fun _ Q _ => Q d
theorem de_var (i : Nat) {x : Str} (hN : X.N[i]? = some x := by rfl) (hv : Vis X.env.scope x := by first | exact Or.inl rfl | exact Or.inr (Or.inl rfl) | exact Or.inr (Or.inr rfl)) (hd : (x == ("__debug__" : Str)) = false := by decide)
    (hcd : (x == ("__classdict__" : Str)) = false := by decide) : DE O X E (.Name x pos) (eVar i) := by
  refine ⟨_, pe_var hN hv hd hcd, fun P ρ σ H Qd Ed Q hd hr hf hQ _ => ?_⟩
  unfold eVar at hf
  split at hf
  · rename_i d e
    obtain ⟨v, e1, h1⟩ := hr.get i d e
    exact ⟨v, e1, hQ v d H (Same.refl H) h1 hf⟩
  · exact hf.elim
theorem de_int {i j} : DE O X E (.Constant (.int i) j pos) (eC (.int i)) := ⟨_, pe_int, fun P ρ σ H Qd Ed Q _ _ hf hQ _ => hQ _ _ H (Same.refl H) (.int i) hf⟩
theorem de_bl {i j} : DE O X E (.Constant (.bool i) j pos) (eC (.bool i)) := ⟨_, pe_bl, fun P ρ σ H Qd Ed Q _ _ hf hQ _ => hQ _ _ H (Same.refl H) (.bl i) hf⟩
theorem de_non {j} : DE O X E (.Constant .none j pos) (eC .none) := ⟨_, pe_non, fun P ρ σ H Qd Ed Q _ _ hf hQ _ => hQ _ _ H (Same.refl H) .non hf⟩
theorem de_str {i j} (h : PyData.strOk i = true := by decide +kernel) : DE O X E (.Constant (.str i) j pos) (eC (.str i)) := ⟨_, pe_str, fun P ρ σ H Qd Ed Q _ _ hf hQ _ => hQ _ _ H (Same.refl H) (.str i h) hf⟩
theorem de_globE {x : Str} {d : D} (hg : Gl X x) (hm : ∃ u : Addr, X.mg x = some (.ref u) ∧ ∀ (O : Ob) (H : Hp) (P : Addr → Prop), Dv O X.K H P (.ref u) d) (hd : (x == ("__debug__" : Str)) = false := by decide) : DE O X E (.Name x pos) (eC d) := by
  obtain ⟨u, hm, h⟩ := hm
  exact ⟨_, pe_glob (v := .ref u) hg hm rfl hd, fun P ρ σ H Qd Ed Q _ _ hf hQ _ => hQ _ _ H (Same.refl H) (h O H P) hf⟩
theorem de_globI {x : Str} {i : Int} (hg : Gl X x) (hm : ∃ t, X.mg x = some (.int i t)) (hd : (x == ("__debug__" : Str)) = false := by decide) : DE O X E (.Name x pos) (eC (.int i)) := by
  obtain ⟨t, hm⟩ := hm
  exact ⟨_, pe_glob (v := .int i) hg hm ⟨t, rfl⟩ hd, fun P ρ σ H Qd Ed Q _ _ hf hQ _ => hQ _ _ H (Same.refl H) (.int i) hf⟩
/-- an operation upon values, told by data -/
def OpD (O : Ob) (X : Cx) (r : R2) (g : D → D → WD D) : Prop := ∀ (P : Addr → Prop) (H : Hp) (x y : V) (d e : D) (Qd : D → Prop) (Ed : Str → Prop) (Q : VK), Dom H P → Dv O X.K H P x d → Dv O X.K H P y e → g d e Qd Ed → VOk O X.K P H Qd Q → r x y H Q
def eOp (g : D → D → WD D) (fa fb : Rho → WD D) : Rho → WD D := fun ρ Q Ed => fa ρ (fun x => fb ρ (fun y => g x y Q Ed) Ed) Ed
theorem op2 {r : R2} {g : D → D → WD D} (hg : OpD O X r g) {ta tb : TE} (ha : ∀ (P : Addr → Prop) (ρ : Rho) (σ : L2.St) (H : Hp) (Qd : D → Prop) (Ed : Str → Prop) (Q : VK), Dom H P → Rs O X.K P ρ σ H → fa ρ Qd Ed → VOk O X.K P H Qd Q → XOk X E H Ed → ta σ H Q)
    (hb : ∀ (P : Addr → Prop) (ρ : Rho) (σ : L2.St) (H : Hp) (Qd : D → Prop) (Ed : Str → Prop) (Q : VK), Dom H P → Rs O X.K P ρ σ H → fb ρ Qd Ed → VOk O X.K P H Qd Q → XOk X E H Ed → tb σ H Q)
    (P : Addr → Prop) (ρ : Rho) (σ : L2.St) (H : Hp) (Qd : D → Prop) (Ed : Str → Prop) (Q : VK) (hd : Dom H P) (hr : Rs O X.K P ρ σ H) (hf : eOp g fa fb ρ Qd Ed) (hQ : VOk O X.K P H Qd Q) (hE : XOk X E H Ed) : tOp r ta tb σ H Q :=
  ha P ρ σ H _ Ed _ hd hr hf (fun x d H1 s1 h1 q1 => hb P ρ σ H1 _ Ed _ (hd.same s1) (hr.same s1) q1 (fun y e H2 s2 h2 q2 =>
    hg P H2 x y d e Qd Ed Q ((hd.same s1).same s2) (h1.same s2) h2 q2 fun v d' H3 s3 h3 q3 => hQ v d' H3 ((s1.trans s2).trans s3) h3 q3) (hE.same s1)) hE
theorem de_op {op : Operator} {r : R2} {g : D → D → WD D} (ho : OpR X (binaryOp op) r) (hg : OpD O X r g) (ha : DE O X E a fa) (hb : DE O X E b fb) : DE O X E (.BinOp a op b pos) (eOp g fa fb) := by
  obtain ⟨ta, a1, a2⟩ := ha
  obtain ⟨tb, b1, b2⟩ := hb
  exact ⟨_, pe_op ho a1 b1, op2 hg a2 b2⟩
theorem de_cmp {op : CmpOp} {r : R2} {g : D → D → WD D} (ho : OpR X (compareOp op) r) (hg : OpD O X r g) (ha : DE O X E a fa) (hb : DE O X E b fb) (hm : behindInMarks op b = false) : DE O X E (.Compare a [op] [b] pos) (eOp g fa fb) := by
  obtain ⟨ta, a1, a2⟩ := ha
  obtain ⟨tb, b1, b2⟩ := hb
  exact ⟨_, pe_cmpR ho a1 b1 hm, op2 hg a2 b2⟩
theorem OpR.or {f : Value → Value → Sem Value} {r1 r2 : R2} (h1 : OpR X f r1) (h2 : OpR X f r2) : OpR X f (fun x y H Q => r1 x y H Q ∨ r2 x y H Q) := fun pins s σ H x y v u Q I rx ry h => by
  rcases h with h | h
  · exact h1 pins s σ H x y v u Q I rx ry h
  · exact h2 pins s σ H x y v u Q I rx ry h
/-- a test out of a value that is True or False -/
def isB (Q : Bool → Prop) : D → Prop
  | .bool b => Q b
  | _ => False
def tB1 (f : Rho → WD D) : Rho → WD Bool := fun ρ Q Ed => f ρ (isB Q) Ed
theorem bool_of {P : Addr → Prop} {H : Hp} {v : V} {d : D} {Qd : Bool → Prop} (h : Dv O X.K H P v d) (q : isB Qd d) : ∃ b, v = .bl b ∧ Qd b := by
  cases h with
  | bl b => exact ⟨b, rfl, q⟩
  | _ => exact q.elim
theorem dt_cmp {op : CmpOp} {r : R2} {g : D → D → WD D} (ho : OpR X (compareOp op) r) (hg : OpD O X r g) (ha : DE O X E a fa) (hb : DE O X E b fb) (hm : behindInMarks op b = false) : DT O X E (.Compare a [op] [b] pos) (tB1 (eOp g fa fb)) := by
  obtain ⟨ta, a1, a2⟩ := ha
  obtain ⟨tb, b1, b2⟩ := hb
  refine ⟨_, pt_cmpR ho a1 b1 hm, fun P ρ σ H Qd Ed Q hd hr hf hQ hE => op2 hg a2 b2 P ρ σ H _ Ed _ hd hr hf (fun v d H' s h q => ?_) hE⟩
  obtain ⟨b, e, q⟩ := bool_of h q
  exact ⟨b, e, hQ b H' s q⟩
theorem dt_val (ha : DE O X E a fa) (he : ∀ whole, isTrue a X.env whole = (do let v ← whole; standAt a.pos; holding [v] (truthy v)) := by intro _; rfl) : DT O X E a (tB1 fa) := by
  obtain ⟨ta, a1, a2⟩ := ha
  refine ⟨_, pt_val a1 he, fun P ρ σ H Qd Ed Q hd hr hf hQ hE => a2 P ρ σ H _ Ed _ hd hr hf (fun v d H' s h q => ?_) hE⟩
  obtain ⟨b, e, q⟩ := bool_of h q
  exact ⟨b, e, hQ b H' s q⟩
/-- by truth -/
def truD : D → Option Bool
  | .none => some false
  | .bool b => some b
  | .int i => some (i != 0)
  | .list xs => some (!xs.isEmpty)
  | .tuple xs => some (!xs.isEmpty)
  | _ => none
def tTru (f : Rho → WD D) : Rho → WD Bool := fun ρ Q Ed => f ρ (fun d => match truD d with
  | some b => Q b
  | none => False) Ed
theorem isEmpty_of {P : Addr → Prop} {H : Hp} {vs : List V} {ds : List D} (h : DvAll O X.K H P vs ds) : vs.isEmpty = ds.isEmpty := by
  cases h <;> rfl
theorem dt_tru (ha : DE O X E a fa) (he : ∀ whole, isTrue a X.env whole = (do let v ← whole; standAt a.pos; holding [v] (truthy v)) := by intro _; rfl) : DT O X E a (tTru fa) := by
  obtain ⟨ta, a1, a2⟩ := ha
  refine ⟨_, pt_truth a1 he, fun P ρ σ H Qd Ed Q hd hr hf hQ hE => a2 P ρ σ H _ Ed _ hd hr hf (fun v d H' s h q => ?_) hE⟩
  cases h with
  | non => exact ⟨_, rfl, hQ _ H' s q⟩
  | bl b => exact ⟨_, rfl, hQ _ H' s q⟩
  | int i => exact ⟨_, rfl, hQ _ H' s q⟩
  | str x h => exact q.elim
  | lst e _ r => exact ⟨_, .inl ⟨_, .inl (.inl e), rfl⟩, by rw [isEmpty_of r]; exact hQ _ H' s q⟩
  | tup e r => exact ⟨_, .inr (.inl ⟨_, e.sq, rfl⟩), by rw [isEmpty_of r]; exact hQ _ H' s q⟩
  | dct _ _ _ _ => exact q.elim
  | dcz _ _ _ => exact q.elim
  | nd => exact q.elim
  | ndz => exact q.elim
  | obj _ => exact q.elim
def tAndD (f g : Rho → WD Bool) : Rho → WD Bool := fun ρ Q Ed => f ρ (fun b => if b = true then g ρ Q Ed else Q false) Ed
def tOrD (f g : Rho → WD Bool) : Rho → WD Bool := fun ρ Q Ed => f ρ (fun b => if b = true then Q true else g ρ Q Ed) Ed
def tNotD (f : Rho → WD Bool) : Rho → WD Bool := fun ρ Q Ed => f ρ (fun b => Q (!b)) Ed
variable {ga gb : Rho → WD Bool} {rest : List Expr}
theorem dw_and1 (h : DT O X E a ga) : DW O X E (.BoolOp .And [a] pos) ga := let ⟨t, h1, h2⟩ := h; ⟨t, pw_and1 h1, h2⟩
theorem dw_or1 (h : DT O X E a ga) : DW O X E (.BoolOp .Or [a] pos) ga := let ⟨t, h1, h2⟩ := h; ⟨t, pw_or1 h1, h2⟩
theorem dw_and (h : DT O X E a ga) (k : DW O X E (.BoolOp .And (b :: rest) pos) gb) : DW O X E (.BoolOp .And (a :: b :: rest) pos) (tAndD ga gb) := by
  obtain ⟨t, h1, h2⟩ := h
  obtain ⟨u, k1, k2⟩ := k
  refine ⟨_, pw_and h1 k1, fun P ρ σ H Qd Ed Q hd hr hf hQ hE => h2 P ρ σ H _ Ed _ hd hr hf (fun b H1 s1 q1 => ?_) hE⟩
  cases b with
  | true => exact k2 P ρ σ H1 _ Ed Q (hd.same s1) (hr.same s1) q1 (fun b H2 s2 q2 => hQ b H2 (s1.trans s2) q2) (hE.same s1)
  | false => exact hQ false H1 s1 q1
theorem dw_or (h : DT O X E a ga) (k : DW O X E (.BoolOp .Or (b :: rest) pos) gb) : DW O X E (.BoolOp .Or (a :: b :: rest) pos) (tOrD ga gb) := by
  obtain ⟨t, h1, h2⟩ := h
  obtain ⟨u, k1, k2⟩ := k
  refine ⟨_, pw_or h1 k1, fun P ρ σ H Qd Ed Q hd hr hf hQ hE => h2 P ρ σ H _ Ed _ hd hr hf (fun b H1 s1 q1 => ?_) hE⟩
  cases b with
  | false => exact k2 P ρ σ H1 _ Ed Q (hd.same s1) (hr.same s1) q1 (fun b H2 s2 q2 => hQ b H2 (s1.trans s2) q2) (hE.same s1)
  | true => exact hQ true H1 s1 q1
theorem DW.dt (h : DW O X E a ga) : DT O X E a ga := let ⟨t, h1, h2⟩ := h; ⟨t, h1.pt, h2⟩
theorem dt_not (h : DT O X E a ga) : DT O X E (.UnaryOp .Not a pos) (tNotD ga) := by
  obtain ⟨t, h1, h2⟩ := h
  exact ⟨_, pt_not h1, fun P ρ σ H Qd Ed Q hd hr hf hQ hE => h2 P ρ σ H _ Ed _ hd hr hf (fun b H1 s1 q1 => hQ _ H1 s1 q1) hE⟩
def eIf (g : Rho → WD Bool) (f h : Rho → WD D) : Rho → WD D := fun ρ Q Ed => g ρ (fun b => if b = true then f ρ Q Ed else h ρ Q Ed) Ed
theorem de_if (h : DT O X E c ga) (ha : DE O X E a fa) (hb : DE O X E b fb) : DE O X E (.IfExp c a b pos) (eIf ga fa fb) := by
  obtain ⟨t, h1, h2⟩ := h
  obtain ⟨ta, a1, a2⟩ := ha
  obtain ⟨tb, b1, b2⟩ := hb
  refine ⟨_, pe_ifExp h1 a1 b1, fun P ρ σ H Qd Ed Q hd hr hf hQ hE => h2 P ρ σ H _ Ed _ hd hr hf (fun b H1 s1 q1 => ?_) hE⟩
  cases b with
  | true => exact a2 P ρ σ H1 _ Ed Q (hd.same s1) (hr.same s1) q1 (fun v d H2 s2 h2 q2 => hQ v d H2 (s1.trans s2) h2 q2) (hE.same s1)
  | false => exact b2 P ρ σ H1 _ Ed Q (hd.same s1) (hr.same s1) q1 (fun v d H2 s2 h2 q2 => hQ v d H2 (s1.trans s2) h2 q2) (hE.same s1)
/-- as values: True, False -/
def eAnd (f g : Rho → WD D) : Rho → WD D := fun ρ Q Ed => f ρ (fun d => match d with
  | .bool true => g ρ Q Ed
  | .bool false => Q (.bool false)
  | _ => False) Ed
def eOr (f g : Rho → WD D) : Rho → WD D := fun ρ Q Ed => f ρ (fun d => match d with
  | .bool true => Q (.bool true)
  | .bool false => g ρ Q Ed
  | _ => False) Ed
def eNot (f : Rho → WD D) : Rho → WD D := fun ρ Q Ed => f ρ (fun d => match d with
  | .bool b => Q (.bool (!b))
  | _ => False) Ed
theorem de_one {op} (h : DE O X E a fa) : DE O X E (.BoolOp op [a] pos) fa := let ⟨t, h1, h2⟩ := h; ⟨t, pe_one h1, h2⟩
theorem de_and (ha : DE O X E a fa) (hb : DE O X E (.BoolOp .And (b :: rest) pos) fb) : DE O X E (.BoolOp .And (a :: b :: rest) pos) (eAnd fa fb) := by
  obtain ⟨ta, a1, a2⟩ := ha
  obtain ⟨tb, b1, b2⟩ := hb
  refine ⟨_, pe_and a1 b1, fun P ρ σ H Qd Ed Q hd hr hf hQ hE => a2 P ρ σ H _ Ed _ hd hr hf (fun v d H1 s1 h q => ?_) hE⟩
  cases h with
  | bl k =>
    refine ⟨k, rfl, ?_⟩
    cases k with
    | true => exact b2 P ρ σ H1 _ Ed Q (hd.same s1) (hr.same s1) q (fun v d H2 s2 h2 q2 => hQ v d H2 (s1.trans s2) h2 q2) (hE.same s1)
    | false => exact hQ _ _ H1 s1 (.bl false) q
  | _ => exact q.elim
theorem de_or (ha : DE O X E a fa) (hb : DE O X E (.BoolOp .Or (b :: rest) pos) fb) : DE O X E (.BoolOp .Or (a :: b :: rest) pos) (eOr fa fb) := by
  obtain ⟨ta, a1, a2⟩ := ha
  obtain ⟨tb, b1, b2⟩ := hb
  refine ⟨_, pe_or a1 b1, fun P ρ σ H Qd Ed Q hd hr hf hQ hE => a2 P ρ σ H _ Ed _ hd hr hf (fun v d H1 s1 h q => ?_) hE⟩
  cases h with
  | bl k =>
    refine ⟨k, rfl, ?_⟩
    cases k with
    | false => exact b2 P ρ σ H1 _ Ed Q (hd.same s1) (hr.same s1) q (fun v d H2 s2 h2 q2 => hQ v d H2 (s1.trans s2) h2 q2) (hE.same s1)
    | true => exact hQ _ _ H1 s1 (.bl true) q
  | _ => exact q.elim
theorem de_not (ha : DE O X E a fa) : DE O X E (.UnaryOp .Not a pos) (eNot fa) := by
  obtain ⟨ta, a1, a2⟩ := ha
  refine ⟨_, pe_not a1, fun P ρ σ H Qd Ed Q hd hr hf hQ hE => a2 P ρ σ H _ Ed _ hd hr hf (fun v d H1 s1 h q => ?_) hE⟩
  cases h with
  | bl k => exact ⟨k, rfl, hQ _ _ H1 s1 (.bl _) q⟩
  | _ => exact q.elim
end
end DL
namespace DL
open PySem PySem.Spec L2
section
variable [Nm] {O : Ob} {X : Cx} {E : XK}
theorem VOk.here {K : PySem.W.Frag} {P : Addr → Prop} {H : Hp} {Qd : D → Prop} {Q : VK} (h : VOk O K P H Qd Q) {v : V} {d : D} (hv : Dv O K H P v d) (q : Qd d) : Q v H := h v d H (Same.refl H) hv q
theorem VOk.new {K : PySem.W.Frag} {P : Addr → Prop} {H : Hp} {Qd : D → Prop} {Q : VK} (h : VOk O K P H Qd Q) {vs : List V} {ds : List D} (hv : DvAll O K H P vs ds) (q : Qd (.tuple ds)) : NewT vs H Q := fun p o n no =>
  h _ _ _ (same_new n) (.tup (.inl ⟨o, no, upd_same⟩) (hv.same (same_new n))) q
theorem VOk.newL {K : PySem.W.Frag} {P : Addr → Prop} {H : Hp} {Qd : D → Prop} {Q : VK} (h : VOk O K P H Qd Q) (hd : Dom H P) {vs : List V} {ds : List D} {p : Addr} (n : H p = none) (hv : DvAll O K H P vs ds) (q : Qd (.list ds)) : Q (.ref p) (upd H p (.lst vs)) :=
  h _ _ _ (same_new n) (.lst upd_same (hd.new (nn n)) (hv.same (same_new n))) q
theorem DvAll.fresh {K : PySem.W.Frag} {H H' : Hp} {P : Addr → Prop} {p : Addr} {vs : List V} {ds : List D} (h : DvAll O K H P vs ds) (np : Nn H p) (s : Same H H') : DvAll O K H' (fun a => P a ∨ a = p) vs ds :=
  h.keep (.of s) (fun a _ e m _ => s.all a _ e (no_mb m)) fun a xs e m n z => by
    rcases z with z | z
    · exact n z
    · subst z
      exact m (np _ e)
theorem strOk_append {x y : Str} (h : PyData.strOk x = true) (k : PyData.strOk y = true) : PyData.strOk (x ++ y) = true := by
  unfold PyData.strOk at *
  show (x.cps ++ y.cps).all _ = true
  rw [Array.all_append, h, k]
  rfl
def addD : D → D → WD D
  | .int i, .int j => fun Q _ => Q (.int (i + j))
  | .str x, .str y => fun Q _ => x.length + y.length ≤ 16777216 ∧ Q (.str (x ++ y))
  | .tuple xs, .tuple ys => fun Q _ => xs.length + ys.length ≤ 16777216 ∧ Q (.tuple (xs ++ ys))
  | .list xs, .list ys => fun Q _ => xs.length + ys.length ≤ 16777216 ∧ Q (.list (xs ++ ys))
  | _, _ => fun _ _ => False
abbrev rAddD (K : PySem.W.Frag) : R2 := fun x y H Q => rI0 (fun i j => .int (i + j)) x y H Q ∨ (∃ i j, x = .str i ∧ y = .str j ∧ i.length + j.length ≤ sizeLine ∧ Q (.str (i ++ j)) H) ∨ rCatF K x y H Q ∨ rCat x y H Q
theorem op_addD : OpR X (binaryOp .Add) (rAddD X.K) := OpR.or op_add (OpR.or op_add_str (OpR.or op_catF op_cat))
theorem size_eq : (16777216 : Nat) = sizeLine := by decide
theorem opd_add : OpD O X (rAddD X.K) addD := fun P H x y d e Qd Ed Q hd hx hy hg hQ => by
  cases hx with
  | int i =>
    cases hy with
    | int j => exact .inl ⟨i, j, rfl, rfl, hQ.here (.int _) hg⟩
    | _ => exact hg.elim
  | str x hx =>
    cases hy with
    | str y hy => exact .inr (.inl ⟨x, y, rfl, rfl, size_eq ▸ hg.1, hQ.here (.str _ (strOk_append hx hy)) hg.2⟩)
    | _ => exact hg.elim
  | lst e1 n1 r1 =>
    cases hy with
    | lst e2 n2 r2 => exact .inr (.inr (.inr ⟨_, _, _, _, rfl, rfl, e1, e2, by rw [r1.length, r2.length]; exact size_eq ▸ hg.1, fun p np => hQ.newL hd np (r1.append r2) hg.2⟩))
    | _ => exact hg.elim
  | tup e1 r1 =>
    cases hy with
    | tup e2 r2 =>
      refine .inr (.inr (.inl ⟨_, _, _, _, rfl, rfl, e1.sq, e2.sq, by rw [r1.length, r2.length]; exact size_eq ▸ hg.1, fun z => ?_, fun _ z => ?_, fun _ _ => hQ.new (r1.append r2) hg.2⟩))
      · subst z
        cases r1
        exact hQ.here (.tup e2 r2) hg.2
      · subst z
        cases r2
        refine hQ.here (.tup e1 r1) ?_
        have := hg.2
        rw [List.append_nil] at this
        exact this
    | _ => exact hg.elim
  | _ => cases hy <;> exact hg.elim
def intD (C : Int → Int → Prop) (g : Int → Int → D) : D → D → WD D
  | .int i, .int j => fun Q _ => C i j ∧ Q (g i j)
  | _, _ => fun _ _ => False
theorem opd_int {C : Int → Int → Prop} {g : Int → Int → V} {g' : Int → Int → D} (h : ∀ i j P H, Dv O X.K H P (g i j) (g' i j)) : OpD O X (rI C g) (intD C g') := fun P H x y d e Qd Ed Q hd hx hy hg hQ => by
  cases hx with
  | int i =>
    cases hy with
    | int j => exact ⟨i, j, rfl, rfl, hg.1, hQ.here (h _ _ _ _) hg.2⟩
    | _ => exact hg.elim
  | _ => cases hy <;> exact hg.elim
def int0 (g : Int → Int → D) : D → D → WD D
  | .int i, .int j => fun Q _ => Q (g i j)
  | _, _ => fun _ _ => False
theorem opd_int0 {g : Int → Int → V} {g' : Int → Int → D} (h : ∀ i j P H, Dv O X.K H P (g i j) (g' i j)) : OpD O X (rI0 g) (int0 g') := fun P H x y d e Qd Ed Q hd hx hy hg hQ => by
  cases hx with
  | int i =>
    cases hy with
    | int j => exact ⟨i, j, rfl, rfl, hQ.here (h _ _ _ _) hg⟩
    | _ => exact hg.elim
  | _ => cases hy <;> exact hg.elim
abbrev subD : D → D → WD D := int0 fun i j => .int (i - j)
abbrev fdivD : D → D → WD D := intD CDiv fun i j => .int (i / j)
abbrev modD : D → D → WD D := intD (fun _ j => 0 < j) fun i j => .int (i % j)
abbrev ltD : D → D → WD D := int0 fun i j => .bool (decide (i < j))
abbrev leD : D → D → WD D := int0 fun i j => .bool (decide (i ≤ j))
abbrev gtD : D → D → WD D := int0 fun i j => .bool (decide (j < i))
abbrev geD : D → D → WD D := int0 fun i j => .bool (decide (j ≤ i))
theorem opd_sub : OpD O X (rI0 fun i j => .int (i - j)) subD := opd_int0 fun _ _ _ _ => .int _
theorem opd_fdiv : OpD O X (rI CDiv fun i j => .int (i / j)) fdivD := opd_int fun _ _ _ _ => .int _
theorem opd_mod : OpD O X (rI (fun _ j => 0 < j) fun i j => .int (i % j)) modD := opd_int fun _ _ _ _ => .int _
theorem opd_lt : OpD O X (rI0 fun i j => .bl (decide (i < j))) ltD := opd_int0 fun _ _ _ _ => .bl _
theorem opd_le : OpD O X (rI0 fun i j => .bl (decide (i ≤ j))) leD := opd_int0 fun _ _ _ _ => .bl _
theorem opd_ge : OpD O X (rI0 fun i j => .bl (decide (j ≤ i))) geD := opd_int0 fun _ _ _ _ => .bl _
def mulD : D → D → WD D
  | .int i, .int j => fun Q _ => CMul i j ∧ Q (.int (i * j))
  | .tuple xs, .int k => fun Q _ => xs ≠ [] ∧ 2 ≤ k ∧ k ≤ 1000 ∧ xs.length ≤ 1000 ∧ Q (.tuple (List.replicate k.toNat xs).flatten)
  | .list xs, .int k => fun Q _ => 0 ≤ k ∧ k ≤ 1000 ∧ xs.length ≤ 1000 ∧ Q (.list (List.replicate k.toNat xs).flatten)
  | _, _ => fun _ _ => False
theorem dvAll_rep {K : PySem.W.Frag} {H : Hp} {P : Addr → Prop} {vs : List V} {ds : List D} (h : DvAll O K H P vs ds) : ∀ n : Nat, DvAll O K H P (List.replicate n vs).flatten (List.replicate n ds).flatten
  | 0 => .nil
  | n + 1 => by
    rw [List.replicate_succ, List.replicate_succ, List.flatten_cons, List.flatten_cons]
    exact h.append (dvAll_rep h n)
abbrev rMulD (K : PySem.W.Frag) : R2 := fun x y H Q => rI CMul (fun i j => .int (i * j)) x y H Q ∨ rRepF K x y H Q ∨ rRep x y H Q
theorem op_mulD : OpR X (binaryOp .Mult) (rMulD X.K) := OpR.or op_mul (OpR.or op_repF op_rep)
theorem opd_mul : OpD O X (rMulD X.K) mulD := fun P H x y d e Qd Ed Q hd hx hy hg hQ => by
  cases hx with
  | int i =>
    cases hy with
    | int j => exact .inl ⟨i, j, rfl, rfl, hg.1, hQ.here (.int _) hg.2⟩
    | _ => exact hg.elim
  | tup e1 r1 =>
    cases hy with
    | int k =>
      obtain ⟨g1, g2, g3, g4, g5⟩ := hg
      refine .inr (.inl ⟨_, k, _, rfl, rfl, e1.sq, fun z => g1 ?_, g2, g3, by rw [r1.length]; exact g4, hQ.new (dvAll_rep r1 _) g5⟩)
      subst z
      cases r1
      rfl
    | _ => exact hg.elim
  | lst e1 n1 r1 =>
    cases hy with
    | int k =>
      obtain ⟨g1, g2, g3, g4⟩ := hg
      refine .inr (.inr ⟨_, k, _, rfl, rfl, e1, by omega, by omega, ?_, fun p np => hQ.newL hd np (dvAll_rep r1 _) g4⟩)
      rw [r1.length]
      have h1 : k.toNat ≤ 1000 := by omega
      have h2 := Nat.mul_le_mul g3 h1
      exact Nat.le_trans h2 (by decide)
    | _ => exact hg.elim
  | _ => cases hy <;> exact hg.elim
def negD : D → WD D
  | .int i => fun Q _ => Q (.int (-i))
  | _ => fun _ _ => False
def eUn (g : D → WD D) (f : Rho → WD D) : Rho → WD D := fun ρ Q Ed => f ρ (fun d => g d Q Ed) Ed
theorem de_neg {a : Expr} {fa : Rho → WD D} {pos : Pos} (ha : DE O X E a fa) : DE O X E (.UnaryOp .USub a pos) (eUn negD fa) := by
  obtain ⟨ta, a1, a2⟩ := ha
  refine ⟨_, pe_un un_neg a1, fun P ρ σ H Qd Ed Q hd hr hf hQ hE => a2 P ρ σ H _ Ed _ hd hr hf (fun v d H1 s1 h q => ?_) hE⟩
  cases h with
  | int i => exact ⟨i, rfl, hQ _ _ H1 s1 (.int _) q⟩
  | _ => exact q.elim
def eqD (neg : Bool) : D → D → WD D := fun d e Q _ => SeqAt.shaped d = true ∧ SeqAt.shaped e = true ∧ Q (.bool (PyData.eqv d e != neg))
theorem opd_eq : OpD O X (rEqD X.K) (eqD false) := fun P H x y d e Qd Ed Q hd hx hy hg hQ => ⟨d, e, hx.dpS hg.1, hy.dpS hg.2.1, hg.1, hg.2.1, hQ.here (.bl _) (by simpa using hg.2.2)⟩
theorem opd_ne : OpD O X (rNeD X.K) (eqD true) := fun P H x y d e Qd Ed Q hd hx hy hg hQ => ⟨d, e, hx.dpS hg.1, hy.dpS hg.2.1, hg.1, hg.2.1, hQ.here (.bl _) (by simpa using hg.2.2)⟩
def inD (neg : Bool) : D → D → WD D
  | d, .list ds => fun Q _ => SeqAt.shaped d = true ∧ SeqAt.shaped (.list ds) = true ∧ Q (.bool ((ds.any fun z => PyData.eqv z d) != neg))
  | d, .tuple ds => fun Q _ => SeqAt.shaped d = true ∧ SeqAt.shaped (.tuple ds) = true ∧ Q (.bool ((ds.any fun z => PyData.eqv z d) != neg))
  | _, _ => fun _ _ => False
def rInT (K : PySem.W.Frag) (neg : Bool) : R2 := fun x y H Q => ∃ d ds, Dp K H x d ∧ Dp K H y (.tuple ds) ∧ SeqAt.shaped d = true ∧ SeqAt.shaped (.tuple ds) = true ∧ Q (.bl ((ds.any fun z => PyData.eqv z d) != neg)) H
theorem op_inT (hu : X.A.units + 65 < cLine) : OpR X (compareOp .In) (rInT X.K false) := by
  intro pins s σ H x y v u Q I rx ry h
  obtain ⟨d, ds, hd, he, sd, se, q⟩ := h
  obtain ⟨as, r1⟩ := Dp.reads I d x v hd rx
  obtain ⟨bs, r2⟩ := Dp.reads I (.tuple ds) y u he ry
  exact SeqAt.in_tuple_reads r2 r1 (SeqAt.canLay_of_shaped se) (SeqAt.canLay_of_shaped sd) (PyProof.Rows.room_in_shaped sd hu) ⟨.bl _, H, I, rfl, by simpa using q⟩
theorem op_notInT (hu : X.A.units + 65 < cLine) : OpR X (compareOp .NotIn) (rInT X.K true) := by
  intro pins s σ H x y v u Q I rx ry h
  obtain ⟨d, ds, hd, he, sd, se, q⟩ := h
  obtain ⟨as, r1⟩ := Dp.reads I d x v hd rx
  obtain ⟨bs, r2⟩ := Dp.reads I (.tuple ds) y u he ry
  exact SeqAt.notIn_tuple_reads r2 r1 (SeqAt.canLay_of_shaped se) (SeqAt.canLay_of_shaped sd) (PyProof.Rows.room_in_shaped sd hu) ⟨.bl _, H, I, rfl, by simpa using q⟩
theorem op_inA (hu : X.A.units + 65 < cLine) : OpR X (compareOp .In) (fun x y H Q => rInD X.K x y H Q ∨ rInT X.K false x y H Q) := OpR.or (op_inD hu) (op_inT hu)
theorem op_notInA (hu : X.A.units + 65 < cLine) : OpR X (compareOp .NotIn) (fun x y H Q => rNotInD X.K x y H Q ∨ rInT X.K true x y H Q) := OpR.or (op_notInD hu) (op_notInT hu)
theorem opd_in : OpD O X (fun x y H Q => rInD X.K x y H Q ∨ rInT X.K false x y H Q) (inD false) := fun P H x y d e Qd Ed Q hd hx hy hg hQ => by
  cases hy with
  | lst e1 n1 r1 => exact .inl ⟨d, _, hx.dpS hg.1, (Dv.lst e1 n1 r1).dpS hg.2.1, hg.1, hg.2.1, hQ.here (.bl _) (by simpa using hg.2.2)⟩
  | tup e1 r1 => exact .inr ⟨d, _, hx.dpS hg.1, (Dv.tup e1 r1).dpS hg.2.1, hg.1, hg.2.1, hQ.here (.bl _) hg.2.2⟩
  | _ => exact hg.elim
theorem opd_notIn : OpD O X (fun x y H Q => rNotInD X.K x y H Q ∨ rInT X.K true x y H Q) (inD true) := fun P H x y d e Qd Ed Q hd hx hy hg hQ => by
  cases hy with
  | lst e1 n1 r1 => exact .inl ⟨d, _, hx.dpS hg.1, (Dv.lst e1 n1 r1).dpS hg.2.1, hg.1, hg.2.1, hQ.here (.bl _) (by simpa using hg.2.2)⟩
  | tup e1 r1 => exact .inr ⟨d, _, hx.dpS hg.1, (Dv.tup e1 r1).dpS hg.2.1, hg.1, hg.2.1, hQ.here (.bl _) hg.2.2⟩
  | _ => exact hg.elim
def noneD : D → Bool
  | .none => true
  | _ => false
def isND (neg : Bool) : D → D → WD D
  | d, .none => fun Q _ => Q (.bool (noneD d != neg))
  | _, _ => fun _ _ => False
theorem opd_isN : OpD O X (fun x y H Q => y = .non ∧ Q (.bl (decide (x = .non))) H) (isND false) := fun P H x y d e Qd Ed Q hd hx hy hg hQ => by
  cases hy with
  | non =>
    refine ⟨rfl, ?_⟩
    cases hx with
    | obj h =>
      obtain ⟨a, rfl⟩ := O.isRef h
      exact hQ.here (.bl _) hg
    | _ => exact hQ.here (.bl _) hg
  | _ => cases hx <;> exact hg.elim
theorem opd_notN : OpD O X (fun x y H Q => y = .non ∧ Q (.bl (!decide (x = .non))) H) (isND true) := fun P H x y d e Qd Ed Q hd hx hy hg hQ => by
  cases hy with
  | non =>
    refine ⟨rfl, ?_⟩
    cases hx with
    | obj h =>
      obtain ⟨a, rfl⟩ := O.isRef h
      exact hQ.here (.bl _) hg
    | _ => exact hQ.here (.bl _) hg
  | _ => cases hx <;> exact hg.elim
def eChain (g g' : D → D → WD D) (fa fb fc : Rho → WD D) : Rho → WD D := fun ρ Q Ed => fa ρ (fun x => fb ρ (fun y => g x y (isB fun k => if k = true then fc ρ (fun z => g' y z Q Ed) Ed else Q (.bool false)) Ed) Ed) Ed
theorem de_chain {a b c : Expr} {fa fb fc : Rho → WD D} {pos : Pos} {op op' : CmpOp} {r r' : R2} {g g' : D → D → WD D} (ho : OpR X (compareOp op) r) (ho' : OpR X (compareOp op') r') (hg : OpD O X r g) (hg' : OpD O X r' g') (ha : DE O X E a fa) (hb : DE O X E b fb) (hc : DE O X E c fc)
    (hm : lastMarks [op, op'] [b, c] = false := by with_unfolding_all rfl) : DE O X E (.Compare a [op, op'] [b, c] pos) (eChain g g' fa fb fc) := by
  obtain ⟨ta, a1, a2⟩ := ha
  obtain ⟨tb, b1, b2⟩ := hb
  obtain ⟨tc, c1, c2⟩ := hc
  refine ⟨_, pe_chain ho ho' a1 b1 c1 hm, fun P ρ σ H Qd Ed Q hd hr hf hQ hE => a2 P ρ σ H _ Ed _ hd hr hf (fun x d H1 s1 h1 q1 => b2 P ρ σ H1 _ Ed _ (hd.same s1) (hr.same s1) q1 (fun y e H2 s2 h2 q2 =>
    hg P H2 x y d e _ Ed _ ((hd.same s1).same s2) (h1.same s2) h2 q2 fun z k H3 s3 h3 q3 => ?_) (hE.same s1)) hE⟩
  obtain ⟨k, e, q⟩ := bool_of h3 q3
  refine ⟨k, e, ?_⟩
  cases k with
  | true => exact c2 P ρ σ H3 _ Ed _ (((hd.same s1).same s2).same s3) (((hr.same s1).same s2).same s3) q (fun w d' H4 s4 h4 q4 => hg' P H4 y w _ d' _ Ed Q ((((hd.same s1).same s2).same s3).same s4) ((h2.same s3).same s4) h4 q4
      fun v d'' H5 s5 h5 q5 => hQ v d'' H5 ((((s1.trans s2).trans s3).trans s4).trans s5) h5 q5) (((hE.same s1).same s2).same s3)
  | false => exact hQ _ _ H3 ((s1.trans s2).trans s3) (.bl false) q
def aNil : Rho → WD (List D) := fun _ Q _ => Q []
def aCons (f : Rho → WD D) (g : Rho → WD (List D)) : Rho → WD (List D) := fun ρ Q Ed => f ρ (fun d => g ρ (fun ds => Q (d :: ds)) Ed) Ed
theorem da_nil : DA O X E [] aNil := ⟨_, pa_nil, fun P ρ σ H Qd Ed Q hd hr hf hQ hE => hQ _ _ H (Same.refl H) .nil rfl hf⟩
theorem da_cons {e : Expr} {es : List Expr} {f : Rho → WD D} {g : Rho → WD (List D)} (ha : DE O X E e f) (hr : DA O X E es g) (hs : starEach (e :: es) X.env = (false, eval e X.env) :: starEach es X.env := by rfl) : DA O X E (e :: es) (aCons f g) := by
  obtain ⟨ta, a1, a2⟩ := ha
  obtain ⟨tb, b1, b2⟩ := hr
  exact ⟨_, pa_cons a1 b1 hs, fun P ρ σ H Qd Ed Q hd hr hf hQ hE => a2 P ρ σ H _ Ed _ hd hr hf (fun x d H1 s1 h1 q1 => b2 P ρ σ H1 _ Ed _ (hd.same s1) (hr.same s1) q1 (fun xs ds H2 s2 h2 l2 q2 => hQ _ _ H2 (s1.trans s2) (.cons (h1.same s2) h2) (congrArg (· + 1) l2) q2) (hE.same s1)) hE⟩
def eTup (g : Rho → WD (List D)) : Rho → WD D := fun ρ Q Ed => g ρ (fun ds => ds.length ≤ 16777216 ∧ Q (.tuple ds)) Ed
def eLst (g : Rho → WD (List D)) : Rho → WD (List D) := fun ρ Q Ed => g ρ (fun ds => ds.length ≤ 16777216 ∧ Q ds) Ed
theorem de_tup {es : List Expr} {x1} {g : Rho → WD (List D)} {pos : Pos} (h : DA O X E es g) : DE O X E (.Tuple es x1 pos) (eTup g) := by
  obtain ⟨ta, a1, a2⟩ := h
  exact ⟨_, pe_tupF a1, fun P ρ σ H Qd Ed Q hd hr hf hQ hE => a2 P ρ σ H _ Ed _ hd hr hf (fun vs ds H1 s1 h1 _ q1 => ⟨by rw [h1.length]; exact size_eq ▸ q1.1, fun p o np no => hQ _ _ _ (s1.trans (same_new np)) (.tup (.inl ⟨o, no, upd_same⟩) (h1.same (same_new np))) q1.2⟩) hE⟩
theorem df_lst {es : List Expr} {g : Rho → WD (List D)} {pos : Pos} (h : DA O X E es g) : DF O X E (.List es pos) (eLst g) := by
  obtain ⟨ta, a1, a2⟩ := h
  refine ⟨_, pe_lst a1, fun P ρ σ H Qd Ed Q hd hr hf hQ hE => a2 P ρ σ H _ Ed _ hd hr hf (fun vs ds H1 s1 h1 _ q1 => ⟨by rw [h1.length]; exact size_eq ▸ q1.1, fun p np => ?_⟩) hE⟩
  exact hQ p vs ds _ (s1.trans (same_new np)) (s1.free (nn np)) upd_same (h1.fresh (nn np) (same_new np)) q1.2
end
end DL
namespace DL
open PySem PySem.Spec L2
section
variable [Nm] {O : Ob} {X : Cx} {E : XK}
theorem atI_dv {K : PySem.W.Frag} {H : Hp} {P : Addr → Prop} {vs : List V} {ds : List D} {i : Int} {d : D} (h : DvAll O K H P vs ds) (e : atI ds i = some d) : ∃ v, atI vs i = some v ∧ Dv O K H P v d := by
  unfold atI at *
  rw [← h.length] at e
  cases q : ixN vs.length i with
  | none =>
    rw [q] at e
    cases e
  | some j =>
    rw [q] at e
    obtain ⟨v, e1, h1⟩ := h.get (i := j) e
    exact ⟨v, e1, h1⟩
def orStuck {α : Type} (o : Option α) (Q : α → Prop) : Prop := match o with
  | some a => Q a
  | none => False
theorem of_orStuck {α : Type} {o : Option α} {Q : α → Prop} (h : orStuck o Q) : ∃ a, o = some a ∧ Q a := by
  cases o with
  | none => exact h.elim
  | some a => exact ⟨a, rfl, h⟩
def idxD : D → D → WD D
  | .list xs, .int i => fun Q _ => orStuck (atI xs i) Q
  | .tuple xs, .int i => fun Q _ => orStuck (atI xs i) Q
  | .str x, .int i => fun Q _ => x.length ≤ 16777216 ∧ orStuck (atI x.cps.toList i) fun c => Q (.str ⟨#[c]⟩)
  | _, _ => fun _ _ => False
theorem strOk_mem {x : Str} {c : Nat} (h : PyData.strOk x = true) (hc : c ∈ x.cps.toList) : PyData.strOk ⟨#[c]⟩ = true := by
  unfold PyData.strOk at *
  rw [Array.all_eq_true] at h
  rw [Array.mem_toList_iff, Array.mem_iff_getElem] at hc
  obtain ⟨i, hi, e⟩ := hc
  have := h i hi
  rw [e] at this
  simpa using this
theorem atI_mem {α : Type} {xs : List α} {i : Int} {c : α} (e : atI xs i = some c) : c ∈ xs := by
  unfold atI at e
  cases q : ixN xs.length i with
  | none =>
    rw [q] at e
    cases e
  | some j =>
    rw [q] at e
    exact List.mem_of_getElem? e
theorem opd_idx : OpD O X (rIx X.K) idxD := fun P H x y d e Qd Ed Q hd hx hy hg hQ => by
  cases hx with
  | lst e1 n1 r1 =>
    cases hy with
    | int i =>
      obtain ⟨d, e2, q⟩ := of_orStuck hg
      obtain ⟨v, e3, h3⟩ := atI_dv r1 e2
      exact .inl ⟨_, _, i, v, rfl, rfl, .inl (.inl e1), e3, hQ.here h3 q⟩
    | _ => exact hg.elim
  | tup e1 r1 =>
    cases hy with
    | int i =>
      obtain ⟨d, e2, q⟩ := of_orStuck hg
      obtain ⟨v, e3, h3⟩ := atI_dv r1 e2
      exact .inr (.inl ⟨_, _, i, v, rfl, rfl, e1.sq, e3, hQ.here h3 q⟩)
    | _ => exact hg.elim
  | str x hx =>
    cases hy with
    | int i =>
      obtain ⟨c, e2, q⟩ := of_orStuck hg.2
      exact .inr (.inr ⟨x, i, c, rfl, rfl, size_eq ▸ hg.1, e2, hQ.here (.str _ (strOk_mem hx (atI_mem e2))) q⟩)
    | _ => exact hg.elim
  | _ => cases hy <;> exact hg.elim
theorem de_idx {a b : Expr} {fa fb : Rho → WD D} {pos : Pos} (ha : DE O X E a fa) (hb : DE O X E b fb) (hs : PlainIx b) : DE O X E (.Subscript a b pos) (eOp idxD fa fb) := by
  obtain ⟨ta, a1, a2⟩ := ha
  obtain ⟨tb, b1, b2⟩ := hb
  exact ⟨_, pe_ix ix_seq a1 b1 hs, op2 opd_idx a2 b2⟩
def DO (O : Ob) (X : Cx) (E : XK) (e : Option Expr) (f : Rho → WD (Option Int)) : Prop := ∃ t, PO X e t ∧ ∀ (P : Addr → Prop) (ρ : Rho) (σ : L2.St) (H : Hp) (Qd : Option Int → Prop) (Ed : Str → Prop) (Q : Option Int → Hp → Prop),
  Dom H P → Rs O X.K P ρ σ H → f ρ Qd Ed → (∀ o H', Same H H' → Qd o → Q o H') → XOk X E H Ed → t σ H Q
def oNone : Rho → WD (Option Int) := fun _ Q _ => Q none
def oSome (f : Rho → WD D) : Rho → WD (Option Int) := fun ρ Q Ed => f ρ (fun d => match d with
  | .int i => Q (some i)
  | _ => False) Ed
theorem do_none : DO O X E none oNone := ⟨_, po_none, fun P ρ σ H Qd Ed Q hd hr hf hQ hE => hQ _ H (Same.refl H) hf⟩
theorem do_some {a : Expr} {fa : Rho → WD D} (ha : DE O X E a fa) : DO O X E (some a) (oSome fa) := by
  obtain ⟨ta, a1, a2⟩ := ha
  refine ⟨_, po_some a1, fun P ρ σ H Qd Ed Q hd hr hf hQ hE => a2 P ρ σ H _ Ed _ hd hr hf (fun v d H1 s1 h q => ?_) hE⟩
  cases h with
  | int i => exact ⟨i, rfl, hQ _ H1 s1 q⟩
  | _ => exact q.elim
def cutL {α : Type} (xs : List α) (lo hi : Option Int) : List α := (xs.drop (HT.sIx xs.length 0 lo)).take (HT.sIx xs.length xs.length hi - HT.sIx xs.length 0 lo)
theorem cut_dv {K : PySem.W.Frag} {H : Hp} {P : Addr → Prop} {vs : List V} {ds : List D} {lo hi : Option Int} (h : DvAll O K H P vs ds) : DvAll O K H P (cutV vs lo hi) (cutL ds lo hi) := by
  unfold cutV cutL
  rw [h.length]
  exact (h.drop _).take _
def slD (d : D) (lo hi : Option Int) : WD D := match d with
  | .list xs => fun Q _ => Q (.list (cutL xs lo hi))
  | .tuple xs => fun Q _ => Q (.tuple (cutL xs lo hi))
  | _ => fun _ _ => False
def eSl (fa : Rho → WD D) (fl fh : Rho → WD (Option Int)) : Rho → WD D := fun ρ Q Ed => fa ρ (fun d => fl ρ (fun lo => fh ρ (fun hi => slD d lo hi Q Ed) Ed) Ed) Ed
theorem de_slice {a : Expr} {lo hi : Option Expr} {fa : Rho → WD D} {fl fh : Rho → WD (Option Int)} {p2 pos : Pos} (ha : DE O X E a fa) (hl : DO O X E lo fl) (hh : DO O X E hi fh) : DE O X E (.Subscript a (.Slice lo hi none p2) pos) (eSl fa fl fh) := by
  obtain ⟨ta, a1, a2⟩ := ha
  obtain ⟨tl, l1, l2⟩ := hl
  obtain ⟨th, h1, h2⟩ := hh
  refine ⟨_, pe_slice (SlR.or sl_list sl_tupF) a1 l1 h1, fun P ρ σ H Qd Ed Q hd hr hf hQ hE => a2 P ρ σ H _ Ed _ hd hr hf (fun v d H1 s1 k1 q1 => l2 P ρ σ H1 _ Ed _ (hd.same s1) (hr.same s1) q1 (fun lo H2 s2 q2 =>
    h2 P ρ σ H2 _ Ed _ ((hd.same s1).same s2) ((hr.same s1).same s2) q2 (fun hi H3 s3 q3 => ?_) ((hE.same s1).same s2)) (hE.same s1)) hE⟩
  have s13 : Same H H3 := (s1.trans s2).trans s3
  have k3 := (k1.same s2).same s3
  cases k3 with
  | lst e n r => exact .inl ⟨_, _, rfl, .inl (.inl e), fun p np => hQ _ _ _ (s13.trans (same_new np)) (.lst upd_same ((hd.same s13).new (nn np)) ((cut_dv r).same (same_new np))) q3⟩
  | tup e r =>
    refine .inr ⟨_, _, rfl, e.sq, fun z => ?_, fun z p o np no => hQ _ _ _ (s13.trans (same_new np)) (.tup (.inl ⟨o, no, upd_same⟩) ((cut_dv r).same (same_new np))) q3⟩
    rename_i xs ds
    refine hQ _ _ _ s13 (.tup e r) ?_
    have e2 : cutL ds lo hi = ds := by
      unfold cutL
      rw [r.length] at z
      rw [z.1, z.2, List.drop_zero, Nat.sub_zero, List.take_length]
    rw [← e2]
    exact q3
  | _ => exact q3.elim
/-- a call upon values, told by data -/
def CbD (O : Ob) (X : Cx) (r : List V → Hp → VK → Prop) (g : List D → WD D) : Prop := ∀ (P : Addr → Prop) (H : Hp) (xs : List V) (ds : List D) (Qd : D → Prop) (Ed : Str → Prop) (Q : VK), Dom H P → DvAll O X.K H P xs ds → g ds Qd Ed → VOk O X.K P H Qd Q → r xs H Q
def eCb (g : List D → WD D) (fa : Rho → WD (List D)) : Rho → WD D := fun ρ Q Ed => fa ρ (fun ds => g ds Q Ed) Ed
def eCbF (g : List D → WD (List D)) (fa : Rho → WD (List D)) : Rho → WD (List D) := fun ρ Q Ed => fa ρ (fun ds => g ds Q Ed) Ed
variable {e : Expr} {es : List Expr} {fa : Rho → WD (List D)} {pos p : Pos}
theorem de_callB {id : String} {r : List V → Hp → VK → Prop} {g : List D → WD D} {x : Str} (hc : CallR X (.builtin id) r) (hg' : CbD O X r g) (hg : Gl X x) (hm : X.mg x = none) (hv : bootBuiltins x = some (.builtin id)) (ha : DA O X E (e :: es) fa) (hn : x ≠ "__name__" := by decide) (hdb : (x == ("__debug__" : Str)) = false := by decide)
    (he : starEach (e :: es) X.env = (false, eval e X.env) :: starEach es X.env := by rfl) (hpl : (backTo pos (starEach es X.env)).any (·.1) = false := by rfl) : DE O X E (.Call (.Name x p) (e :: es) [] pos) (eCb g fa) := by
  obtain ⟨ta, a1, a2⟩ := ha
  exact ⟨_, pe_callB hc hg hm hv a1 hn hdb he hpl, fun P ρ σ H Qd Ed Q hd hr hf hQ hE => a2 P ρ σ H _ Ed _ hd hr hf (fun vs ds H1 s1 h1 _ q1 => hg' P H1 vs ds Qd Ed Q (hd.same s1) h1 q1 fun v d H2 s2 h2 q2 => hQ v d H2 (s1.trans s2) h2 q2) hE⟩
theorem de_callTy {T : String} {r : List V → Hp → VK → Prop} {g : List D → WD D} {x : Str} (hc : CallR X (.type T) r) (hg' : CbD O X r g) (hg : Gl X x) (hm : X.mg x = none) (hv : bootBuiltins x = some (.type T)) (ha : DA O X E (e :: es) fa) (hn : x ≠ "__name__" := by decide) (hdb : (x == ("__debug__" : Str)) = false := by decide)
    (he : starEach (e :: es) X.env = (false, eval e X.env) :: starEach es X.env := by rfl) (hpl : (backTo pos (starEach es X.env)).any (·.1) = false := by rfl) : DE O X E (.Call (.Name x p) (e :: es) [] pos) (eCb g fa) := by
  obtain ⟨ta, a1, a2⟩ := ha
  exact ⟨_, pe_callTy hc hg hm hv a1 hn hdb he hpl, fun P ρ σ H Qd Ed Q hd hr hf hQ hE => a2 P ρ σ H _ Ed _ hd hr hf (fun vs ds H1 s1 h1 _ q1 => hg' P H1 vs ds Qd Ed Q (hd.same s1) h1 q1 fun v d H2 s2 h2 q2 => hQ v d H2 (s1.trans s2) h2 q2) hE⟩
/-- one argument -/
def one1 (g : D → WD D) : List D → WD D
  | [d] => g d
  | _ => fun _ _ => False
def one1F (g : D → WD (List D)) : List D → WD (List D)
  | [d] => g d
  | _ => fun _ _ => False
def lenD : D → WD D
  | .list xs => fun Q _ => Q (.int xs.length)
  | .tuple xs => fun Q _ => Q (.int xs.length)
  | .str x => fun Q _ => x.length ≤ 16777216 ∧ Q (.int x.length)
  | _ => fun _ _ => False
theorem cbd_len : CbD O X (fun xs H Q => ∃ x n, xs = [x] ∧ LenV X.K x H n ∧ Q (.int n) H) (one1 lenD) := fun P H xs ds Qd Ed Q hd hx hg hQ => by
  cases hx with
  | nil => exact hg.elim
  | cons h r =>
    cases r with
    | cons _ _ => exact hg.elim
    | nil =>
      cases h with
      | lst e n r => exact ⟨_, _, rfl, .inl ⟨_, .inl (.inl e), rfl⟩, hQ.here (.int _) (by rw [r.length]; exact hg)⟩
      | tup e r => exact ⟨_, _, rfl, .inr ⟨_, e.sq, rfl⟩, hQ.here (.int _) (by rw [r.length]; exact hg)⟩
      | str x hx => exact ⟨_, _, rfl, ⟨size_eq ▸ hg.1, rfl⟩, hQ.here (.int _) hg.2⟩
      | _ => exact hg.elim
def tupleD : D → WD D
  | .list xs => fun Q _ => Q (.tuple xs)
  | .tuple xs => fun Q _ => Q (.tuple xs)
  | _ => fun _ _ => False
theorem cbd_tuple : CbD O X (fun xs H Q => ∃ p ys, xs = [.ref p] ∧ ((SqL X.K H p ys ∧ NewT ys H Q) ∨ (SqT X.K H p ys ∧ Q (.ref p) H))) (one1 tupleD) := fun P H xs ds Qd Ed Q hd hx hg hQ => by
  cases hx with
  | nil => exact hg.elim
  | cons h r =>
    cases r with
    | cons _ _ => exact hg.elim
    | nil =>
      cases h with
      | lst e n r => exact ⟨_, _, rfl, .inl ⟨.inl (.inl e), hQ.new r hg⟩⟩
      | tup e r => exact ⟨_, _, rfl, .inr ⟨e.sq, hQ.here (.tup e r) hg⟩⟩
      | _ => exact hg.elim
def listD : D → WD (List D)
  | .list xs => fun Q _ => Q xs
  | .tuple xs => fun Q _ => Q xs
  | _ => fun _ _ => False
/-- all, any of bools -/
def boolsD : List D → Option (List Bool)
  | [] => some []
  | .bool b :: r => (boolsD r).map (b :: ·)
  | _ => none
theorem bools_dv {K : PySem.W.Frag} {H : Hp} {P : Addr → Prop} : ∀ {ds : List D} {vs : List V} {bs : List Bool}, DvAll O K H P vs ds → boolsD ds = some bs → vs = bs.map V.bl
  | [], _, _, .nil, e => by
    cases e
    rfl
  | d :: ds, _, _, .cons h r, e => by
    cases h with
    | bl b =>
      unfold boolsD at e
      cases q : boolsD ds with
      | none =>
        rw [q] at e
        cases e
      | some cs =>
        rw [q] at e
        cases e
        rw [bools_dv r q]
        rfl
    | _ => cases e
def allD : D → WD D
  | .list xs => fun Q _ => orStuck (boolsD xs) fun bs => Q (.bool (bs.all id))
  | _ => fun _ _ => False
theorem cbd_all : CbD O X (rAll X.K) (one1 allD) := fun P H xs ds Qd Ed Q hd hx hg hQ => by
  cases hx with
  | nil => exact hg.elim
  | cons h r =>
    cases r with
    | cons _ _ => exact hg.elim
    | nil =>
      cases h with
      | lst e n r =>
        obtain ⟨bs, e2, q⟩ := of_orStuck hg
        have := bools_dv r e2
        subst this
        exact ⟨_, bs, rfl, .inl (.inl e), hQ.here (.bl _) q⟩
      | _ => exact hg.elim
/-- isinstance(x, T), T a built-in class -/
def tyD : D → Option String
  | .none => some "NoneType"
  | .bool _ => some "bool"
  | .int _ => some "int"
  | .str _ => some "str"
  | .list _ => some "list"
  | .tuple _ => some "tuple"
  | .dict _ => none
theorem sqT_ty {K : PySem.W.Frag} {H : Hp} {a : Addr} {xs : List V} (h : SqT K H a xs) : TyX K H (.ref a) (.type "tuple") := by
  rcases h with (h | ⟨o, h⟩) | ⟨o, its, n, h1, h2, _⟩
  · exact .base (.tup h)
  · exact .fTuple h
  · exact .kTuple h1 h2
theorem tyD_ok {K : PySem.W.Frag} {H : Hp} {P : Addr → Prop} {v : V} {d : D} {T : String} (h : Dv O K H P v d) (e : tyD d = some T) : TyX K H v (.type T) := by
  cases h with
  | non => cases e; exact .base .non
  | bl b => cases e; exact .base (.bl b)
  | int i => cases e; exact .base (.int i)
  | str x _ => cases e; exact .base (.str x)
  | lst h _ _ => cases e; exact .base (.lst h)
  | tup h _ => cases e; exact sqT_ty h.sq
  | dct _ _ _ _ => cases e
  | dcz _ _ _ => cases e
  | nd => cases e
  | ndz => cases e
  | obj _ => cases e
def isiD (T : String) (d : D) : WD D := fun Q _ => orStuck ((tyD d).bind fun t => kitB t T) fun b => Q (.bool b)
def eUn1 (g : D → WD D) (fa : Rho → WD D) : Rho → WD D := fun ρ Q Ed => fa ρ (fun d => g d Q Ed) Ed
theorem de_isi {x T : Str} {n : String} {e : Expr} {fa : Rho → WD D} {p1 p2 pos : Pos} (ha : DE O X E e fa) (hg : Gl X "isinstance") (hm : X.mg "isinstance" = none) (hg2 : Gl X T) (hm2 : X.mg T = none) (hv2 : bootBuiltins T = some (.type n)) (hn2 : T ≠ "__name__" := by decide) (hd2 : (T == ("__debug__" : Str)) = false := by decide)
    (hv : bootBuiltins "isinstance" = some (.builtin "isinstance") := by decide +kernel)
    (hs : starEach [e, .Name T p2] X.env = (false, eval e X.env) :: starEach [.Name T p2] X.env := by rfl) (hs2 : starEach [.Name T p2] X.env = (false, eval (.Name T p2) X.env) :: starEach [] X.env := by rfl)
    (hpl : (backTo pos (starEach [.Name T p2] X.env)).any (·.1) = false := by rfl) :
    DE O X E (.Call (.Name "isinstance" p1) [e, .Name T p2] [] pos) (eUn1 (isiD n) fa) := by
  obtain ⟨ta, a1, a2⟩ := ha
  have hT : PE X (.Name T p2) (tC (.ty n)) := pe_bltn hg2 hm2 hv2 rfl hn2 hd2
  refine ⟨_, pe_callB call_isi hg hm hv (pa_cons a1 (pa_cons hT pa_nil hs2) hs) (by decide) (by decide) hs hpl, fun P ρ σ H Qd Ed Q hd hr hf hQ hE => a2 P ρ σ H _ Ed _ hd hr hf (fun v d H1 s1 h1 q1 => ?_) hE⟩
  obtain ⟨b, e1, q⟩ := of_orStuck q1
  cases q2 : tyD d with
  | none =>
    rw [q2] at e1
    cases e1
  | some t =>
    rw [q2] at e1
    exact ⟨v, .ty n, .type t, .type n, b, rfl, .ty n, tyD_ok h1 q2, kit_ty e1, hQ _ _ H1 s1 (.bl _) q⟩
/-- the promise of a def, told by data -/
def spD (O : Ob) (K : PySem.W.Frag) (mg : Str → Option Value) (F : List D → WD D) (n : Nat) : Sp := fun vs H Q E' => ∃ (P : Addr → Prop) (ds : List D) (Qd : D → Prop) (Ed : Str → Prop), Dom H P ∧ DvAll O K H P vs ds ∧ ds.length = n ∧ F ds Qd Ed ∧ VOk O K P H Qd Q ∧
  ∀ c a H', Same H H' → mg c = some (.ref a) → Ed c → E' (.ref a) none H'
theorem de_call {CX : CXT} {k : Nat} {f : Addr} {fd : FuncData} {ps : List Str} {F : List D → WD D} {n : Nat} {x : Str} (G : FnOk X.prog X.w X.K X.mg X.base CX k f fd ps (spD O X.K X.mg F n)) (hr : Room k X.A) (hg : Gl X x) (hm : X.mg x = some (.ref f)) (hk : PySem.W.keepIn X.K (.ref f) = true) (hb : Binds X.K fd ps [])
    (hx : Passes CX X E) (ha : DA O X E (e :: es) fa) (hl : n = (e :: es).length := by rfl) (hdb : (x == ("__debug__" : Str)) = false := by decide) (he : starEach (e :: es) X.env = (false, eval e X.env) :: starEach es X.env := by rfl) (hpl : (backTo pos (starEach es X.env)).any (·.1) = false := by rfl) :
    DE O X E (.Call (.Name x p) (e :: es) [] pos) (eCb F fa) := by
  obtain ⟨ta, a1, a2⟩ := ha
  refine ⟨_, pe_call G hr hg hm hk hb (.nil : Vals [] []) hx a1 hdb he hpl, fun P ρ σ H Qd Ed Q hd hr hf hQ hE => a2 P ρ σ H _ Ed _ hd hr hf (fun vs ds H1 s1 h1 l1 q1 => ?_) hE⟩
  show spD O X.K X.mg F n (vs ++ []) H1 Q E
  rw [List.append_nil]
  exact ⟨P, ds, Qd, Ed, hd.same s1, h1, l1.trans hl.symm, q1, fun v d H2 s2 h2 q2 => hQ v d H2 (s1.trans s2) h2 q2, fun c a H2 s2 m z => hE c a H2 (s1.trans s2) m z⟩
end
end DL
namespace DL
open PySem PySem.Spec L2
inductive Tg where
  | name (i : Nat)
  | tup (ts : List Tg)
mutual
def bindT : Tg → D → Option (List (Nat × D))
  | .name i, d => some [(i, d)]
  | .tup ts, .tuple ds => bindAll ts ds
  | _, _ => none
def bindAll : List Tg → List D → Option (List (Nat × D))
  | [], [] => some []
  | t :: ts, d :: ds => match bindT t d, bindAll ts ds with
    | some a, some b => some (a ++ b)
    | _, _ => none
  | _, _ => none
end
def setAll {α : Type} (l : List (Option α)) : List (Nat × α) → List (Option α)
  | [] => l
  | (i, a) :: r => setAll (l.set i (some a)) r
theorem setAll_append {α : Type} : ∀ (a b : List (Nat × α)) (l : List (Option α)), setAll l (a ++ b) = setAll (setAll l a) b
  | [], _, _ => rfl
  | (i, x) :: r, b, l => setAll_append r b (l.set i (some x))
theorem setAll_length {α : Type} : ∀ (a : List (Nat × α)) (l : List (Option α)), (setAll l a).length = l.length
  | [], _ => rfl
  | (i, x) :: r, l => by
    show (setAll (l.set i (some x)) r).length = l.length
    rw [setAll_length r, List.length_set]
/-- the same slots, values for data -/
inductive Bnd [Nm] (O : Ob) (K : PySem.W.Frag) (H : Hp) (P : Addr → Prop) : List (Nat × V) → List (Nat × D) → Prop
  | nil : Bnd O K H P [] []
  | cons {i : Nat} {v : V} {d : D} {a : List (Nat × V)} {b : List (Nat × D)} : Dv O K H P v d → Bnd O K H P a b → Bnd O K H P ((i, v) :: a) ((i, d) :: b)
section
variable [Nm] {O : Ob} {X : Cx} {E : XK}
theorem Bnd.append {K : PySem.W.Frag} {H : Hp} {P : Addr → Prop} : ∀ {a a' : List (Nat × V)} {b b' : List (Nat × D)}, Bnd O K H P a b → Bnd O K H P a' b' → Bnd O K H P (a ++ a') (b ++ b')
  | _, _, _, _, .nil, h => h
  | _, _, _, _, .cons h r, k => .cons h (r.append k)
theorem Bnd.keys {K : PySem.W.Frag} {H : Hp} {P : Addr → Prop} : ∀ {a : List (Nat × V)} {b : List (Nat × D)}, Bnd O K H P a b → a.map (·.1) = b.map (·.1)
  | _, _, .nil => rfl
  | _, _, .cons _ r => by rw [List.map_cons, List.map_cons, r.keys]
theorem Rs.set {K : PySem.W.Frag} {P : Addr → Prop} {ρ : Rho} {σ : L2.St} {H : Hp} {i : Nat} {v : V} {d : D} (h : Rs O K P ρ σ H) (hv : Dv O K H P v d) : Rs O K P (ρ.set i (some d)) (σ.set i (some v)) H := ⟨by rw [List.length_set, List.length_set, h.len], fun j d' e => by
  have hl := h.len
  by_cases hj : i = j
  · subst hj
    have hlt : i < ρ.length := by
      have := (List.getElem?_eq_some_iff.mp e).1
      rw [List.length_set] at this
      exact this
    rw [List.getElem?_set_self hlt] at e
    cases e
    exact ⟨v, by rw [List.getElem?_set_self (by omega)], hv⟩
  · rw [List.getElem?_set_ne hj] at e
    obtain ⟨w, e1, h1⟩ := h.get j d' e
    exact ⟨w, by rw [List.getElem?_set_ne hj]; exact e1, h1⟩⟩
theorem Rs.many {K : PySem.W.Frag} {P : Addr → Prop} {H : Hp} : ∀ {a : List (Nat × V)} {b : List (Nat × D)} {ρ : Rho} {σ : L2.St}, Bnd O K H P a b → Rs O K P ρ σ H → Rs O K P (setAll ρ b) (setAll σ a) H
  | _, _, _, _, .nil, h => h
  | (i, v) :: a, (_, d) :: b, ρ, σ, .cons hv r, h => by
    have := Rs.many (ρ := ρ.set i (some d)) (σ := σ.set i (some v)) r (h.set hv)
    exact this
/-- a target -/
def DG (O : Ob) (X : Cx) (tg : Expr) (T : Tg) : Prop := ∃ g, PG X tg g ∧ ∀ (P : Addr → Prop) (σ : L2.St) (H : Hp) (v : V) (d : D) (l : List (Nat × D)) (Q : L2.St → Hp → Prop), Dv O X.K H P v d → bindT T d = some l → (∀ a, Bnd O X.K H P a l → Q (setAll σ a) H) → g v σ H Q
def DGs (O : Ob) (X : Cx) (ts : List Expr) (T : List Tg) : Prop := ts.length = T.length ∧ ∃ g, PGs X ts g ∧ ∀ (P : Addr → Prop) (σ : L2.St) (H : Hp) (vs : List V) (ds : List D) (l : List (Nat × D)) (Q : L2.St → Hp → Prop), DvAll O X.K H P vs ds → bindAll T ds = some l → (∀ a, Bnd O X.K H P a l → Q (setAll σ a) H) → g vs σ H Q
theorem dg_name (i : Nat) {x : Str} {pos : Pos} (hN : X.N.Nodup) (hi : X.N[i]? = some x := by rfl) (hx : Loc X.env.scope x := by first | exact Or.inl rfl | exact Or.inr rfl) (hf : X.fn x = true ∨ X.env.scope.names.lookup x = some .local := by first | exact .inl rfl | exact .inr rfl | assumption) : DG O X (.Name x pos) (.name i) :=
  ⟨_, pg_name hN hi hx hf, fun P σ H v d l Q hv e hQ => by
    cases e
    exact hQ [(i, v)] (.cons hv .nil)⟩
theorem dgs_nil : DGs O X [] [] := ⟨rfl, _, pgs_nil, fun P σ H vs ds l Q hv e hQ => by
  cases hv with
  | nil =>
    cases e
    exact ⟨rfl, hQ [] .nil⟩
  | cons _ _ => cases e⟩
theorem dgs_cons {e : Expr} {es : List Expr} {t : Tg} {ts : List Tg} (h1 : DG O X e t) (h2 : DGs O X es ts) (hs : (assignEach (e :: es) X.env).map (·.2) = assign e X.env :: (assignEach es X.env).map (·.2) := by rfl) : DGs O X (e :: es) (t :: ts) := by
  obtain ⟨g, a1, a2⟩ := h1
  obtain ⟨hl, g', b1, b2⟩ := h2
  refine ⟨congrArg (· + 1) hl, _, pgs_cons a1 b1 hs, fun P σ H vs ds l Q hv e hQ => ?_⟩
  cases hv with
  | nil => cases e
  | cons hv r =>
    rename_i v vs d ds
    unfold bindAll at e
    cases q1 : bindT t d with
    | none =>
      rw [q1] at e
      cases e
    | some la =>
      cases q2 : bindAll ts ds with
      | none =>
        rw [q1, q2] at e
        cases e
      | some lb =>
        rw [q1, q2] at e
        cases e
        refine ⟨v, vs, rfl, a2 P σ H v d la _ hv q1 fun a ha => b2 P _ H vs ds lb _ r q2 fun b hb => ?_⟩
        rw [← setAll_append]
        exact hQ _ (ha.append hb)
theorem bindAll_len : ∀ {ts : List Tg} {ds : List D} {l : List (Nat × D)}, bindAll ts ds = some l → ts.length = ds.length
  | [], [], _, _ => rfl
  | [], _ :: _, _, e => by simp [bindAll] at e
  | _ :: _, [], _, e => by simp [bindAll] at e
  | t :: ts, d :: ds, l, e => by
    unfold bindAll at e
    cases q1 : bindT t d with
    | none =>
      rw [q1] at e
      cases e
    | some la =>
      cases q2 : bindAll ts ds with
      | none =>
        rw [q1, q2] at e
        cases e
      | some lb => exact congrArg (· + 1) (bindAll_len q2)
theorem dg_tup {es : List Expr} {k : Nat} {ts : List Tg} {pos : Pos} (hc : X.calm = true) (h : DGs O X es ts) (hn : (assignEach es X.env).length = es.length := by rfl) (hst : (assignEach es X.env).findIdx? (·.1) = none := by rfl) : DG O X (.Tuple es k pos) (.tup ts) := by
  obtain ⟨hl, g, a1, a2⟩ := h
  refine ⟨_, pg_tup hc a1 hn hst, fun P σ H v d l Q hv e hQ => ?_⟩
  cases hv with
  | tup e1 r =>
    rename_i xs ds
    have e' : bindAll ts ds = some l := by simpa [bindT] using e
    exact ⟨_, _, rfl, e1.sq, by rw [r.length, ← bindAll_len e', hl], a2 P σ H _ _ l Q r e' hQ⟩
  | _ => simp [bindT, dictE, dictZ] at e
theorem DG.pg {tg : Expr} {T : Tg} (h : DG O X tg T) : PG X tg (fun v σ H Q => ∃ (P : Addr → Prop) (d : D) (l : List (Nat × D)), Dv O X.K H P v d ∧ bindT T d = some l ∧ ∀ a, Bnd O X.K H P a l → Q (setAll σ a) H) := by
  obtain ⟨g, h1, h2⟩ := h
  exact ⟨fun pins s σ H v u Q I r ⟨P, d, l, a, b, c⟩ => h1.run pins s σ H v u Q I r (h2 P σ H v d l Q a b c)⟩
/-- what stands outside P stands -/
structure Kf (P : Addr → Prop) (H H' : Hp) : Prop where
  all : ∀ a o, H a = some o → ¬ P a → ¬ Sf o → H' a = some o
  mem : MemK H H'
theorem Kf.refl {P : Addr → Prop} (H : Hp) : Kf P H H := ⟨fun _ _ e _ _ => e, .refl H⟩
theorem Kf.of {P : Addr → Prop} {H H' : Hp} (s : Same H H') : Kf P H H' := ⟨fun a o e _ n => s.all a o e n, s.mem⟩
theorem Kf.trans {P : Addr → Prop} {H H1 H2 : Hp} (a : Kf P H H1) (b : Kf P H1 H2) : Kf P H H2 := ⟨fun x o e n z => b.all x o (a.all x o e n z) n z, a.mem.trans b.mem⟩
theorem out_of {H : Hp} {P P' : Addr → Prop} (hp : ∀ a, P' a → P a ∨ Nn H a) {a : Addr} {o : HO} (e : H a = some o) (s : ¬ Sf o) (n : ¬ P a) : ¬ P' a := fun z => by
  rcases hp a z with z | z
  · exact n z
  · exact s (z o e)
theorem Nl.kf {H H' : Hp} {P P' : Addr → Prop} (hp : ∀ a, P' a → P a ∨ Nn H a) (k : Kf P' H H') (np : Dom H P) : Nl H H' := ⟨fun a o e m s => k.all a o e (out_of hp e s fun z => m (np.mb e z)) s, k.mem⟩
theorem Dv.kf {K : PySem.W.Frag} {H H' : Hp} {P P' : Addr → Prop} {v : V} {d : D} (h : Dv O K H P v d) (hp : ∀ a, P' a → P a ∨ Nn H a) (k : Kf P' H H') (np : Dom H P) : Dv O K H' P' v d :=
  h.keep (.kf hp k np) (fun a o e m n => k.all a o e (out_of hp e (no_mb m) n) (no_mb m)) fun a o e m n => out_of hp e m n
theorem DvAll.kf {K : PySem.W.Frag} {H H' : Hp} {P P' : Addr → Prop} {v : List V} {d : List D} (h : DvAll O K H P v d) (hp : ∀ a, P' a → P a ∨ Nn H a) (k : Kf P' H H') (np : Dom H P) : DvAll O K H' P' v d :=
  h.keep (.kf hp k np) (fun a o e m n => k.all a o e (out_of hp e (no_mb m) n) (no_mb m)) fun a o e m n => out_of hp e m n
theorem Rs.kf {K : PySem.W.Frag} {H H' : Hp} {P P' : Addr → Prop} {ρ : Rho} {σ : L2.St} (h : Rs O K P ρ σ H) (hp : ∀ a, P' a → P a ∨ Nn H a) (k : Kf P' H H') (np : Dom H P) : Rs O K P' ρ σ H' := ⟨h.len, fun i d e =>
  let ⟨v, e1, h1⟩ := h.get i d e
  ⟨v, e1, h1.kf hp k np⟩⟩
structure Drv (O : Ob) (K : PySem.W.Frag) (P : Addr → Prop) (J : It) (xs : List D) (H : Hp) : Prop where
  go : ∀ i, i < xs.length → J.go i H
  yld : ∀ i x H' d, J.yld i H x H' → xs[i]? = some d → Same H H' ∧ Dv O K H' P x d
  stop : ∀ i, xs.length ≤ i → J.stop i H
/-- .. whatever else comes -/
def DrvA (O : Ob) (K : PySem.W.Frag) (P : Addr → Prop) (J : It) (xs : List D) (H : Hp) : Prop := ∀ (P' : Addr → Prop) H', (∀ a, P a → P' a) → (∀ a, P' a → P a ∨ Nn H a) → Kf P' H H' → Drv O K P' J xs H'
def DI (O : Ob) (X : Cx) (E : XK) (tg iter : Expr) (f : Rho → WD (List D)) : Prop := ∃ wi, PI X tg iter wi ∧ ∀ (P : Addr → Prop) (ρ : Rho) (σ : L2.St) (H : Hp) (Qd : List D → Prop) (Ed : Str → Prop) (R : It → Hp → Prop),
  Dom H P → Rs O X.K P ρ σ H → f ρ Qd Ed → (∀ J xs H', Same H H' → DrvA O X.K P J xs H' → Qd xs → R J H') → XOk X E H Ed → wi σ H R
/-- a list or a tuple -/
def iSeq (K : PySem.W.Frag) (tl : TE) : TI := fun σ H R => tl σ H fun x H1 => ∃ a, x = .ref a ∧ (((∃ xs, SqL K H1 a xs) ∧ R (Itl K a) H1) ∨ ((∃ xs, SqT K H1 a xs) ∧ R (Itt K a) H1))
theorem pi_seq {tg l : Expr} {tl : TE} (hl : PE X l tl) : PI X tg l (iSeq X.K tl) := by
  refine ⟨fun pins s σ H R I h => ?_⟩
  refine thn (hl.run pins s σ H _ I h) fun v s1 ⟨x, H1, I1, r1, q1⟩ => ?_
  obtain ⟨a, e, q1⟩ := q1
  subst e
  cases r1
  rcases q1 with ⟨⟨xs, hq⟩, q⟩ | ⟨⟨xs, hq⟩, q⟩
  · obtain ⟨its, rv, p, hz⟩ := I1.list hq
    refine wpAny_pyIter_list p.isList ?_
    refine ⟨s1.heap.objs.size, [s1.heap.objs.size], _, _, H1, rfl, I1.kept (t' := s1.toks) fun b o e => Heap.get?_push_of_some _ e, turn_list a _, ⟨_, Heap.get?_push_size _ rfl, rfl, rfl⟩, fun b hb => ?_, q⟩
    have e : b = s1.heap.objs.size := by simpa using hb
    subst e
    exact I1.fpOk (Nat.le_refl _) (I1.hok.fresh (Nat.le_refl _))
  · obtain ⟨its, rv, p, hz⟩ := I1.tuple hq
    refine wpAny_pyIter_tuple (show s1.heap.IsTuple a its.toArray from p) ?_
    refine ⟨s1.heap.objs.size, [s1.heap.objs.size], _, _, H1, rfl, I1.kept (t' := s1.toks) fun b o e => Heap.get?_push_of_some _ e, turn_tuple a _, ⟨_, Heap.get?_push_size _ rfl, rfl, rfl⟩, fun b hb => ?_, q⟩
    have e : b = s1.heap.objs.size := by simpa using hb
    subst e
    exact I1.fpOk (Nat.le_refl _) (I1.hok.fresh (Nat.le_refl _))
def itemsD : D → WD (List D)
  | .list xs => fun Q _ => Q xs
  | .tuple xs => fun Q _ => Q xs
  | _ => fun _ _ => False
def sItems (f : Rho → WD D) : Rho → WD (List D) := fun ρ Q Ed => f ρ (fun d => itemsD d Q Ed) Ed
theorem get_lt {α : Type} {l : List α} {i : Nat} (h : i < l.length) : ∃ x, l[i]? = some x := ⟨l[i], List.getElem?_eq_getElem h⟩
theorem di_seq {tg a : Expr} {fa : Rho → WD D} (ha : DE O X E a fa) : DI O X E tg a (sItems fa) := by
  obtain ⟨ta, a1, a2⟩ := ha
  refine ⟨_, pi_seq a1, fun P ρ σ H Qd Ed R hd hr hf hQ hE => a2 P ρ σ H _ Ed _ hd hr hf (fun v d H1 s1 h q => ?_) hE⟩
  have hm1 := hd.same s1
  cases h with
  | lst e n r =>
    refine ⟨_, rfl, .inl ⟨⟨_, .inl (.inl e)⟩, hQ _ _ H1 s1 (fun P2 H2 pp hp k2 => ?_) q⟩⟩
    rename_i xs ds
    have e2 := k2.all _ _ e (out_of hp e no_lst n) no_lst
    have sq : SqL X.K H2 _ xs := .inl (.inl e2)
    refine ⟨fun i hi => ?_, fun i x H' d y e3 => ?_, fun i hi => ⟨xs, sq, by rw [r.length]; exact hi⟩⟩
    · obtain ⟨x, ex⟩ := get_lt (show i < xs.length by rw [r.length]; exact hi)
      exact ⟨xs, x, sq, ex⟩
    · obtain ⟨rfl, y⟩ := y
      obtain ⟨v, ev, hv⟩ := r.get e3
      have := y xs sq
      rw [ev] at this
      cases this
      exact ⟨Same.refl _, hv.kf hp k2 hm1⟩
  | tup e r =>
    refine ⟨_, rfl, .inr ⟨⟨_, e.sq⟩, hQ _ _ H1 s1 (fun P2 H2 pp hp k2 => ?_) q⟩⟩
    rename_i xs ds
    have n2 : Nl H1 H2 := .kf hp k2 hm1
    have sq : SqT X.K H2 _ xs := (n2.tup e).sq
    refine ⟨fun i hi => ?_, fun i x H' d y e3 => ?_, fun i hi => ⟨xs, sq, by rw [r.length]; exact hi⟩⟩
    · obtain ⟨x, ex⟩ := get_lt (show i < xs.length by rw [r.length]; exact hi)
      exact ⟨xs, x, sq, ex⟩
    · obtain ⟨rfl, y⟩ := y
      obtain ⟨v, ev, hv⟩ := r.get e3
      have := y xs sq
      rw [ev] at this
      cases this
      exact ⟨Same.refl _, hv.kf hp k2 hm1⟩
  | _ => exact q.elim
def upTo (lo : Int) (n : Nat) : List D := (List.range n).map fun i => .int (lo + (i : Nat))
theorem upTo_len (lo : Int) (n : Nat) : (upTo lo n).length = n := by simp [upTo]
theorem upTo_get {lo : Int} {n i : Nat} {d : D} (e : (upTo lo n)[i]? = some d) : d = .int (lo + (i : Nat)) := by
  unfold upTo at e
  rw [List.getElem?_map] at e
  cases q : (List.range n)[i]? with
  | none =>
    rw [q] at e
    cases e
  | some j =>
    rw [q] at e
    cases e
    rw [List.getElem?_eq_some_iff] at q
    obtain ⟨h1, h2⟩ := q
    rw [List.getElem_range] at h2
    rw [h2]
theorem drv_rng {K : PySem.W.Frag} {P : Addr → Prop} {H : Hp} (lo : Int) (n : Nat) : DrvA O K P (Itr lo n) (upTo lo n) H := fun P2 H2 _ _ _ =>
  ⟨fun i hi => by rw [upTo_len] at hi; exact hi, fun i x H' d y e => by
    obtain ⟨rfl, rfl⟩ := y
    rw [upTo_get e]
    exact ⟨Same.refl _, .int _⟩, fun i hi => by rw [upTo_len] at hi; exact hi⟩
def rng1 : List D → WD (List D)
  | [.int n] => fun Q _ => n < 2 ^ 62 ∧ -(2 ^ 62) ≤ n ∧ Q (upTo 0 n.toNat)
  | _ => fun _ _ => False
theorem di_range1 {tg a : Expr} {fa : Rho → WD (List D)} {p pos : Pos} (hg : Gl X "range") (hm : X.mg "range" = none) (ha : DA O X E [a] fa) (hs : starEach [a] X.env = [(false, eval a X.env)] := by rfl) : DI O X E tg (.Call (.Name "range" p) [a] [] pos) (eCbF rng1 fa) := by
  obtain ⟨ta, a1, a2⟩ := ha
  refine ⟨_, pi_range1 hg hm a1 hs, fun P ρ σ H Qd Ed R hd hr hf hQ hE => a2 P ρ σ H _ Ed _ hd hr hf (fun vs ds H1 s1 h _ q => ?_) hE⟩
  cases h with
  | nil => exact q.elim
  | cons h r =>
    cases r with
    | cons _ _ => cases h <;> exact q.elim
    | nil =>
      cases h with
      | int n => exact ⟨n, rfl, q.2.1, q.1, hQ _ _ H1 s1 (drv_rng 0 _) q.2.2⟩
      | _ => exact q.elim
def wipeR (ρ : Rho) : List Nat → Rho
  | [] => ρ
  | v :: vs => (wipeR ρ vs).set v none
theorem wipe_get (σ : L2.St) (j : Nat) : ∀ vs : List Nat, (wipe σ vs)[j]? = if j ∈ vs ∧ j < σ.length then some none else σ[j]?
  | [] => by simp [wipe]
  | v :: vs => by
    unfold wipe
    by_cases hv : v = j
    · subst hv
      by_cases hl : v < σ.length
      · rw [List.getElem?_set_self (by rw [wipe_length]; exact hl), if_pos ⟨List.mem_cons_self, hl⟩]
      · rw [List.getElem?_eq_none (by rw [List.length_set, wipe_length]; omega), if_neg (fun z => hl z.2), List.getElem?_eq_none (by omega)]
    · rw [List.getElem?_set_ne hv, wipe_get σ j vs]
      have : (j ∈ v :: vs ∧ j < σ.length) ↔ (j ∈ vs ∧ j < σ.length) := by
        constructor
        · rintro ⟨h1, h2⟩
          rcases List.mem_cons.mp h1 with h1 | h1
          · exact absurd h1.symm hv
          · exact ⟨h1, h2⟩
        · rintro ⟨h1, h2⟩
          exact ⟨List.mem_cons_of_mem _ h1, h2⟩
      simp only [this]
theorem setAll_ne {α : Type} {j : Nat} : ∀ {a : List (Nat × α)} {l : List (Option α)}, j ∉ a.map (·.1) → (setAll l a)[j]? = l[j]?
  | [], _, _ => rfl
  | (i, x) :: r, l, h => by
    rw [List.map_cons, List.mem_cons, not_or] at h
    show (setAll (l.set i (some x)) r)[j]? = l[j]?
    rw [setAll_ne h.2, List.getElem?_set_ne (fun e => h.1 e.symm)]
theorem wipe_setAll {σ : L2.St} {vs : List Nat} {a : List (Nat × V)} (h : ∀ i ∈ a.map (·.1), i ∈ vs) : wipe (setAll (wipe σ vs) a) vs = wipe σ vs := by
  apply List.ext_getElem?
  intro j
  rw [wipe_get, setAll_length, wipe_length]
  by_cases hj : j ∈ vs ∧ j < σ.length
  · rw [if_pos hj, wipe_get, if_pos hj]
  · rw [if_neg hj]
    by_cases hm : j ∈ a.map (·.1)
    · have hv := h j hm
      have hl : σ.length ≤ j := by
        rcases Nat.lt_or_ge j σ.length with z | z
        · exact absurd ⟨hv, z⟩ hj
        · exact z
      rw [List.getElem?_eq_none (by rw [setAll_length, wipe_length]; exact hl), List.getElem?_eq_none (by rw [wipe_length]; exact hl)]
    · rw [setAll_ne hm]
theorem wipeR_get (ρ : Rho) (j : Nat) (d : D) : ∀ vs : List Nat, (wipeR ρ vs)[j]? = some (some d) → ρ[j]? = some (some d) ∧ j ∉ vs
  | [], h => ⟨h, by simp⟩
  | v :: vs, h => by
    unfold wipeR at h
    by_cases hv : v = j
    · subst hv
      by_cases hl : v < (wipeR ρ vs).length
      · rw [List.getElem?_set_self hl] at h
        cases h
      · rw [List.getElem?_eq_none (by rw [List.length_set]; omega)] at h
        cases h
    · rw [List.getElem?_set_ne hv] at h
      obtain ⟨h1, h2⟩ := wipeR_get ρ j d vs h
      refine ⟨h1, fun z => ?_⟩
      rcases List.mem_cons.mp z with z | z
      · exact hv z.symm
      · exact h2 z
theorem wipeR_length (ρ : Rho) : ∀ vs : List Nat, (wipeR ρ vs).length = ρ.length
  | [] => rfl
  | v :: vs => by
    unfold wipeR
    rw [List.length_set, wipeR_length ρ vs]
theorem Rs.wipe {K : PySem.W.Frag} {P : Addr → Prop} {ρ : Rho} {σ : L2.St} {H : Hp} (h : Rs O K P ρ σ H) (vs : List Nat) : Rs O K P (wipeR ρ vs) (L2.wipe σ vs) H := ⟨by rw [wipe_length, wipeR_length, h.len], fun j d e => by
  obtain ⟨e1, n⟩ := wipeR_get ρ j d vs e
  obtain ⟨v, e2, h2⟩ := h.get j d e1
  refine ⟨v, ?_, h2⟩
  rw [wipe_get, if_neg (fun z => n z.1)]
  exact e2⟩
/-- the walk: item by item, the new list so far -/
def lcLoop (step : D → (Option D → Prop) → Prop) : List D → List D → (List D → Prop) → Prop
  | [], acc, Q => Q acc
  | x :: xs, acc, Q => step x fun o => lcLoop step xs (match o with | some y => acc ++ [y] | none => acc) Q
def lcStep (T : Tg) (vs : List Nat) (ft : Rho → WD Bool) (fe : Rho → WD D) (ρ : Rho) : D → (Option D → Prop) → Prop := fun x k => orStuck (bindT T x) fun l => ft (setAll (wipeR ρ vs) l) (fun b => if b = true then fe (setAll (wipeR ρ vs) l) (fun y => k (some y)) (fun _ => False) else k none) (fun _ => False)
def eLc (fi : Rho → WD (List D)) (T : Tg) (vs : List Nat) (ft : Rho → WD Bool) (fe : Rho → WD D) : Rho → WD (List D) := fun ρ Q Ed => fi ρ (fun xs => xs.length ≤ 1000000 ∧ lcLoop (lcStep T vs ft fe ρ) xs [] Q) Ed
def DTs (O : Ob) (X : Cx) (E : XK) (ifs : List Expr) (f : Rho → WD Bool) : Prop := ∃ t, PTs X ifs t ∧ ∀ (P : Addr → Prop) (ρ : Rho) (σ : L2.St) (H : Hp) (Qd : Bool → Prop) (Ed : Str → Prop) (Q : Bool → Hp → Prop),
  Dom H P → Rs O X.K P ρ σ H → f ρ Qd Ed → (∀ b H', Same H H' → Qd b → Q b H') → XOk X E H Ed → t σ H Q
theorem DTs.pts {ifs : List Expr} {f : Rho → WD Bool} (h : DTs O X E ifs f) : PTs X ifs (tT O X.K X.mg E f) := by
  obtain ⟨t, h1, h2⟩ := h
  exact ⟨fun pins s σ H Q I ⟨P, ρ, Qd, Ed, a, b, c, d, e⟩ => h1.run pins s σ H Q I (h2 P ρ σ H Qd Ed Q a b c d e)⟩
def tYesD : Rho → WD Bool := fun _ Q _ => Q true
theorem dts_nil : DTs O X E [] tYesD := ⟨_, pts_nil, fun P ρ σ H Qd Ed Q hd hr hf hQ hE => hQ _ H (Same.refl H) hf⟩
theorem dts_one {c : Expr} {f : Rho → WD Bool} (h : DT O X E c f) : DTs O X E [c] f := let ⟨t, h1, h2⟩ := h; ⟨t, pts_one h1, h2⟩
mutual
def Tg.slots : Tg → List Nat
  | .name i => [i]
  | .tup ts => slotsAll ts
def slotsAll : List Tg → List Nat
  | [] => []
  | t :: ts => t.slots ++ slotsAll ts
end
mutual
theorem bindT_slots : ∀ {T : Tg} {d : D} {l : List (Nat × D)}, bindT T d = some l → l.map (·.1) = T.slots
  | .name i, d, l, e => by
    cases e
    simp [Tg.slots]
  | .tup ts, .tuple ds, l, e => by
    have e' : bindAll ts ds = some l := by simpa [bindT] using e
    rw [bindAll_slots e']
    simp [Tg.slots]
  | .tup ts, .none, l, e => by simp [bindT] at e
  | .tup ts, .bool _, l, e => by simp [bindT] at e
  | .tup ts, .int _, l, e => by simp [bindT] at e
  | .tup ts, .str _, l, e => by simp [bindT] at e
  | .tup ts, .list _, l, e => by simp [bindT] at e
  | .tup ts, .dict _, l, e => by simp [bindT] at e
theorem bindAll_slots : ∀ {ts : List Tg} {ds : List D} {l : List (Nat × D)}, bindAll ts ds = some l → l.map (·.1) = slotsAll ts
  | [], [], _, e => by
    simp [bindAll] at e
    subst e
    rfl
  | [], _ :: _, _, e => by simp [bindAll] at e
  | _ :: _, [], _, e => by simp [bindAll] at e
  | t :: ts, d :: ds, l, e => by
    unfold bindAll at e
    cases q1 : bindT t d with
    | none =>
      rw [q1] at e
      cases e
    | some la =>
      cases q2 : bindAll ts ds with
      | none =>
        rw [q1, q2] at e
        cases e
      | some lb =>
        rw [q1, q2] at e
        cases e
        rw [List.map_append, bindT_slots q1, bindAll_slots q2]
        simp [slotsAll]
end
theorem lcLoop_drop {step : D → (Option D → Prop) → Prop} {xs : List D} {i : Nat} {x : D} {acc : List D} {Q : List D → Prop} (e : xs[i]? = some x) (h : lcLoop step (xs.drop i) acc Q) : step x fun o => lcLoop step (xs.drop (i + 1)) (match o with | some y => acc ++ [y] | none => acc) Q := by
  obtain ⟨hi, e⟩ := List.getElem?_eq_some_iff.mp e
  rw [List.drop_eq_getElem_cons hi, e] at h
  exact h
/-- a comprehension: as a value, and given to a name -/
def DLc (O : Ob) (X : Cx) (E : XK) (elt : Expr) (gs : List Comprehension) (scope : Scope) (f : Rho → WD (List D)) : Prop := ∃ t, (∀ pos, PE X (.ListComp elt gs scope pos) t) ∧
  (∀ (i : Nat) (y : Str) (py pos spos : Pos), X.N[i]? = some y → X.env.scope.names.lookup y = some .local → swapsWith (.ListComp elt gs scope pos) (some (.Name y py)) spos.line X.env = pure true → PS X (.Assign [.Name y py] (.ListComp elt gs scope pos) spos) (tAsg t (gName i))) ∧
  ∀ (P : Addr → Prop) (ρ : Rho) (σ : L2.St) (H : Hp) (Qd : List D → Prop) (Ed : Str → Prop) (Q : VK), Dom H P → Rs O X.K P ρ σ H → f ρ Qd Ed → (∀ p vs ds H', Same H H' → Nn H p → H' p = some (.lst vs) → DvAll O X.K H' (fun a => P a ∨ a = p) vs ds → Qd ds → Q (.ref p) H') → XOk X E H Ed → t σ H Q
theorem DLc.df {elt : Expr} {gs : List Comprehension} {scope : Scope} {f : Rho → WD (List D)} {pos : Pos} (h : DLc O X E elt gs scope f) : DF O X E (.ListComp elt gs scope pos) f := let ⟨t, h1, _, h3⟩ := h; ⟨t, h1 pos, h3⟩
theorem lc1 {elt tg iter : Expr} {ifs : List Expr} {scope : Scope} {own : List (Str × Nat)} {fi : Rho → WD (List D)} {T : Tg} {ft : Rho → WD Bool} {fe : Rho → WD D} (hc : X.calm = true) (hN : X.N.Nodup) (hi : DI O X E tg iter fi) (ok : BlkOk X.N X.env.scope scope own)
    (hg : ∀ (s : Shared) (H : Hp) (C : Addr) (cl : List (Str × Addr)) (fp : List Addr), DG O (X.blk s H scope (compEnvC scope cl C X.env) fp) tg T) (ht : ∀ (s : Shared) (H : Hp) (C : Addr) (cl : List (Str × Addr)) (fp : List Addr), DTs O (X.blk s H scope (compEnvC scope cl C X.env) fp) E0 ifs ft)
    (he : ∀ (s : Shared) (H : Hp) (C : Addr) (cl : List (Str × Addr)) (fp : List Addr), DE O (X.blk s H scope (compEnvC scope cl C X.env) fp) E0 elt fe) (hT : ∀ i ∈ T.slots, i ∈ own.map (·.2)) (hs : ∀ x, foldedSetIterable iter X.env x = pure x := by intro _; rfl) :
    DLc O X E elt [⟨tg, iter, ifs, 0⟩] scope (eLc fi T (own.map (·.2)) ft fe) := by
  obtain ⟨wi, i1, i2⟩ := hi
  refine ⟨_, fun pos => pe_lc (g := fun v σ H Q => ∃ (P : Addr → Prop) (d : D) (l : List (Nat × D)), Dv O X.K H P v d ∧ bindT T d = some l ∧ ∀ a, Bnd O X.K H P a l → Q (setAll σ a) H) (tt := tT O X.K X.mg E0 ft) (te := tE O X.K X.mg E0 fe) hc hN i1 ok (fun s H C cl fp => (hg s H C cl fp).pg) (fun s H C cl fp => (ht s H C cl fp).pts) (fun s H C cl fp => (he s H C cl fp).pe) hs, fun i y py pos spos hy hl hsw => ps_setLc (g := fun v σ H Q => ∃ (P : Addr → Prop) (d : D) (l : List (Nat × D)), Dv O X.K H P v d ∧ bindT T d = some l ∧ ∀ a, Bnd O X.K H P a l → Q (setAll σ a) H) (tt := tT O X.K X.mg E0 ft) (te := tE O X.K X.mg E0 fe) hc hN hy hl hsw i1 ok (fun s H C cl fp => (hg s H C cl fp).pg) (fun s H C cl fp => (ht s H C cl fp).pts) (fun s H C cl fp => (he s H C cl fp).pe) hs, fun P ρ σ H Qd Ed Q hd hr hf hQ hE => i2 P ρ σ H _ Ed _ hd hr hf (fun J xs H1 s1 dv q Dl hD => ?_) hE⟩
  obtain ⟨hlen, q⟩ := q
  refine ⟨fun i m H2 => m = xs.length - i ∧ i ≤ xs.length ∧ Same H1 H2 ∧ ∃ vs acc, H2 Dl = some (.lst vs) ∧ DvAll O X.K H2 (fun a => P a ∨ a = Dl) vs acc ∧ acc.length ≤ i ∧ lcLoop (lcStep T (own.map (·.2)) ft fe ρ) (xs.drop i) acc Qd,
    ⟨xs.length, by simp, Nat.zero_le _, same_new hD, [], [], upd_same, .nil, Nat.le_refl _, q⟩, ?_⟩
  rintro i m H2 ⟨rfl, hi, s2, vs, acc, eD, hv, hacc, lp⟩
  have hd1 := hd.same s1
  have pp : ∀ a, P a → P a ∨ a = Dl := fun a z => .inl z
  have hp : ∀ a, (P a ∨ a = Dl) → P a ∨ Nn H1 a := fun a z => z.imp id fun e => by rw [e]; exact nn hD
  have hd2 : Dom H2 (fun a => P a ∨ a = Dl) := ⟨fun a z => by
    rcases z with z | z
    · exact (hd1.same s2).has a z
    · exact ⟨_, by rw [z]; exact eD, .inl ⟨_, rfl⟩⟩, (hd1.same s2).tab⟩
  have dr := dv _ H2 pp hp (.of s2)
  by_cases hlt : i < xs.length
  · refine .inr ⟨dr.go i hlt, fun H' => Same H1 H' ∧ ∃ vs acc, H' Dl = some (.lst vs) ∧ DvAll O X.K H' (fun a => P a ∨ a = Dl) vs acc ∧ acc.length ≤ i + 1 ∧ lcLoop (lcStep T (own.map (·.2)) ft fe ρ) (xs.drop (i + 1)) acc Qd,
      fun H' ⟨a, b⟩ => ⟨xs.length - (i + 1), by omega, rfl, hlt, a, b⟩, fun x H3 y => ?_⟩
    obtain ⟨d, ed⟩ := get_lt hlt
    obtain ⟨s3, hx⟩ := dr.yld i x H3 d y ed
    have st := lcLoop_drop ed lp
    obtain ⟨l, el, st⟩ := of_orStuck st
    refine ⟨fun a => P a ∨ a = Dl, d, l, hx, el, fun a ha => ⟨wipe_setAll fun j hj => ?_, ?_⟩⟩
    · rw [ha.keys, bindT_slots el] at hj
      exact hT j hj
    have hd3 := hd2.same s3
    have rs3 : Rs O X.K (fun a => P a ∨ a = Dl) (setAll (wipeR ρ (own.map (·.2))) l) (setAll (wipe σ (own.map (·.2))) a) H3 := by
      exact Rs.many ha (Rs.wipe (((hr.same s1).kf hp (.of s2) hd1).same s3) _)
    refine ⟨fun a => P a ∨ a = Dl, _, _, _, hd3, rs3, st, fun b H4 s4 q4 => ?_, fun _ _ _ _ _ z => z.elim⟩
    have s24 := s3.trans s4
    have hd4 := hd3.same s4
    have hv4 := hv.same s24
    have eD4 := s24.all _ _ eD no_lst
    cases b with
    | true =>
      refine ⟨fun a => P a ∨ a = Dl, _, _, _, hd4, rs3.same s4, q4, fun y dy H5 s5 h5 q5 => ?_, fun _ _ _ _ _ z => z.elim⟩
      have eD5 := s5.all _ _ eD4 no_lst
      refine ⟨vs, eD5, ?_, ?_, vs ++ [y], acc ++ [dy], upd_same, ?_, ?_, q5⟩
      · rw [hv.length]
        exact Nat.lt_of_le_of_lt (Nat.le_trans hacc (Nat.le_of_lt (Nat.lt_of_lt_of_le hlt hlen))) (by decide)
      · exact ((s2.trans s24).trans s5).upd (nn hD) eD5 mb_lst
      · refine DvAll.keep (.upd eD5 mb_lst) (fun a o e m n => ?_) (fun a o e _ n => n) ((hv4.same s5).append (.cons h5 .nil))
        · have : a ≠ Dl := fun z => n (.inr z)
          rw [upd_ne this]
          exact e
      · rw [List.length_append]
        exact Nat.add_le_add hacc (Nat.le_refl 1)
    | false => exact ⟨s2.trans s24, vs, acc, eD4, hv4, Nat.le_succ_of_le hacc, q4⟩
  · have e : i = xs.length := by omega
    subst e
    rw [List.drop_length] at lp
    exact .inl ⟨dr.stop _ (Nat.le_refl _), hQ Dl vs acc H2 (s1.trans s2) (s1.free (nn hD)) eD hv lp⟩
def lcIn (T1 : Tg) (vs1 : List Nat) (ft1 : Rho → WD Bool) (fe : Rho → WD D) (ρ : Rho) : List D → List D → (List D → Prop) → Prop := lcLoop (lcStep T1 vs1 ft1 fe ρ)
def lcLoop2 (T : Tg) (vs : List Nat) (ft : Rho → WD Bool) (fi1 : Rho → WD (List D)) (T1 : Tg) (vs1 : List Nat) (ft1 : Rho → WD Bool) (fe : Rho → WD D) (ρ : Rho) : List D → List D → (List D → Prop) → Prop
  | [], acc, Q => Q acc
  | x :: xs, acc, Q => orStuck (bindT T x) fun l => ft (setAll (wipeR ρ vs) l) (fun b => if b = true then fi1 (setAll (wipeR ρ vs) l) (fun ys => acc.length + ys.length ≤ 1000000 ∧ lcIn T1 vs1 ft1 fe (setAll (wipeR ρ vs) l) ys acc fun acc' => lcLoop2 T vs ft fi1 T1 vs1 ft1 fe ρ xs acc' Q) (fun _ => False)
      else lcLoop2 T vs ft fi1 T1 vs1 ft1 fe ρ xs acc Q) (fun _ => False)
def eLc2 (fi : Rho → WD (List D)) (T : Tg) (vs : List Nat) (ft : Rho → WD Bool) (fi1 : Rho → WD (List D)) (T1 : Tg) (vs1 : List Nat) (ft1 : Rho → WD Bool) (fe : Rho → WD D) : Rho → WD (List D) := fun ρ Q Ed => fi ρ (fun xs => lcLoop2 T vs ft fi1 T1 vs1 ft1 fe ρ xs [] Q) Ed
theorem DI.pi {tg iter : Expr} {f : Rho → WD (List D)} (h : DI O X E tg iter f) : PI X tg iter (fun σ H R => ∃ (P : Addr → Prop) (ρ : Rho) (Qd : List D → Prop) (Ed : Str → Prop), Dom H P ∧ Rs O X.K P ρ σ H ∧ f ρ Qd Ed ∧ (∀ J xs H', Same H H' → DrvA O X.K P J xs H' → Qd xs → R J H') ∧ ∀ c a H', Same H H' → X.mg c = some (.ref a) → Ed c → E (.ref a) none H') := by
  obtain ⟨wi, h1, h2⟩ := h
  exact ⟨fun pins s σ H R I ⟨P, ρ, Qd, Ed, a, b, c, d, e⟩ => h1.run pins s σ H R I (h2 P ρ σ H Qd Ed R a b c d e)⟩
theorem lcLoop2_drop {T : Tg} {vs : List Nat} {ft : Rho → WD Bool} {fi1 : Rho → WD (List D)} {T1 : Tg} {vs1 : List Nat} {ft1 : Rho → WD Bool} {fe : Rho → WD D} {ρ : Rho} {xs : List D} {i : Nat} {x : D} {acc : List D} {Q : List D → Prop} (e : xs[i]? = some x)
    (h : lcLoop2 T vs ft fi1 T1 vs1 ft1 fe ρ (xs.drop i) acc Q) : orStuck (bindT T x) fun l => ft (setAll (wipeR ρ vs) l) (fun b => if b = true then fi1 (setAll (wipeR ρ vs) l) (fun ys => acc.length + ys.length ≤ 1000000 ∧ lcIn T1 vs1 ft1 fe (setAll (wipeR ρ vs) l) ys acc fun acc' => lcLoop2 T vs ft fi1 T1 vs1 ft1 fe ρ (xs.drop (i + 1)) acc' Q) (fun _ => False)
      else lcLoop2 T vs ft fi1 T1 vs1 ft1 fe ρ (xs.drop (i + 1)) acc Q) (fun _ => False) := by
  obtain ⟨hi, e⟩ := List.getElem?_eq_some_iff.mp e
  rw [List.drop_eq_getElem_cons hi, e] at h
  exact h
abbrev gT (O : Ob) (K : PySem.W.Frag) (T : Tg) : TG := fun v σ H Q => ∃ (P : Addr → Prop) (d : D) (l : List (Nat × D)), Dv O K H P v d ∧ bindT T d = some l ∧ ∀ a, Bnd O K H P a l → Q (setAll σ a) H
abbrev iT (O : Ob) (K : PySem.W.Frag) (mg : Str → Option Value) (f : Rho → WD (List D)) : TI := fun σ H R => ∃ (P : Addr → Prop) (ρ : Rho) (Qd : List D → Prop) (Ed : Str → Prop), Dom H P ∧ Rs O K P ρ σ H ∧ f ρ Qd Ed ∧ (∀ J xs H', Same H H' → DrvA O K P J xs H' → Qd xs → R J H') ∧ ∀ c a H', Same H H' → mg c = some (.ref a) → Ed c → E0 (.ref a) none H'
theorem lc2 {elt tg iter tg1 iter1 : Expr} {ifs ifs1 : List Expr} {scope : Scope} {own : List (Str × Nat)} {vs1 : List Nat} {fi fi1 : Rho → WD (List D)} {T T1 : Tg} {ft ft1 : Rho → WD Bool} {fe : Rho → WD D} (hc : X.calm = true) (hN : X.N.Nodup) (hi : DI O X E tg iter fi) (ok : BlkOk X.N X.env.scope scope own) (hv : ∀ i ∈ vs1, i ∈ own.map (·.2))
    (hg : ∀ (s : Shared) (H : Hp) (C : Addr) (cl : List (Str × Addr)) (fp : List Addr), DG O (X.blk s H scope (compEnvC scope cl C X.env) fp) tg T) (ht : ∀ (s : Shared) (H : Hp) (C : Addr) (cl : List (Str × Addr)) (fp : List Addr), DTs O (X.blk s H scope (compEnvC scope cl C X.env) fp) E0 ifs ft)
    (hi1 : ∀ (s : Shared) (H : Hp) (C : Addr) (cl : List (Str × Addr)) (fp : List Addr), DI O (X.blk s H scope (compEnvC scope cl C X.env) fp) E0 tg1 iter1 fi1)
    (hg1 : ∀ (s : Shared) (H : Hp) (C : Addr) (cl : List (Str × Addr)) (fp : List Addr), DG O (X.blk s H scope (compEnvC scope cl C X.env) fp) tg1 T1) (ht1 : ∀ (s : Shared) (H : Hp) (C : Addr) (cl : List (Str × Addr)) (fp : List Addr), DTs O (X.blk s H scope (compEnvC scope cl C X.env) fp) E0 ifs1 ft1)
    (he : ∀ (s : Shared) (H : Hp) (C : Addr) (cl : List (Str × Addr)) (fp : List Addr), DE O (X.blk s H scope (compEnvC scope cl C X.env) fp) E0 elt fe) (hT : ∀ i ∈ T.slots, i ∈ own.map (·.2)) (hT1 : ∀ i ∈ T1.slots, i ∈ vs1)
    (hs : ∀ x, foldedSetIterable iter X.env x = pure x := by intro _; rfl) (hs1 : ∀ env x, foldedSetIterable iter1 env x = pure x := by intro _ _; rfl) :
    DLc O X E elt [⟨tg, iter, ifs, 0⟩, ⟨tg1, iter1, ifs1, 0⟩] scope (eLc2 fi T (own.map (·.2)) ft fi1 T1 vs1 ft1 fe) := by
  obtain ⟨wi, i1, i2⟩ := hi
  refine ⟨_, fun pos => pe_lc2 (vs1 := vs1) (g := gT O X.K T) (tt := tT O X.K X.mg E0 ft) (wi1 := iT O X.K X.mg fi1) (g1 := gT O X.K T1) (tt1 := tT O X.K X.mg E0 ft1) (te := tE O X.K X.mg E0 fe) hc hN i1 ok hv (fun s H C cl fp => (hg s H C cl fp).pg) (fun s H C cl fp => (ht s H C cl fp).pts) (fun s H C cl fp => (hi1 s H C cl fp).pi) (fun s H C cl fp => (hg1 s H C cl fp).pg) (fun s H C cl fp => (ht1 s H C cl fp).pts) (fun s H C cl fp => (he s H C cl fp).pe) hs hs1,
    fun i y py pos spos hy hl hsw => ps_setLc2 (vs1 := vs1) (g := gT O X.K T) (tt := tT O X.K X.mg E0 ft) (wi1 := iT O X.K X.mg fi1) (g1 := gT O X.K T1) (tt1 := tT O X.K X.mg E0 ft1) (te := tE O X.K X.mg E0 fe) hc hN hy hl hsw i1 ok hv (fun s H C cl fp => (hg s H C cl fp).pg) (fun s H C cl fp => (ht s H C cl fp).pts) (fun s H C cl fp => (hi1 s H C cl fp).pi) (fun s H C cl fp => (hg1 s H C cl fp).pg) (fun s H C cl fp => (ht1 s H C cl fp).pts) (fun s H C cl fp => (he s H C cl fp).pe) hs hs1,
    fun P ρ σ H Qd Ed Q hd hr hf hQ hE => i2 P ρ σ H _ Ed _ hd hr hf (fun J xs H1 s1 dv q Dl hD => ?_) hE⟩
  refine ⟨fun i m H2 => m = xs.length - i ∧ i ≤ xs.length ∧ Same H1 H2 ∧ ∃ vs acc, H2 Dl = some (.lst vs) ∧ DvAll O X.K H2 (fun a => P a ∨ a = Dl) vs acc ∧ lcLoop2 T (own.map (·.2)) ft fi1 T1 vs1 ft1 fe ρ (xs.drop i) acc Qd,
    ⟨xs.length, by simp, Nat.zero_le _, same_new hD, [], [], upd_same, .nil, q⟩, ?_⟩
  rintro i m H2 ⟨rfl, hi, s2, vs, acc, eD, hv2, lp⟩
  have hd1 := hd.same s1
  have pp : ∀ a, P a → P a ∨ a = Dl := fun a z => .inl z
  have hp : ∀ a, (P a ∨ a = Dl) → P a ∨ Nn H1 a := fun a z => z.imp id fun e => by rw [e]; exact nn hD
  have hd2 : Dom H2 (fun a => P a ∨ a = Dl) := ⟨fun a z => by
    rcases z with z | z
    · exact (hd1.same s2).has a z
    · exact ⟨_, by rw [z]; exact eD, .inl ⟨_, rfl⟩⟩, (hd1.same s2).tab⟩
  have dr := dv _ H2 pp hp (.of s2)
  by_cases hlt : i < xs.length
  · refine .inr ⟨dr.go i hlt, fun H' => Same H1 H' ∧ ∃ vs acc, H' Dl = some (.lst vs) ∧ DvAll O X.K H' (fun a => P a ∨ a = Dl) vs acc ∧ lcLoop2 T (own.map (·.2)) ft fi1 T1 vs1 ft1 fe ρ (xs.drop (i + 1)) acc Qd,
      fun H' ⟨a, b⟩ => ⟨xs.length - (i + 1), by omega, rfl, hlt, a, b⟩, fun x H3 y => ?_⟩
    obtain ⟨d, ed⟩ := get_lt hlt
    obtain ⟨s3, hx⟩ := dr.yld i x H3 d y ed
    have st := lcLoop2_drop ed lp
    obtain ⟨l, el, st⟩ := of_orStuck st
    refine ⟨fun a => P a ∨ a = Dl, d, l, hx, el, fun a ha => ⟨wipe_setAll fun j hj => ?_, ?_⟩⟩
    · rw [ha.keys, bindT_slots el] at hj
      exact hT j hj
    have hd3 := hd2.same s3
    have rs3 : Rs O X.K (fun a => P a ∨ a = Dl) (setAll (wipeR ρ (own.map (·.2))) l) (setAll (wipe σ (own.map (·.2))) a) H3 := Rs.many ha (Rs.wipe (((hr.same s1).kf hp (.of s2) hd1).same s3) _)
    refine ⟨fun a => P a ∨ a = Dl, _, _, _, hd3, rs3, st, fun b H4 s4 q4 => ?_, fun _ _ _ _ _ z => z.elim⟩
    have s24 := s3.trans s4
    have hd4 := hd3.same s4
    cases b with
    | false => exact ⟨s2.trans s24, vs, acc, s24.all _ _ eD no_lst, hv2.same s24, q4⟩
    | true =>
      refine ⟨fun a => P a ∨ a = Dl, _, _, _, hd4, rs3.same s4, q4, fun J1 ys H5 s5 dv1 q5 => ?_, fun _ _ _ _ _ z => z.elim⟩
      have s25 := s24.trans s5
      have hd5 := hd4.same s5
      have rs5 := (rs3.same s4).same s5
      refine ⟨fun j k H6 => k = ys.length - j ∧ j ≤ ys.length ∧ Same H1 H6 ∧ Kf (fun a => P a ∨ a = Dl) H5 H6 ∧ ∃ vs' acc', H6 Dl = some (.lst vs') ∧ DvAll O X.K H6 (fun a => P a ∨ a = Dl) vs' acc' ∧ acc'.length ≤ acc.length + j ∧
          lcIn T1 vs1 ft1 fe (setAll (wipeR ρ (own.map (·.2))) l) (ys.drop j) acc' (fun acc' => lcLoop2 T (own.map (·.2)) ft fi1 T1 vs1 ft1 fe ρ (xs.drop (i + 1)) acc' Qd),
        ⟨ys.length, by simp, Nat.zero_le _, s2.trans s25, .refl H5, vs, acc, s25.all _ _ eD no_lst, hv2.same s25, Nat.le_refl _, q5.2⟩, ?_⟩
      rintro j k H6 ⟨rfl, hj, s6, k6, vs', acc', eD6, hv6, ha6, lp6⟩
      have dr6 := dv1 _ H6 (fun a z => z) (fun a z => .inl z) k6
      have hd6 : Dom H6 (fun a => P a ∨ a = Dl) := ⟨fun a z => by
        rcases z with z | z
        · exact (hd1.same s6).has a z
        · exact ⟨_, by rw [z]; exact eD6, .inl ⟨_, rfl⟩⟩, (hd1.same s6).tab⟩
      have rs6 := rs5.kf (P' := fun a => P a ∨ a = Dl) (fun a z => .inl z) k6 hd5
      by_cases hlj : j < ys.length
      · refine .inr ⟨dr6.go j hlj, fun H' => Same H1 H' ∧ Kf (fun a => P a ∨ a = Dl) H5 H' ∧ ∃ vs' acc', H' Dl = some (.lst vs') ∧ DvAll O X.K H' (fun a => P a ∨ a = Dl) vs' acc' ∧ acc'.length ≤ acc.length + (j + 1) ∧
            lcIn T1 vs1 ft1 fe (setAll (wipeR ρ (own.map (·.2))) l) (ys.drop (j + 1)) acc' (fun acc' => lcLoop2 T (own.map (·.2)) ft fi1 T1 vs1 ft1 fe ρ (xs.drop (i + 1)) acc' Qd),
          fun H' ⟨a, b⟩ => ⟨ys.length - (j + 1), by omega, rfl, hlj, a, b⟩, fun x1 H7 y1 => ?_⟩
        obtain ⟨d1, ed1⟩ := get_lt hlj
        obtain ⟨s7, hx1⟩ := dr6.yld j x1 H7 d1 y1 ed1
        have st1 := lcLoop_drop ed1 lp6
        obtain ⟨l1, el1, st1⟩ := of_orStuck st1
        refine ⟨fun a => P a ∨ a = Dl, d1, l1, hx1, el1, fun a1 ha1 => ⟨wipe_setAll fun j hj => ?_, ?_⟩⟩
        · rw [ha1.keys, bindT_slots el1] at hj
          exact hT1 j hj
        have hd7 := hd6.same s7
        have rs7 : Rs O X.K (fun a => P a ∨ a = Dl) (setAll (wipeR (setAll (wipeR ρ (own.map (·.2))) l) vs1) l1) (setAll (wipe (setAll (wipe σ (own.map (·.2))) a) vs1) a1) H7 := Rs.many ha1 (Rs.wipe (rs6.same s7) _)
        refine ⟨fun a => P a ∨ a = Dl, _, _, _, hd7, rs7, st1, fun b H8 s8 q8 => ?_, fun _ _ _ _ _ z => z.elim⟩
        have s68 := s7.trans s8
        have hd8 := hd7.same s8
        cases b with
        | false => exact ⟨s6.trans s68, k6.trans (.of s68), vs', acc', s68.all _ _ eD6 no_lst, hv6.same s68, by omega, q8⟩
        | true =>
          refine ⟨fun a => P a ∨ a = Dl, _, _, _, hd8, rs7.same s8, q8, fun y9 dy H9 s9 h9 q9 => ?_, fun _ _ _ _ _ z => z.elim⟩
          have s69 := s68.trans s9
          have eD9 := s69.all _ _ eD6 no_lst
          refine ⟨vs', eD9, ?_, ?_, ?_, vs' ++ [y9], acc' ++ [dy], upd_same, ?_, ?_, q9⟩
          · rw [hv6.length]
            have := q5.1
            exact Nat.lt_of_le_of_lt (show acc'.length ≤ 1000000 by omega) (by decide)
          · exact (s6.trans s69).upd (nn hD) eD9 mb_lst
          · refine ⟨fun a o e n z => ?_, (k6.mem.trans s69.mem).trans (.upd eD9 mb_lst)⟩
            have : a ≠ Dl := fun z => n (.inr z)
            rw [upd_ne this]
            exact s69.all _ _ (k6.all a o e n z) z
          · refine DvAll.keep (.upd eD9 mb_lst) (fun a o e m n => ?_) (fun a o e _ n => n) ((hv6.same s69).append (.cons h9 .nil))
            · have : a ≠ Dl := fun z => n (.inr z)
              rw [upd_ne this]
              exact e
          · rw [List.length_append]
            show acc'.length + 1 ≤ _
            omega
      · have e : j = ys.length := by omega
        subst e
        rw [List.drop_length] at lp6
        exact .inl ⟨dr6.stop _ (Nat.le_refl _), s6, vs', acc', eD6, hv6, lp6⟩
  · have e : i = xs.length := by omega
    subst e
    rw [List.drop_length] at lp
    exact .inl ⟨dr.stop _ (Nat.le_refl _), hQ Dl vs acc H2 (s1.trans s2) (s1.free (nn hD)) eD hv2 lp⟩
end
end DL
namespace DL
open PySem PySem.Spec L2
/-- what one's own holds: a list, a dict -/
inductive OwnC where
  | lst (xs : List D)
  | dct (ds : List (Key × D))
  | ndc (ds : List (D × D))
inductive Ent where
  | val (d : D)
  | own (c : OwnC)
def dataOf : OwnC → D
  | .lst xs => .list xs
  | .dct ds => dictE ds
  | .ndc ds => ndE ds
def OwnOk [Nm] (O : Ob) (K : PySem.W.Frag) (H : Hp) (P : Addr → Prop) (p : Addr) : OwnC → Prop
  | .lst xs => ∃ vs, H p = some (.lst vs) ∧ DvAll O K H P vs xs
  | .dct ds => ∃ kvs, H p = some (.dK kvs) ∧ kvs.map (·.1) = ds.map (·.1) ∧ DvAll O K H P (kvs.map (·.2)) (ds.map (·.2))
  | .ndc ds => ∃ (o : Obj) (L : List (D × Addr × Value)) (vs : List V), H p = some (ObE p o) ∧ (p == sysModules) = false ∧ NdOk O.wd o L ∧ L.map (·.1) = ds.map (·.1) ∧ DvAll O K H P (L.map fun x => V.ref x.2.1) (ds.map (·.1)) ∧ Vals vs (L.map (·.2.2)) ∧ DvAll O K H P vs (ds.map (·.2))
section
variable [Nm] {O : Ob} {K : PySem.W.Frag} {H H' : Hp} {P P' : Addr → Prop} {p : Addr} {c : OwnC}
theorem OwnOk.to (h : OwnOk O K H P p c) (f : ∀ {vs : List V} {ds : List D}, DvAll O K H P vs ds → DvAll O K H' P' vs ds) (e : ∀ o, H p = some o → Mb o → H' p = some o) : OwnOk O K H' P' p c := by
  cases c with
  | lst xs =>
    obtain ⟨vs, h1, h2⟩ := h
    exact ⟨vs, e _ h1 (.inl ⟨_, rfl⟩), f h2⟩
  | dct ds =>
    obtain ⟨kvs, h1, h2, h3⟩ := h
    exact ⟨kvs, e _ h1 mb_dk, h2, f h3⟩
  | ndc ds =>
    obtain ⟨o, L, vs, h1, h2, h3, h4, h5, h6, h7⟩ := h
    exact ⟨o, L, vs, e _ h1 h3.mb, h2, h3, h4, f h5, h6, f h7⟩
theorem OwnOk.same (h : OwnOk O K H P p c) (s : Same H H') : OwnOk O K H' P p c := h.to (fun r => r.same s) fun o e m => s.all _ _ e (no_mb m)
theorem OwnOk.less (h : OwnOk O K H P p c) (q : ∀ a, P' a → P a) : OwnOk O K H P' p c := h.to (fun r => r.less q) fun o e _ => e
theorem OwnOk.mb (h : OwnOk O K H P p c) : ∃ o, H p = some o ∧ Mb o := by
  cases c with
  | lst xs => exact ⟨_, h.choose_spec.1, .inl ⟨_, rfl⟩⟩
  | dct ds => exact ⟨_, h.choose_spec.1, mb_dk⟩
  | ndc ds =>
    obtain ⟨o, L, vs, h1, h2, h3, _⟩ := h
    exact ⟨_, h1, h3.mb⟩
theorem OwnOk.dv (h : OwnOk O K H P p c) (n : ¬ P p) : Dv O K H P (.ref p) (dataOf c) := by
  cases c with
  | lst xs =>
    obtain ⟨vs, h1, h2⟩ := h
    exact .lst h1 n h2
  | dct ds =>
    obtain ⟨kvs, h1, h2, h3⟩ := h
    exact .dct h1 n h2 h3
  | ndc ds =>
    obtain ⟨o, L, vs, h1, h2, h3, h4, h5, h6, h7⟩ := h
    exact .nd h1 n h2 h3 h4 h5 h6 h7
end
abbrev Env := List (Option Ent)
def cleanE : Option Ent → Option D
  | some (.val d) => some d
  | _ => none
def fullE : Option Ent → Option D
  | some (.val d) => some d
  | some (.own c) => some (dataOf c)
  | none => none
def clean (Γ : Env) : Rho := Γ.map cleanE
def full (Γ : Env) : Rho := Γ.map fullE
def Pw (P : Addr → Prop) (own : Nat → Option Addr) : Addr → Prop := fun a => P a ∨ ∃ i, own i = some a
structure Rg [Nm] (O : Ob) (K : PySem.W.Frag) (H0 : Hp) (P0 : Addr → Prop) (Γ : Env) (σ : L2.St) (H : Hp) (own : Nat → Option Addr) : Prop where
  same : Same H0 H
  inj : ∀ i j a, own i = some a → own j = some a → i = j
  fresh : ∀ i a, own i = some a → Nn H0 a ∧ ∃ o, H a = some o ∧ Mb o
  rs : Rs O K (Pw P0 own) (clean Γ) σ H
  ow : ∀ (i : Nat) c, Γ[i]? = some (some (.own c)) → ∃ p, own i = some p ∧ σ[i]? = some (some (.ref p)) ∧ OwnOk O K H (Pw P0 own) p c
section
variable [Nm] {O : Ob} {X : Cx} {E : XK} {H0 : Hp} {P0 : Addr → Prop} {Γ : Env} {σ : L2.St} {H H' : Hp} {own : Nat → Option Addr} {K : PySem.W.Frag}
theorem Rg.dom (h : Rg O K H0 P0 Γ σ H own) (hd : Dom H0 P0) : Dom H (Pw P0 own) := ⟨fun a z => by
  rcases z with z | ⟨i, z⟩
  · exact (hd.same h.same).has a z
  · exact (h.fresh i a z).2, (hd.same h.same).tab⟩
theorem Rg.step (h : Rg O K H0 P0 Γ σ H own) (s : Same H H') : Rg O K H0 P0 Γ σ H' own :=
  ⟨h.same.trans s, h.inj, fun i a e => let ⟨e1, o, e2, m⟩ := h.fresh i a e; ⟨e1, o, s.all _ _ e2 (no_mb m), m⟩, h.rs.same s, fun i c e => let ⟨p, e1, e2, e3⟩ := h.ow i c e; ⟨p, e1, e2, e3.same s⟩⟩
theorem Rg.full (h : Rg O K H0 P0 Γ σ H own) (hd : Dom H0 P0) : Rs O K P0 (full Γ) σ H := by
  refine ⟨by rw [h.rs.len]; simp [clean, DL.full], fun i d e => ?_⟩
  unfold DL.full at e
  rw [List.getElem?_map] at e
  cases q : Γ[i]? with
  | none =>
    rw [q] at e
    cases e
  | some o =>
    rw [q] at e
    cases o with
    | none => cases e
    | some t =>
      cases t with
      | val d' =>
        have e' : d' = d := by
          injection e with e
          injection e
        subst e'
        obtain ⟨v, e1, h1⟩ := h.rs.get i d' (by unfold clean; rw [List.getElem?_map, q]; rfl)
        exact ⟨v, e1, h1.less fun a z => .inl z⟩
      | own c =>
        cases e
        obtain ⟨p, e1, e2, e3⟩ := h.ow i c q
        refine ⟨.ref p, e2, (e3.less fun a z => .inl z).dv fun z => ?_⟩
        obtain ⟨o, eo, m⟩ := hd.has p z
        exact no_mb m ((h.fresh i p e1).1 _ eo)
theorem clean_set (Γ : Env) (i : Nat) (d : D) : clean (Γ.set i (some (.val d))) = (clean Γ).set i (some d) := by
  unfold clean
  rw [List.map_set]
  rfl
theorem Rg.set (h : Rg O K H0 P0 Γ σ H own) {i : Nat} {v : V} {d : D} (hv : Dv O K H (Pw P0 own) v d) : Rg O K H0 P0 (Γ.set i (some (.val d))) (σ.set i (some v)) H own := by
  refine ⟨h.same, h.inj, h.fresh, by rw [clean_set]; exact h.rs.set hv, fun j xs e => ?_⟩
  by_cases hj : i = j
  · subst hj
    have hl : i < Γ.length := by
      have := (List.getElem?_eq_some_iff.mp e).1
      rw [List.length_set] at this
      exact this
    rw [List.getElem?_set_self hl] at e
    cases e
  · rw [List.getElem?_set_ne hj] at e
    obtain ⟨p, e1, e2, e3⟩ := h.ow j xs e
    exact ⟨p, e1, by rw [List.getElem?_set_ne hj]; exact e2, e3⟩
def setV (Γ : Env) : List (Nat × D) → Env
  | [] => Γ
  | (i, d) :: r => setV (Γ.set i (some (.val d))) r
theorem Rg.many : ∀ {a : List (Nat × V)} {b : List (Nat × D)} {Γ : Env} {σ : L2.St}, Bnd O K H (Pw P0 own) a b → Rg O K H0 P0 Γ σ H own → Rg O K H0 P0 (setV Γ b) (setAll σ a) H own
  | _, _, _, _, .nil, h => h
  | (i, v) :: a, (_, d) :: b, Γ, σ, .cons hv r, h => by
    have := Rg.many (Γ := Γ.set i (some (.val d))) (σ := σ.set i (some v)) r (h.set hv)
    exact this
def ownSet (own : Nat → Option Addr) (i : Nat) (p : Addr) : Nat → Option Addr := fun j => if j = i then some p else own j
theorem ownSet_self (own : Nat → Option Addr) (i : Nat) (p : Addr) : ownSet own i p i = some p := if_pos rfl
theorem ownSet_ne {own : Nat → Option Addr} {i j : Nat} {p : Addr} (h : j ≠ i) : ownSet own i p j = own j := if_neg h
/-- a new list becomes one's own -/
theorem Rg.setOwn (h : Rg O K H0 P0 Γ σ H own) {i : Nat} {p : Addr} {c : OwnC} (n : Nn H0 p) (np : ∀ j, own j ≠ some p)
    (hr : ∀ (j : Nat) d, (clean Γ)[j]? = some (some d) → ∃ v, σ[j]? = some (some v) ∧ Dv O K H (fun a => Pw P0 own a ∨ a = p) v d)
    (ho : ∀ (j : Nat) c, Γ[j]? = some (some (.own c)) → ∃ q, own j = some q ∧ σ[j]? = some (some (.ref q)) ∧ OwnOk O K H (fun a => Pw P0 own a ∨ a = p) q c)
    (hv : OwnOk O K H (fun a => Pw P0 own a ∨ a = p) p c) : Rg O K H0 P0 (Γ.set i (some (.own c))) (σ.set i (some (.ref p))) H (ownSet own i p) := by
  have sub : ∀ a, Pw P0 (ownSet own i p) a → Pw P0 own a ∨ a = p := fun a z => by
    rcases z with z | ⟨j, z⟩
    · exact .inl (.inl z)
    · by_cases hj : j = i
      · subst hj
        rw [ownSet_self] at z
        cases z
        exact .inr rfl
      · rw [ownSet_ne hj] at z
        exact .inl (.inr ⟨j, z⟩)
  refine ⟨h.same, fun j k a e1 e2 => ?_, fun j a e1 => ?_, ⟨by rw [List.length_set, h.rs.len]; simp [clean], fun j d e1 => ?_⟩, fun j ys e1 => ?_⟩
  · by_cases hj : j = i
    · subst hj
      rw [ownSet_self] at e1
      cases e1
      by_cases hk : k = j
      · rw [hk]
      · rw [ownSet_ne hk] at e2
        exact absurd e2 (np k)
    · rw [ownSet_ne hj] at e1
      by_cases hk : k = i
      · subst hk
        rw [ownSet_self] at e2
        cases e2
        exact absurd e1 (np j)
      · rw [ownSet_ne hk] at e2
        exact h.inj j k a e1 e2
  · by_cases hj : j = i
    · subst hj
      rw [ownSet_self] at e1
      cases e1
      exact ⟨n, hv.mb⟩
    · rw [ownSet_ne hj] at e1
      exact h.fresh j a e1
  · unfold clean at e1
    rw [List.map_set] at e1
    by_cases hj : i = j
    · subst hj
      have hl : i < (Γ.map cleanE).length := by
        have := (List.getElem?_eq_some_iff.mp e1).1
        rw [List.length_set] at this
        exact this
      rw [List.getElem?_set_self hl] at e1
      cases e1
    · rw [List.getElem?_set_ne hj] at e1
      obtain ⟨v, e2, h2⟩ := hr j d e1
      exact ⟨v, by rw [List.getElem?_set_ne hj]; exact e2, h2.less sub⟩
  · by_cases hj : i = j
    · subst hj
      have hl : i < Γ.length := by
        have := (List.getElem?_eq_some_iff.mp e1).1
        rw [List.length_set] at this
        exact this
      rw [List.getElem?_set_self hl] at e1
      cases e1
      have hs : i < σ.length := by
        rw [h.rs.len]
        simpa [clean] using hl
      exact ⟨p, ownSet_self own i p, by rw [List.getElem?_set_self hs], hv.less sub⟩
    · rw [List.getElem?_set_ne hj] at e1
      obtain ⟨q, e2, e3, e4⟩ := ho j ys e1
      exact ⟨q, by rw [ownSet_ne (fun z => hj z.symm)]; exact e2, by rw [List.getElem?_set_ne hj]; exact e3, e4.less sub⟩
structure KS where
  nx : Env → Prop
  rt : D → Prop
  bk : Env → Prop := fun _ => False
  ct : Env → Prop := fun _ => False
  ex : Str → Prop := fun _ => False
structure Lk (O : Ob) (X : Cx) (E : XK) (H0 : Hp) (P0 : Addr → Prop) (k : KS) (D : Ends) : Prop where
  nx : ∀ Γ σ H own, Rg O X.K H0 P0 Γ σ H own → k.nx Γ → D.nx σ H
  rt : ∀ v d H, Same H0 H → Dv O X.K H P0 v d → k.rt d → D.rt v H
  bk : ∀ Γ σ H own, Rg O X.K H0 P0 Γ σ H own → k.bk Γ → D.bk σ H
  ct : ∀ Γ σ H own, Rg O X.K H0 P0 Γ σ H own → k.ct Γ → D.ct σ H
  ex : XOk X E H0 k.ex
abbrev FS := Env → KS → Prop
def DS (O : Ob) (X : Cx) (E : XK) (st : Stmt) (F : FS) : Prop := ∃ t, PS X st t ∧ ∀ H0 P0 Γ σ H own k D, Dom H0 P0 → Rg O X.K H0 P0 Γ σ H own → F Γ k → Lk O X E H0 P0 k D → t D σ H
def DSs (O : Ob) (X : Cx) (E : XK) (st : List Stmt) (F : FS) : Prop := ∃ t, PSs X st t ∧ ∀ H0 P0 Γ σ H own k D, Dom H0 P0 → Rg O X.K H0 P0 Γ σ H own → F Γ k → Lk O X E H0 P0 k D → t D σ H
variable {pos : Pos} {e a b : Expr} {st : Stmt} {rest : List Stmt} {F G : FS} {f : Rho → WD D}
theorem Lk.exH {k : KS} {D : Ends} (l : Lk O X E H0 P0 k D) (r : Rg O X.K H0 P0 Γ σ H own) : XOk X E H k.ex := l.ex.same r.same
def sNext : FS := fun Γ k => k.nx Γ
def sSeq (F G : FS) : FS := fun Γ k => F Γ { k with nx := fun Γ' => G Γ' k }
theorem dss_nil : DSs O X E [] sNext := ⟨_, pss_nil, fun H0 P0 Γ σ H own k D hd r hf l => l.nx _ _ _ _ r hf⟩
theorem dss_one (h : DS O X E st F) : DSs O X E [st] F := let ⟨t, h1, h2⟩ := h; ⟨t, pss_one h1, h2⟩
theorem dss_cons (h : DS O X E st F) (k : DSs O X E rest G) : DSs O X E (st :: rest) (sSeq F G) := by
  obtain ⟨t, h1, h2⟩ := h
  obtain ⟨u, k1, k2⟩ := k
  exact ⟨_, pss_cons h1 k1, fun H0 P0 Γ σ H own k D hd r hf l => h2 H0 P0 Γ σ H own _ _ hd r hf ⟨fun Γ' σ' H' own' r' q => k2 H0 P0 Γ' σ' H' own' k D hd r' q l, l.rt, l.bk, l.ct, l.ex⟩⟩
def sBreak : FS := fun Γ k => k.bk Γ
def sCont : FS := fun Γ k => k.ct Γ
def sNever : FS := fun _ _ => False
/-- return e -/
def sRet (f : Rho → WD D) : FS := fun Γ k => f (full Γ) k.rt k.ex
theorem ds_ret (h : DE O X E e f) : DS O X E (.Return (some e) pos) (sRet f) := by
  obtain ⟨t, h1, h2⟩ := h
  exact ⟨_, ps_ret h1, fun H0 P0 Γ σ H own k D hd r hf l => h2 P0 _ σ H _ _ _ (hd.same r.same) (r.full hd) hf (fun v d H' s h q => l.rt v d H' (r.same.trans s) h q) (l.exH r)⟩
def sRetN : FS := fun Γ k => k.rt .none
/-- x = e: e looks at no list of one's own -/
def sSet (i : Nat) (f : Rho → WD D) : FS := fun Γ k => f (clean Γ) (fun d => k.nx (Γ.set i (some (.val d)))) k.ex
theorem ds_set (i : Nat) {x : Str} {pos' : Pos} (hN : X.N.Nodup) (h : DE O X E e f) (hi : X.N[i]? = some x := by rfl) (hx : Loc X.env.scope x := by first | exact Or.inl rfl | exact Or.inr rfl) (hs : swapsWith e (some (.Name x pos')) pos.line X.env = pure false := by rfl)
    (hf : X.fn x = true ∨ X.env.scope.names.lookup x = some .local := by first | exact .inl rfl | exact .inr rfl | assumption) : DS O X E (.Assign [.Name x pos'] e pos) (sSet i f) := by
  obtain ⟨t, h1, h2⟩ := h
  exact ⟨_, ps_set (i := i) hN hi hx h1 hs hf, fun H0 P0 Γ σ H own k D hd r hf l => h2 _ _ σ H _ _ _ (r.dom hd) r.rs hf (fun v d H' s h q => l.nx _ _ _ _ ((r.step s).set h) q) (l.exH r)⟩
/-- x = e: e is plain all through -/
def sSetP (i : Nat) (f : Rho → WD D) : FS := fun Γ k => f (full Γ) (fun d => pureD d = true ∧ k.nx (Γ.set i (some (.val d)))) k.ex
/-- x = a new list -/
def sSetF (i : Nat) (f : Rho → WD (List D)) : FS := fun Γ k => f (clean Γ) (fun xs => k.nx (Γ.set i (some (.own (.lst xs))))) k.ex
theorem own_new (r : Rg O K H0 P0 Γ σ H own) (hd : Dom H0 P0) {i : Nat} {p : Addr} {c : OwnC} (s : Same H H') (n : Nn H p) (hv : OwnOk O K H' (fun a => Pw P0 own a ∨ a = p) p c) :
    Rg O K H0 P0 (Γ.set i (some (.own c))) (σ.set i (some (.ref p))) H' (ownSet own i p) := by
  have r' := r.step s
  have ps : ∀ a, (Pw P0 own a ∨ a = p) → Pw P0 own a ∨ Nn H a := fun a z => z.imp id fun q => by rw [q]; exact n
  refine r'.setOwn (r.same.free n) (fun j z => ?_) (fun j d e1 => ?_) (fun j ys e1 => ?_) hv
  · obtain ⟨_, ws, z2, m⟩ := r.fresh j p z
    exact no_mb m (n _ z2)
  · obtain ⟨v, e2, h2⟩ := r.rs.get j d e1
    exact ⟨v, e2, h2.kf ps (.of s) (r.dom hd)⟩
  · obtain ⟨q, e2, e3, e4⟩ := r.ow j ys e1
    exact ⟨q, e2, e3, e4.to (fun h => h.kf ps (.of s) (r.dom hd)) fun o e m => s.all _ _ e (no_mb m)⟩
theorem ds_setF (i : Nat) {x : Str} {pos' : Pos} {f : Rho → WD (List D)} (hN : X.N.Nodup) (h : DF O X E e f) (hi : X.N[i]? = some x := by rfl) (hx : Loc X.env.scope x := by first | exact Or.inl rfl | exact Or.inr rfl) (hs : swapsWith e (some (.Name x pos')) pos.line X.env = pure false := by rfl)
    (hf : X.fn x = true ∨ X.env.scope.names.lookup x = some .local := by first | exact .inl rfl | exact .inr rfl | assumption) : DS O X E (.Assign [.Name x pos'] e pos) (sSetF i f) := by
  obtain ⟨t, h1, h2⟩ := h
  exact ⟨_, ps_set (i := i) hN hi hx h1 hs hf, fun H0 P0 Γ σ H own k D hd r hf l => h2 _ _ σ H _ _ _ (r.dom hd) r.rs hf (fun p vs ds H' s n e h q => l.nx _ _ _ _ (own_new (c := .lst ds) r hd s n ⟨vs, e, h⟩) q) (l.exH r)⟩
def sSetFP (i : Nat) (f : Rho → WD (List D)) : FS := fun Γ k => f (full Γ) (fun xs => pureD.pureAll xs = true ∧ k.nx (Γ.set i (some (.own (.lst xs))))) k.ex
section
variable {elt : Expr} {gs : List Comprehension} {scope : Scope} {fl : Rho → WD (List D)} {y : Str} {py lpos spos : Pos}
theorem ds_setLcFP (i : Nat) (h : DLc O X E elt gs scope fl) (hy : X.N[i]? = some y := by rfl) (hl : X.env.scope.names.lookup y = some .local := by rfl) (hk : X.env.scope.kind = .function := by rfl) (hp : (py.line == lpos.line) = true := by rfl)
    (ha : (scope.names.any fun (n, k) => n == y && (k == .local || k == .cell)) = false := by decide +kernel) : DS O X E (.Assign [.Name y py] (.ListComp elt gs scope lpos) spos) (sSetFP i fl) := by
  obtain ⟨t, _, h2, h3⟩ := h
  exact ⟨_, h2 i y py lpos spos hy hl (sw_true hk hl hp ha), fun H0 P0 Γ σ H own k D hd r hf l => h3 P0 _ σ H _ _ _ (hd.same r.same) (r.full hd) hf (fun p vs ds H' s n e h q => l.nx _ _ _ _ (own_new (c := .lst ds) r hd s n ⟨vs, e, h.pure q.1⟩) q.2) (l.exH r)⟩
end
/-- a target of several names -/
def sTgt (T : Tg) (f : Rho → WD D) : FS := fun Γ k => f (clean Γ) (fun d => orStuck (bindT T d) fun l => k.nx (setV Γ l)) k.ex
theorem ds_tgt {tg : Expr} {T : Tg} (h : DE O X E e f) (hg : DG O X tg T) (hs : swapsWithSole [tg] e pos.line X.env = pure false := by rfl) (hw : swappedStores [tg] e X.env = pure none := by rfl) (h1 : (assignEach [tg] X.env).map (·.2) = [assign tg X.env] := by rfl) : DS O X E (.Assign [tg] e pos) (sTgt T f) := by
  obtain ⟨t, a1, a2⟩ := h
  obtain ⟨g, b1, b2⟩ := hg
  refine ⟨_, ps_asg a1 b1 hs hw h1, fun H0 P0 Γ σ H own k D hd r hf l => a2 _ _ σ H _ _ _ (r.dom hd) r.rs hf (fun v d H' s h q => ?_) (l.exH r)⟩
  obtain ⟨lb, e1, q⟩ := of_orStuck q
  exact b2 _ σ H' v d lb _ h e1 fun a ha => l.nx _ _ _ _ (Rg.many ha (r.step s)) q
def sTgtP (T : Tg) (f : Rho → WD D) : FS := fun Γ k => f (full Γ) (fun d => pureD d = true ∧ orStuck (bindT T d) fun l => k.nx (setV Γ l)) k.ex
theorem ds_tgtP {tg : Expr} {T : Tg} (h : DE O X E e f) (hg : DG O X tg T) (hs : swapsWithSole [tg] e pos.line X.env = pure false := by rfl) (hw : swappedStores [tg] e X.env = pure none := by rfl) (h1 : (assignEach [tg] X.env).map (·.2) = [assign tg X.env] := by rfl) : DS O X E (.Assign [tg] e pos) (sTgtP T f) := by
  obtain ⟨t, a1, a2⟩ := h
  obtain ⟨g, b1, b2⟩ := hg
  refine ⟨_, ps_asg a1 b1 hs hw h1, fun H0 P0 Γ σ H own k D hd r hf l => a2 P0 _ σ H _ _ _ (hd.same r.same) (r.full hd) hf (fun v d H' s h q => ?_) (l.exH r)⟩
  obtain ⟨lb, e1, q2⟩ := of_orStuck q.2
  exact b2 _ σ H' v d lb _ (h.pure q.1) e1 fun a ha => l.nx _ _ _ _ (Rg.many ha (r.step s)) q2
/-- a, b = x, y -/
def sPar (i j : Nat) (f : Rho → WD (List D)) : FS := fun Γ k => f (clean Γ) (fun ds => match ds with
  | [d, e] => k.nx ((Γ.set i (some (.val d))).set j (some (.val e)))
  | _ => False) k.ex
theorem ds_par {i j : Nat} {x y : Str} {f : Rho → WD (List D)} {px py pt : Pos} {kt k2 pt2} (hc : X.calm = true) (hN : X.N.Nodup) (ha : DA O X E [a, b] f) (hw : swappedStores [.Tuple [.Name x px, .Name y py] kt pt] (.Tuple [a, b] k2 pt2) X.env = pure (some [x, y]))
    (hi : X.N[i]? = some x := by rfl) (hj : X.N[j]? = some y := by rfl) (hij : i ≠ j := by decide)
    (hx : X.env.scope.names.lookup x = some .local := by rfl) (hy : X.env.scope.names.lookup y = some .local := by rfl)
    (hs : swapsWithSole [.Tuple [.Name x px, .Name y py] kt pt] (.Tuple [a, b] k2 pt2) pos.line X.env = pure false := by rfl) :
    DS O X E (.Assign [.Tuple [.Name x px, .Name y py] kt pt] (.Tuple [a, b] k2 pt2) pos) (sPar i j f) := by
  obtain ⟨t, a1, a2⟩ := ha
  refine ⟨_, ps_par hc hN hi hj hij hx hy a1 hw hs, fun H0 P0 Γ σ H own k D hd r hf l => a2 _ _ σ H _ _ _ (r.dom hd) r.rs hf (fun vs ds H' s h _ q => ?_) (l.exH r)⟩
  cases h with
  | nil => exact q.elim
  | cons h1 h =>
    cases h with
    | nil => exact q.elim
    | cons h2 h =>
      cases h with
      | nil => exact ⟨_, _, rfl, l.nx _ _ _ _ (((r.step s).set h1).set h2) q⟩
      | cons _ _ => exact q.elim
/-- e -/
def sDrop (f : Rho → WD D) : FS := fun Γ k => f (full Γ) (fun _ => k.nx Γ) k.ex
theorem ds_expr (h : DE O X E e f) (hs : swapsWith e none pos.line X.env = pure false := by rfl) : DS O X E (.Expr e pos) (sDrop f) := by
  obtain ⟨t, h1, h2⟩ := h
  exact ⟨_, ps_expr h1 hs, fun H0 P0 Γ σ H own k D hd r hf l => h2 P0 _ σ H _ _ _ (hd.same r.same) (r.full hd) hf (fun v d H' s h q => l.nx _ _ _ _ (r.step s) q) (l.exH r)⟩
/-- if -/
def sIf (c : Rho → WD Bool) (F G : FS) : FS := fun Γ k => c (full Γ) (fun b => if b = true then F Γ k else G Γ k) k.ex
theorem ds_if {c : Expr} {fc : Rho → WD Bool} {sa sb : List Stmt} (h : DT O X E c fc) (ha : DSs O X E sa F) (hb : DSs O X E sb G) : DS O X E (.If c sa sb pos) (sIf fc F G) := by
  obtain ⟨t, h1, h2⟩ := h
  obtain ⟨ta, a1, a2⟩ := ha
  obtain ⟨tb, b1, b2⟩ := hb
  refine ⟨_, ps_if h1 a1 b1, fun H0 P0 Γ σ H own k D hd r hf l => h2 P0 _ σ H _ _ _ (hd.same r.same) (r.full hd) hf (fun b H' s q => ?_) (l.exH r)⟩
  cases b with
  | true => exact a2 H0 P0 Γ σ H' own k D hd (r.step s) q l
  | false => exact b2 H0 P0 Γ σ H' own k D hd (r.step s) q l
/-- x += e, whole numbers -/
def sAug (i : Nat) (g : Int → Int → Int) (f : Rho → WD D) : FS := fun Γ k => match (full Γ)[i]? with
  | some (some (.int a)) => f (full Γ) (fun d => match d with
    | .int b => k.nx (Γ.set i (some (.val (.int (g a b)))))
    | _ => False) k.ex
  | _ => False
theorem ds_aug (i : Nat) {x : Str} {op : Operator} {g : Int → Int → Int} {pos' : Pos} (hN : X.N.Nodup) (h : DE O X E e f) (ho : PIp X op (ipI g)) (hi : X.N[i]? = some x := by rfl) (hx : Loc X.env.scope x := by first | exact Or.inl rfl | exact Or.inr rfl)
    (hf : X.fn x = true ∨ X.env.scope.names.lookup x = some .local := by first | exact .inl rfl | exact .inr rfl | assumption) : DS O X E (.AugAssign (.Name x pos') op e pos) (sAug i g f) := by
  obtain ⟨t, h1, h2⟩ := h
  refine ⟨_, ps_aug (i := i) hN hi hx h1 ho hf, fun H0 P0 Γ σ H own k D hd r hf l => ?_⟩
  unfold sAug at hf
  split at hf
  · rename_i a e
    obtain ⟨v, e1, hv⟩ := (r.full hd).get i _ e
    cases hv
    refine ⟨_, e1, h2 P0 _ σ H _ _ _ (hd.same r.same) (r.full hd) hf (fun v d H' s h q => ?_) (l.exH r)⟩
    cases h with
    | int b => exact ⟨a, b, rfl, rfl, l.nx _ _ _ _ ((r.step s).set (.int _)) q⟩
    | _ => exact q.elim
  · exact hf.elim
def forLoop (T : Tg) (F : FS) (k : KS) : List D → Env → Prop
  | [], Γ => k.nx Γ
  | x :: xs, Γ => orStuck (bindT T x) fun l => F (setV Γ l) { k with nx := forLoop T F k xs, ct := forLoop T F k xs, bk := k.nx }
def sFor (fi : Rho → WD (List D)) (T : Tg) (F : FS) : FS := fun Γ k => fi (clean Γ) (fun xs => forLoop T F k xs Γ) k.ex
/-- what is not one's own -/
noncomputable def froz (own : Nat → Option Addr) (H : Hp) : Hp := fun a => @ite _ (∃ i, own i = some a) (Classical.propDecidable _) none (H a)
theorem froz_of {a : Addr} {o : HO} (e : H a = some o) (n : ¬ ∃ i, own i = some a) : froz own H a = some o := by
  unfold froz
  rw [if_neg n]
  exact e
theorem of_froz {a : Addr} {o : HO} (e : froz own H a = some o) : H a = some o ∧ ¬ ∃ i, own i = some a := by
  unfold froz at e
  by_cases h : ∃ i, own i = some a
  · rw [if_pos h] at e
    cases e
  · rw [if_neg h] at e
    exact ⟨e, h⟩
theorem froz_none {a : Addr} (e : Nn (froz own H) a) : (∃ i, own i = some a) ∨ Nn H a := by
  by_cases h : ∃ i, own i = some a
  · exact .inl h
  · exact .inr fun o q => e o (froz_of q h)
theorem Rg.frozM (r : Rg O K H0 P0 Γ σ H own) : MemK H (froz own H) := by
  have no : ∀ {b : Addr} {u : HO}, H b = some u → ¬ Mb u → ¬ ∃ i, own i = some b := fun {b u} eb nu ⟨i, z⟩ => by
    obtain ⟨_, o, e2, m⟩ := r.fresh i b z
    rw [eb] at e2
    cases e2
    exact nu m
  exact .of (fun a p es i e => froz_of e (no e fun z => no_mb z sf_memo)) fun a o u e => froz_of e (no e not_mb_frz)
theorem Rg.froz0 (r : Rg O K H0 P0 Γ σ H own) : Same H0 (froz own H) := by
  refine ⟨fun a o e n => froz_of (r.same.all a o e n) fun ⟨i, z⟩ => ?_, fun t a e => ?_, r.same.mem.trans r.frozM⟩
  · exact n ((r.fresh i a z).1 _ e)
  · have no : ∀ {b : Addr} {u : HO}, H b = some u → ¬ Mb u → ¬ ∃ i, own i = some b := fun {b u} eb nu ⟨i, z⟩ => by
      obtain ⟨_, o, e2, m⟩ := r.fresh i b z
      rw [eb] at e2
      cases e2
      exact nu m
    obtain ⟨ps, h1, h2, h3⟩ := r.same.tab t a e
    refine ⟨ps, froz_of h1 (no h1 fun z => no_mb z (.inl ⟨_, rfl⟩)), h2, fun pos cv hc => ?_⟩
    obtain ⟨c, e1, e2⟩ := h3 pos cv hc
    exact ⟨c, e1, froz_of e2 (no e2 not_mb_code)⟩
/-- seen from what is not one's own -/
theorem Rg.deep (r : Rg O K H0 P0 Γ σ H own) : Rg O K (froz own H) P0 Γ σ H own :=
  ⟨.of fun a o e => (of_froz e).1, r.inj, fun i a e => ⟨fun o q => absurd ⟨i, e⟩ (of_froz q).2, (r.fresh i a e).2⟩, r.rs, r.ow⟩
theorem Rg.back {H1 : Hp} {own1 : Nat → Option Addr} (s : Same H0 H1) (r : Rg O K H1 P0 Γ σ H own1) : Rg O K H0 P0 Γ σ H own1 :=
  ⟨s.trans r.same, r.inj, fun i a e => ⟨s.free (r.fresh i a e).1, (r.fresh i a e).2⟩, r.rs, r.ow⟩
theorem Rg.dom0 (r : Rg O K H0 P0 Γ σ H own) (hd : Dom H0 P0) : Dom (froz own H) P0 := hd.same r.froz0
theorem ds_for {tg iter : Expr} {body : List Stmt} {fi : Rho → WD (List D)} {T : Tg} (hp : PassesOwn (model X.prog X.w) X.A X.env X.xe) (hc : X.calm = true) (hi : DI O X E tg iter fi) (hg : DG O X tg T) (hb : DSs O X E body F)
    (hs : ∀ x, foldedSetIterable iter X.env x = pure x := by intro _; rfl) : DS O X E (.For tg iter body [] pos) (sFor fi T F) := by
  obtain ⟨wi, i1, i2⟩ := hi
  obtain ⟨g, g1, g2⟩ := hg
  obtain ⟨tb, b1, b2⟩ := hb
  refine ⟨_, ps_for hp hc i1 g1 b1 hs, fun H0 P0 Γ σ H own k D hd r hf l => i2 _ _ σ H _ _ _ (r.dom hd) r.rs hf (fun J xs H1 s1 dv q => ?_) (l.exH r)⟩
  have r1 := r.step s1
  have s01 := r1.froz0
  have hd1 := r1.dom0 hd
  refine ⟨fun i m σ2 H2 => m = xs.length - i ∧ i ≤ xs.length ∧ ∃ Γ2 own2, Rg O X.K (froz own H1) P0 Γ2 σ2 H2 own2 ∧ forLoop T F k (xs.drop i) Γ2,
    ⟨xs.length, by simp, Nat.zero_le _, Γ, own, r1.deep, q⟩, ?_⟩
  rintro i m σ2 H2 ⟨rfl, hi, Γ2, own2, r2, lp⟩
  have pp : ∀ a, Pw P0 own a → Pw P0 own a ∨ Pw P0 own2 a := fun a z => .inl z
  have hp : ∀ a, (Pw P0 own a ∨ Pw P0 own2 a) → Pw P0 own a ∨ Nn H1 a := fun a z => by
    rcases z with z | z | ⟨j, z⟩
    · exact .inl z
    · exact .inl (.inl z)
    · rcases froz_none (r2.fresh j a z).1 with w | w
      · exact .inl (.inr w)
      · exact .inr w
  have kf : Kf (fun a => Pw P0 own a ∨ Pw P0 own2 a) H1 H2 := ⟨fun a o e n s => r2.same.all a o (froz_of e fun z => n (.inl (.inr z))) s, (r1.frozM).trans r2.same.mem⟩
  have dr := dv _ H2 pp hp kf
  by_cases hlt : i < xs.length
  · refine .inr ⟨dr.go i hlt, fun σ' H' => ∃ Γ' own', Rg O X.K (froz own H1) P0 Γ' σ' H' own' ∧ forLoop T F k (xs.drop (i + 1)) Γ', fun σ' H' h => ⟨xs.length - (i + 1), by omega, rfl, hlt, h⟩, fun x H3 y => ?_⟩
    obtain ⟨d, ed⟩ := get_lt hlt
    obtain ⟨s3, hx⟩ := dr.yld i x H3 d y ed
    obtain ⟨hi', ed'⟩ := List.getElem?_eq_some_iff.mp ed
    rw [List.drop_eq_getElem_cons hi', ed'] at lp
    obtain ⟨lb, eb, q2⟩ := of_orStuck lp
    refine g2 (Pw P0 own2) σ2 H3 x d lb _ (hx.less fun a z => .inr z) eb fun a ha => b2 _ P0 _ _ H3 own2 _ _ hd1 (Rg.many ha (r2.step s3)) q2 ?_
    exact ⟨fun Γ' σ' H' own' r' q' => ⟨Γ', own', r', q'⟩, fun v d H' s h q' => l.rt v d H' (s01.trans s) h q', fun Γ' σ' H' own' r' q' => l.nx _ _ _ _ (r'.back s01) q', fun Γ' σ' H' own' r' q' => ⟨Γ', own', r', q'⟩, l.ex.same s01⟩
  · have e : i = xs.length := by omega
    subst e
    rw [List.drop_length] at lp
    exact .inl ⟨dr.stop _ (Nat.le_refl _), l.nx _ _ _ _ (r2.back s01) lp⟩
def whLoop (c : Rho → WD Bool) (F : FS) (k : KS) : Nat → Env → Prop
  | 0, _ => False
  | n + 1, Γ => c (full Γ) (fun b => if b = true then F Γ { k with nx := whLoop c F k n, ct := whLoop c F k n, bk := k.nx } else k.nx Γ) k.ex
def sWhile (c : Rho → WD Bool) (F : FS) : FS := fun Γ k => ∃ n, whLoop c F k n Γ
theorem ds_while {c : Expr} {fc : Rho → WD Bool} {body : List Stmt} (hp : PassesOwn (model X.prog X.w) X.A X.env X.xe) (hc : DT O X E c fc) (hb : DSs O X E body F) : DS O X E (.While c body [] pos) (sWhile fc F) := by
  obtain ⟨t, h1, h2⟩ := hc
  obtain ⟨tb, b1, b2⟩ := hb
  refine ⟨_, ps_while hp h1 b1, fun H0 P0 Γ σ H own k D hd r hf l => ?_⟩
  obtain ⟨n, hf⟩ := hf
  refine ⟨fun m σ2 H2 => ∃ Γ2 own2, Rg O X.K H0 P0 Γ2 σ2 H2 own2 ∧ whLoop fc F k m Γ2, ⟨n, Γ, own, r, hf⟩, ?_⟩
  rintro m σ2 H2 ⟨Γ2, own2, r2, lp⟩
  cases m with
  | zero => exact lp.elim
  | succ m =>
    refine h2 P0 _ σ2 H2 _ _ _ (hd.same r2.same) (r2.full hd) lp (fun b H3 s3 q3 => ?_) (l.exH r2)
    cases b with
    | true =>
      refine ⟨fun σ' H' => ∃ Γ' own', Rg O X.K H0 P0 Γ' σ' H' own' ∧ whLoop fc F k m Γ', fun σ' H' h => ⟨m, Nat.lt_succ_self m, h⟩, b2 H0 P0 Γ2 σ2 H3 own2 _ _ hd (r2.step s3) q3 ?_⟩
      exact ⟨fun Γ' σ' H' own' r' q' => ⟨Γ', own', r', q'⟩, l.rt, l.nx, fun Γ' σ' H' own' r' q' => ⟨Γ', own', r', q'⟩, l.ex⟩
    | false => exact l.nx _ _ _ _ (r2.step s3) q3
theorem Rg.grow (r : Rg O K H0 P0 Γ σ H own) {i : Nat} {p : Addr} {o' : HO} {c c' : OwnC} (e : Γ[i]? = some (some (.own c))) (eo : own i = some p) (es : σ[i]? = some (some (.ref p))) (mo : Mb o')
    (hc : (∀ {vs : List V} {ds : List D}, DvAll O K H (Pw P0 own) vs ds → DvAll O K (upd H p o') (Pw P0 own) vs ds) → OwnOk O K (upd H p o') (Pw P0 own) p c') : Rg O K H0 P0 (Γ.set i (some (.own c'))) σ (upd H p o') own := by
  obtain ⟨hn, ws, ep, mw⟩ := r.fresh i p eo
  have nl : Nl H (upd H p o') := .upd ep mw
  have ls : ∀ a o, H a = some o → Mb o → ¬ Pw P0 own a → upd H p o' a = some o := fun a o ea m n => by
    have : a ≠ p := fun z => n (.inr ⟨i, by rw [z]; exact eo⟩)
    rw [upd_ne this]
    exact ea
  have kp : ∀ {v : V} {d : D}, Dv O K H (Pw P0 own) v d → Dv O K (upd H p o') (Pw P0 own) v d := fun h => h.keep nl ls fun _ _ _ _ q => q
  have kpA : ∀ {v : List V} {d : List D}, DvAll O K H (Pw P0 own) v d → DvAll O K (upd H p o') (Pw P0 own) v d := fun h => h.keep nl ls fun _ _ _ _ q => q
  have hil : i < Γ.length := (List.getElem?_eq_some_iff.mp e).1
  refine ⟨r.same.upd hn ep mw, r.inj, fun j a ea => ?_, ⟨by rw [r.rs.len]; simp [clean], fun j d ej => ?_⟩, fun j zs ej => ?_⟩
  · obtain ⟨h1, us, h2, m2⟩ := r.fresh j a ea
    by_cases hp : a = p
    · subst hp
      exact ⟨h1, o', upd_same, mo⟩
    · exact ⟨h1, us, by rw [upd_ne hp]; exact h2, m2⟩
  · unfold clean at ej
    rw [List.map_set] at ej
    by_cases hj : i = j
    · subst hj
      rw [List.getElem?_set_self (by simpa using hil)] at ej
      cases ej
    · rw [List.getElem?_set_ne hj] at ej
      obtain ⟨v, e2, h2⟩ := r.rs.get j d ej
      exact ⟨v, e2, kp h2⟩
  · by_cases hj : i = j
    · subst hj
      rw [List.getElem?_set_self hil] at ej
      cases ej
      exact ⟨p, eo, es, hc kpA⟩
    · rw [List.getElem?_set_ne hj] at ej
      obtain ⟨q, e2, e3, e4⟩ := r.ow j zs ej
      have : q ≠ p := fun z => hj (r.inj i j p eo (by rw [← z]; exact e2))
      exact ⟨q, e2, e3, e4.to kpA fun o e _ => by rw [upd_ne this]; exact e⟩
/-- x.append(e) -/
def ownAt (Γ : Env) (i : Nat) (Q : List D → Prop) : Prop := match Γ[i]? with
  | some (some (.own (.lst xs))) => Q xs
  | _ => False
theorem of_ownAt {i : Nat} {Q : List D → Prop} (h : ownAt Γ i Q) : ∃ xs, Γ[i]? = some (some (.own (.lst xs))) ∧ Q xs := by
  unfold ownAt at h
  split at h
  · exact ⟨_, by assumption, h⟩
  · exact h.elim
def sApp (i : Nat) (f : Rho → WD D) : FS := fun Γ k => ownAt Γ i fun xs => f (clean Γ) (fun d => xs.length < 1000000 ∧ k.nx (Γ.set i (some (.own (.lst (xs ++ [d])))))) k.ex
def sAppP (i : Nat) (f : Rho → WD D) : FS := fun Γ k => ownAt Γ i fun xs => f (full Γ) (fun d => pureD d = true ∧ xs.length < 1000000 ∧ k.nx (Γ.set i (some (.own (.lst (xs ++ [d])))))) k.ex
def sExt (i : Nat) (f : Rho → WD D) : FS := fun Γ k => ownAt Γ i fun xs => f (clean Γ) (fun d => match d with
  | .list ys => xs.length + ys.length ≤ 1000000 ∧ k.nx (Γ.set i (some (.own (.lst (xs ++ ys)))))
  | _ => False) k.ex
section
variable {apos cpos npos : Pos} {x : Str}
theorem ds_app (i : Nat) (h : DE O X E e f) (hN : X.N[i]? = some x := by rfl) (hv : Vis X.env.scope x := by first | exact Or.inl rfl | exact Or.inr (Or.inl rfl) | exact Or.inr (Or.inr rfl)) (hdd : (x == ("__debug__" : Str)) = false := by decide) (hcd : (x == ("__classdict__" : Str)) = false := by decide)
    (hse : starEach [e] X.env = (false, eval e X.env) :: starEach [] X.env := by rfl)
    (hbase : attributeBase (.Name x npos) "append" X.env (eval (.Name x npos) X.env) = eval (.Name x npos) X.env := by rfl)
    (hfew : ((backTo cpos (starEach [e] X.env)).all (fun x => !x.1) && (backToKw cpos (keywordEach [] X.env)).all (fun x => x.1.isSome) && decide ([e].length + ([] : List Keyword).length + (if ([] : List Keyword).isEmpty then 0 else 1) < 30)) = true := by rfl)
    (hline : (apos.endLine == cpos.line) = true := by rfl) (hs : swapsWith (.Call (.Attribute (.Name x npos) "append" apos) [e] [] cpos) none pos.line X.env = pure false := by rfl) :
    DS O X E (.Expr (.Call (.Attribute (.Name x npos) "append" apos) [e] [] cpos) pos) (sApp i f) := by
  obtain ⟨t, h1, h2⟩ := h
  have pA : PA X [e] (tCons t tNil) := pa_cons h1 pa_nil hse
  refine ⟨_, ps_expr (pe_bm PySem.F.plainAttrs_list PySem.F.slot_list_append PySem.F.type_list_append mt_append (pe_var hN hv hdd hcd) pA hbase hfew hline hse) hs, fun H0 P0 Γ σ H own k D hd r hf l => ?_⟩
  obtain ⟨xs, eg, hf⟩ := of_ownAt hf
  obtain ⟨p, eo, es, vs, ep, hv⟩ := r.ow i (.lst xs) eg
  refine ⟨.ref p, es, .inl ⟨rfl, vs, .inl (.inl ep)⟩, h2 _ _ σ H _ _ _ (r.dom hd) r.rs hf (fun v d H' s h q => ?_) (l.exH r)⟩
  exact ⟨p, vs, v, rfl, rfl, s.all _ _ ep no_lst, by rw [hv.length]; exact Nat.lt_trans q.1 (by decide), l.nx _ _ _ _ ((r.step s).grow (c' := .lst _) eg eo es (.inl ⟨_, rfl⟩) fun f => ⟨_, upd_same, f ((hv.same s).append (.cons h .nil))⟩) q.2⟩
end
/-- a list of one's own is one's own no longer -/
def frz (i : Nat) (Γ : Env) : Env := Γ.modify i fun o => match o with
  | some (.own c) => some (.val (dataOf c))
  | o => o
def sFrz (i : Nat) (F : FS) : FS := fun Γ k => F (frz i Γ) k
def ownDel (own : Nat → Option Addr) (i : Nat) : Nat → Option Addr := fun j => if j = i then none else own j
theorem ownDel_self (own : Nat → Option Addr) (i : Nat) : ownDel own i i = none := if_pos rfl
theorem ownDel_ne {own : Nat → Option Addr} {i j : Nat} (h : j ≠ i) : ownDel own i j = own j := if_neg h
theorem Rg.frz (r : Rg O K H0 P0 Γ σ H own) (hd : Dom H0 P0) (i : Nat) : Rg O K H0 P0 (DL.frz i Γ) σ H (ownDel own i) := by
  have sub : ∀ a, Pw P0 (ownDel own i) a → Pw P0 own a := fun a z => by
    rcases z with z | ⟨j, z⟩
    · exact .inl z
    · by_cases hj : j = i
      · subst hj
        rw [ownDel_self] at z
        cases z
      · rw [ownDel_ne hj] at z
        exact .inr ⟨j, z⟩
  have ge : ∀ j, (DL.frz i Γ)[j]? = if i = j then (Γ[j]?).map (fun o => match o with | some (.own c) => some (.val (dataOf c)) | o => o) else Γ[j]? := fun j => by
    unfold DL.frz
    rw [List.getElem?_modify]
    by_cases hj : i = j
    · simp only [hj, if_true]
      rfl
    · simp [hj]
  refine ⟨r.same, fun j k a e1 e2 => ?_, fun j a e1 => ?_, ⟨by rw [r.rs.len]; simp [clean, DL.frz], fun j d e1 => ?_⟩, fun j ys e1 => ?_⟩
  · by_cases hj : j = i
    · subst hj
      rw [ownDel_self] at e1
      cases e1
    · rw [ownDel_ne hj] at e1
      by_cases hk : k = i
      · subst hk
        rw [ownDel_self] at e2
        cases e2
      · rw [ownDel_ne hk] at e2
        exact r.inj j k a e1 e2
  · by_cases hj : j = i
    · subst hj
      rw [ownDel_self] at e1
      cases e1
    · rw [ownDel_ne hj] at e1
      exact r.fresh j a e1
  · unfold clean at e1
    rw [List.getElem?_map, ge] at e1
    by_cases hj : i = j
    · subst hj
      rw [if_pos rfl] at e1
      cases q : Γ[i]? with
      | none =>
        rw [q] at e1
        cases e1
      | some o =>
        rw [q] at e1
        cases o with
        | none => cases e1
        | some t =>
          cases t with
          | val d' =>
            obtain ⟨v, e2, h2⟩ := r.rs.get i d (by unfold clean; rw [List.getElem?_map, q]; exact e1)
            exact ⟨v, e2, h2.less sub⟩
          | own c =>
            cases e1
            obtain ⟨p, eo, es, hv⟩ := r.ow i c q
            refine ⟨.ref p, es, (hv.less sub).dv fun z => ?_⟩
            rcases z with z | ⟨j, z⟩
            · obtain ⟨o, eo', m⟩ := hd.has p z
              exact no_mb m ((r.fresh i p eo).1 _ eo')
            · by_cases hj : j = i
              · subst hj
                rw [ownDel_self] at z
                cases z
              · rw [ownDel_ne hj] at z
                exact hj (r.inj j i p z eo)
    · rw [if_neg hj] at e1
      obtain ⟨v, e2, h2⟩ := r.rs.get j d (by unfold clean; rw [List.getElem?_map]; exact e1)
      exact ⟨v, e2, h2.less sub⟩
  · rw [ge] at e1
    by_cases hj : i = j
    · subst hj
      rw [if_pos rfl] at e1
      cases q : Γ[i]? with
      | none =>
        rw [q] at e1
        cases e1
      | some o =>
        rw [q] at e1
        cases o with
        | none => cases e1
        | some t => cases t <;> cases e1
    · rw [if_neg hj] at e1
      obtain ⟨p, eo, es, hv⟩ := r.ow j ys e1
      exact ⟨p, by rw [ownDel_ne (fun z => hj z.symm)]; exact eo, es, hv.less sub⟩
theorem dss_frz (i : Nat) {sts : List Stmt} (h : DSs O X E sts F) : DSs O X E sts (sFrz i F) := by
  obtain ⟨t, h1, h2⟩ := h
  exact ⟨t, h1, fun H0 P0 Γ σ H own k D hd r hf l => h2 H0 P0 _ σ H _ k D hd (r.frz hd i) hf l⟩
def startE (n : Nat) (ds : List D) : Env := ds.map (fun d => some (.val d)) ++ List.replicate (n - ds.length) none
def fn0 (n : Nat) (F : FS) : List D → WD D := fun ds Q E => F (startE n ds) { nx := fun _ => Q .none, rt := Q, ex := E }
theorem start_rg {N : List Str} {vs : List V} {ds : List D} {P : Addr → Prop} (h : DvAll O K H P vs ds) : Rg O K H P (startE N.length ds) (start N vs) H (fun _ => none) := by
  have hl := h.length
  refine ⟨Same.refl H, fun _ _ _ e => (nomatch e), fun _ _ e => (nomatch e), ⟨by simp [L2.start, startE, clean, hl], fun i d e => ?_⟩, fun i xs e => ?_⟩
  · unfold clean startE at e
    rw [List.getElem?_map] at e
    by_cases hi : i < ds.length
    · rw [List.getElem?_append_left (by simpa using hi), List.getElem?_map] at e
      cases q : ds[i]? with
      | none =>
        rw [q] at e
        cases e
      | some d' =>
        rw [q] at e
        cases e
        obtain ⟨v, e1, h1⟩ := h.get q
        refine ⟨v, ?_, h1.less fun a z => ?_⟩
        · unfold L2.start
          rw [List.getElem?_append_left (by simpa [hl] using hi), List.getElem?_map, e1]
          rfl
        · rcases z with z | ⟨_, z⟩
          · exact z
          · cases z
    · rw [List.getElem?_append_right (by simpa using hi), List.getElem?_replicate] at e
      split at e <;> cases e
  · unfold startE at e
    by_cases hi : i < ds.length
    · rw [List.getElem?_append_left (by simpa using hi), List.getElem?_map] at e
      cases q : ds[i]? with
      | none =>
        rw [q] at e
        cases e
      | some d' =>
        rw [q] at e
        cases e
    · rw [List.getElem?_append_right (by simpa using hi), List.getElem?_replicate] at e
      split at e <;> cases e
end
end DL
namespace DL
open PySem PySem.Spec L2
/-- the air of a context: what is raised in it is wished for by E -/
structure Air (X : Cx) (E : XK) : Prop where
  pass : Passes (L2.CX X.prog X.w) X E
  own : PassesOwn (model X.prog X.w) X.A X.env X.xe
  takes : Takes X (fun cls d _ H => E cls d H)
theorem Air.nox {X : Cx} : Air X.nox E0 := ⟨passL, PassesOwn.never, takes0⟩
theorem air_cx {P : Program} {w : World} {K : PySem.W.Frag} {mg : Str → Option Value} {base : Heap} {N : List Str} {x : Str} {sc : Scope} {f : Addr} {cdv : Value} {A : Around} {outer : List PySem.Env} {s : Shared} {H : Hp} {E : XK} : Air (cxOf (L2.CX P w) P w K mg base N x sc f cdv A outer s H E) E := by
  have tk : Takes (cxOf (L2.CX P w) P w K mg base N x sc f cdv A outer s H E) (fun cls d _ H => E cls d H) := takes_of (E := E) rfl rfl rfl rfl
  exact ⟨passes_call tk fun _ _ _ _ h => h, passes_of (K := fun e s'' => L2.CX P w outer H s E e s'') rfl, tk⟩
/-- a def of the program, called by its name -/
structure Cal [Nm] (O : Ob) (P : Program) (w : World) (K : PySem.W.Frag) (mg : Str → Option Value) (base : Heap) (x : Str) (k : Nat) (ps : List Str) (F : List D → WD D) : Prop where
  ex : ∃ (f : Addr) (fd : FuncData), mg x = some (.ref f) ∧ PySem.W.keepIn K (.ref f) = true ∧ Binds K fd ps [] ∧ FnOk P w K mg base (L2.CX P w) k f fd ps (spD O K mg F ps.length) ∧ ∃ oc od osl, K.lookup f = some ⟨oc, od, .func fd, osl⟩
theorem fun_lk {K : PySem.W.Frag} {x q : Str} {params : Arguments} {body : List Stmt} {scope : Scope} {dvs : List V} {kws : List (Str × V)} {f : Addr} {fd : FuncData} (F : FunD K x q params body scope dvs kws f fd) : ∃ oc od osl, K.lookup f = some ⟨oc, od, .func fd, osl⟩ := by
  obtain ⟨oc, od, dV, kV, doc, pm, an, cdv, ct, osl, e, lk, _⟩ := F.ex
  exact ⟨oc, od, osl, lk⟩
abbrev FnT (K : PySem.W.Frag) (mg : Str → Option Value) (x : Str) (st : Stmt) : Prop := ∃ (f : Addr) (fd : FuncData), mg x = some (.ref f) ∧ FunD K x x (defArgs st) (defBody st) (defScope st) [] [] f fd
def Bn (x : Str) (st : Stmt) (ps : List Str) : Prop := ∀ (kV doc pm : Value) (an : Option Addr) (cdv ct : Value) (us : List Value), us.length = ps.length → bindArgs (PySem.W.fnOf x x (defArgs st) (defBody st) (defScope st) .none kV doc pm an cdv ct) ⟨us, []⟩ = pure (ps.zip us)
section
variable [Nm] {O : Ob} {P : Program} {w : World} {K : PySem.W.Frag} {mg : Str → Option Value} {base : Heap} {X : Cx} {E : XK}
theorem cal_of {x : Str} {st : Stmt} {N ps : List Str} {k : Nat} {F : FS} (h : FnT K mg x st) (S : FnScope N ps (defScope st)) (hb : Bn x st ps)
    (hbody : ∀ (f : Addr) (cdv : Value) (A : Around) (outer : List PySem.Env) (s : Shared) (H : Hp) (E : XK), Room k (A.deeper (PyProof.Rows.envOfC x (defScope st) s.heap.objs.size f cdv)) → Air (cxOf (L2.CX P w) P w K mg base N x (defScope st) f cdv A outer s H E) E → DSs O (cxOf (L2.CX P w) P w K mg base N x (defScope st) f cdv A outer s H E) E (defBody st) F) :
    Cal O P w K mg base x (k + 1) ps (fn0 N.length F) := by
  obtain ⟨f, fd, hm, hF⟩ := h
  refine ⟨f, fd, hm, hF.kp, hF.bindsN hb, ?_, fun_lk hF⟩
  refine hF.ok S (fun vs H Q E h => ?_) (fun cdv A outer s H vs Q E hr h => ?_)
  · obtain ⟨P, ds, Qd, Ed, _, h1, h2, _⟩ := h
    rw [h1.length, h2]
  · obtain ⟨P', ds, Qd, Ed, hd, h1, h2, hf, hQ, hE⟩ := h
    obtain ⟨t, t1, t2⟩ := hbody f cdv A outer s H E hr air_cx
    exact ⟨t, t1, t2 H P' _ _ H _ { nx := fun _ => Qd .none, rt := Qd, ex := Ed } _ hd (start_rg h1) hf ⟨fun Γ σ H' own r q => hQ _ _ H' r.same .non q, fun v d H' s h q => hQ v d H' s h q, fun _ _ _ _ _ q => q.elim, fun _ _ _ _ _ q => q.elim, hE⟩⟩
theorem Cal.mono {x : Str} {j k : Nat} {ps : List Str} {F : List D → WD D} (h : Cal O P w K mg base x j ps F) (hj : j ≤ k) : Cal O P w K mg base x k ps F := by
  obtain ⟨f, fd, a, b, c, d, l⟩ := h
  exact ⟨f, fd, a, b, c, d.mono hj, l⟩
/-- the table of a def in which lambdas stand -/
def TabF (K : PySem.W.Frag) (mg : Str → Option Value) (base : Heap) (x : Str) : Prop := ∀ (f : Addr) (oc : Value) (od : Option Addr) (fd : FuncData) (osl : Array (Option Value)), mg x = some (.ref f) → K.lookup f = some ⟨oc, od, .func fd, osl⟩ → ∃ c Q, fd.code = .ref c ∧ LamX.TabB base mg c Q ∧ (Q, x ++ ".<locals>." ++ "<lambda>") ∈ Nm.tabs
def TabC (mg : Str → Option Value) (base : Heap) (x : Str) (cdv : Value) : Prop := ∃ c Q, cdv = .ref c ∧ LamX.TabB base mg c Q ∧ (Q, x ++ ".<locals>." ++ "<lambda>") ∈ Nm.tabs
theorem okC {x qual : Str} {params : Arguments} {body : List Stmt} {scope : Scope} {dvs : List V} {kws : List (Str × V)} {f : Addr} {fd : FuncData} {CX : CXT} {N ps : List Str} {k : Nat} {sp : Sp} (F : FunD K x qual params body scope dvs kws f fd) (S : FnScope N ps scope) (len : ∀ vs H Q E, sp vs H Q E → vs.length = ps.length)
    (hbody : ∀ (oc : Value) (od : Option Addr) (osl : Array (Option Value)) (cdv : Value) (A : Around) (outer : List PySem.Env) (s : Shared) (H : Hp) (vs : List V) (Q : VK) (E : XK), K.lookup f = some ⟨oc, od, .func fd, osl⟩ → fd.code = cdv → Room k (A.deeper (PyProof.Rows.envOfC qual scope s.heap.objs.size f cdv)) → sp vs H Q E →
      ∃ t, PSs (cxOf CX P w K mg base N qual scope f cdv A outer s H E) body t ∧ t { nx := fun _ H' => Q .non H', rt := Q } (L2.start N vs) H) : FnOk P w K mg base CX (k + 1) f fd ps sp := by
  obtain ⟨oc, od, dV, kV, doc, pm, an, cdv, ct, osl, rfl, lk, hcd, _, _⟩ := F.ex
  exact fn_of lk hcd S len fun A outer s H vs Q E hr hsp => hbody oc od osl cdv A outer s H vs Q E lk rfl hr hsp
/-- a call by name -/
theorem de_fn {x : Str} {k : Nat} {ps : List Str} {F : List D → WD D} {e : Expr} {es : List Expr} {fa : Rho → WD (List D)} {p pos : Pos} (C : Cal O X.prog X.w X.K X.mg X.base x k ps F) {j : Nat} (hr : Room j X.A) (hx : Passes (L2.CX X.prog X.w) X E) (ha : DA O X E (e :: es) fa) (hk : k ≤ j := by decide) (hg : Gl X x := by rfl) (hl : ps.length = (e :: es).length := by rfl)
    (hdb : (x == ("__debug__" : Str)) = false := by decide) (he : starEach (e :: es) X.env = (false, eval e X.env) :: starEach es X.env := by rfl) (hpl : (backTo pos (starEach es X.env)).any (·.1) = false := by rfl) :
    DE O X E (.Call (.Name x p) (e :: es) [] pos) (eCb F fa) := by
  obtain ⟨f, fd, a, b, c, d, _⟩ := C
  exact de_call d (hr.mono hk) hg a b c hx ha hl hdb he hpl
/-- f() -/
theorem de_fn0 {x : Str} {k : Nat} {F : List D → WD D} {p pos : Pos} (C : Cal O X.prog X.w X.K X.mg X.base x k [] F) {j : Nat} (hr : Room j X.A) (hx : Passes (L2.CX X.prog X.w) X E) (hk : k ≤ j := by decide) (hg : Gl X x := by rfl) (hdb : (x == ("__debug__" : Str)) = false := by decide) :
    DE O X E (.Call (.Name x p) [] [] pos) (fun _ Q Ed => F [] Q Ed) := by
  obtain ⟨f, fd, a, b, c, d, _⟩ := C
  refine ⟨_, pe_call0 d (hr.mono hk) hg a b c (.nil : Vals [] []) hx hdb, fun P ρ σ H Qd Ed Q hd hr hf hQ hE => ?_⟩
  exact ⟨P, [], Qd, Ed, hd, .nil, rfl, hf, hQ, fun c a H' s m z => hE c a H' s m z⟩
theorem u65 {k : Nat} {A : Around} (r : Room k A) : A.units + 65 < cLine := by
  have := r.un
  omega
theorem dt_chain {a b c : Expr} {fa fb fc : Rho → WD D} {pos : Pos} {op op' : CmpOp} {r r' : R2} {g g' : D → D → WD D} (ho : OpR X (compareOp op) r) (ho' : OpR X (compareOp op') r') (hg : OpD O X r g) (hg' : OpD O X r' g') (ha : DE O X E a fa) (hb : DE O X E b fb) (hc : DE O X E c fc)
    (hm : lastMarks [op, op'] [b, c] = false := by with_unfolding_all rfl) : DT O X E (.Compare a [op, op'] [b, c] pos) (tB1 (eChain g g' fa fb fc)) := by
  obtain ⟨ta, a1, a2⟩ := ha
  obtain ⟨tb, b1, b2⟩ := hb
  obtain ⟨tc, c1, c2⟩ := hc
  refine ⟨_, pt_chain ho ho' a1 b1 c1 hm, fun P ρ σ H Qd Ed Q hd hr hf hQ hE => a2 P ρ σ H _ Ed _ hd hr hf (fun x d H1 s1 h1 q1 => b2 P ρ σ H1 _ Ed _ (hd.same s1) (hr.same s1) q1 (fun y e H2 s2 h2 q2 =>
    hg P H2 x y d e _ Ed _ ((hd.same s1).same s2) (h1.same s2) h2 q2 fun z k H3 s3 h3 q3 => ?_) (hE.same s1)) hE⟩
  obtain ⟨k, e, q⟩ := bool_of h3 q3
  refine ⟨k, e, ?_⟩
  cases k with
  | true => exact c2 P ρ σ H3 _ Ed _ (((hd.same s1).same s2).same s3) (((hr.same s1).same s2).same s3) q (fun w d' H4 s4 h4 q4 => hg' P H4 y w _ d' _ Ed _ ((((hd.same s1).same s2).same s3).same s4) ((h2.same s3).same s4) h4 q4
      fun v d'' H5 s5 h5 q5 => by
        obtain ⟨b, eb, qb⟩ := bool_of h5 q5
        exact ⟨b, eb, hQ b H5 ((((s1.trans s2).trans s3).trans s4).trans s5) qb⟩) (((hE.same s1).same s2).same s3)
  | false => exact ⟨false, rfl, hQ _ H3 ((s1.trans s2).trans s3) q⟩
end
end DL
namespace DL
open PySem PySem.Spec L2
def keyOf : D → Option Key
  | .int i => some (.inl i)
  | .str x => some (.inr x)
  | _ => none
theorem keyOf_kD (k : Key) : keyOf (kD k) = some k := by cases k <;> rfl
def lookG {β : Type} (l : List (Key × β)) (k : Key) : Option β := (l.find? fun kv => decide (kv.1 = k)).map (·.2)
def putG {β : Type} (l : List (Key × β)) (k : Key) (v : β) : List (Key × β) := if (l.any fun kv => decide (kv.1 = k)) = true then l.map (fun kv => if kv.1 = k then (kv.1, v) else kv) else l ++ [(k, v)]
def mergeG {β : Type} (l more : List (Key × β)) : List (Key × β) := more.foldl (fun acc kv => putG acc kv.1 kv.2) l
section
variable [Nm] {O : Ob} {X : Cx} {E : XK} {K : PySem.W.Frag} {H H' : Hp} {P : Addr → Prop}
/-- the same keys, values for data -/
inductive Kds (O : Ob) (K : PySem.W.Frag) (H : Hp) (P : Addr → Prop) : List (Key × V) → List (Key × D) → Prop
  | nil : Kds O K H P [] []
  | cons {k : Key} {v : V} {d : D} {a : List (Key × V)} {b : List (Key × D)} : Dv O K H P v d → Kds O K H P a b → Kds O K H P ((k, v) :: a) ((k, d) :: b)
theorem Kds.of : ∀ {a : List (Key × V)} {b : List (Key × D)}, a.map (·.1) = b.map (·.1) → DvAll O K H P (a.map (·.2)) (b.map (·.2)) → Kds O K H P a b
  | [], [], _, _ => .nil
  | [], _ :: _, e, _ => by cases e
  | _ :: _, [], e, _ => by cases e
  | (k, v) :: a, (k', d) :: b, e, h => by
    injection e with e1 e2
    cases e1
    cases h with
    | cons h1 h2 => exact .cons h1 (Kds.of e2 h2)
theorem Kds.to : ∀ {a : List (Key × V)} {b : List (Key × D)}, Kds O K H P a b → a.map (·.1) = b.map (·.1) ∧ DvAll O K H P (a.map (·.2)) (b.map (·.2))
  | _, _, .nil => ⟨rfl, .nil⟩
  | _, _, .cons h r => ⟨by simp [r.to.1], .cons h r.to.2⟩
theorem Kds.mapD {P' : Addr → Prop} (f : ∀ {v d}, Dv O K H P v d → Dv O K H' P' v d) : ∀ {a : List (Key × V)} {b : List (Key × D)}, Kds O K H P a b → Kds O K H' P' a b
  | _, _, .nil => .nil
  | _, _, .cons h r => .cons (f h) (r.mapD f)
theorem Kds.same {a : List (Key × V)} {b : List (Key × D)} (h : Kds O K H P a b) (s : Same H H') : Kds O K H' P a b := h.mapD fun r => r.same s
theorem Kds.length : ∀ {a : List (Key × V)} {b : List (Key × D)}, Kds O K H P a b → a.length = b.length
  | _, _, .nil => rfl
  | _, _, .cons _ r => congrArg (· + 1) r.length
theorem Kds.look {k : Key} : ∀ {a : List (Key × V)} {b : List (Key × D)} {d : D}, Kds O K H P a b → lookG b k = some d → ∃ v, valV a k = some v ∧ Dv O K H P v d
  | _, _, _, .nil, e => by cases e
  | (j, v) :: a, (_, d') :: b, d, .cons h r, e => by
    by_cases q : j = k
    · subst q
      have e1 : lookG ((j, d') :: b) j = some d' := by simp [lookG, List.find?_cons]
      rw [e1] at e
      cases e
      exact ⟨v, valV_pos rfl, h⟩
    · have e1 : lookG ((j, d') :: b) k = lookG b k := by simp [lookG, List.find?_cons, q]
      rw [e1] at e
      obtain ⟨w, e2, h2⟩ := r.look e
      exact ⟨w, by rw [valV_neg (p := (j, v)) q]; exact e2, h2⟩
theorem Kds.none {k : Key} : ∀ {a : List (Key × V)} {b : List (Key × D)}, Kds O K H P a b → lookG b k = none → valV a k = none
  | _, _, .nil, _ => rfl
  | (j, v) :: a, (_, d') :: b, .cons h r, e => by
    by_cases q : j = k
    · subst q
      simp [lookG, List.find?_cons] at e
    · have e1 : lookG ((j, d') :: b) k = lookG b k := by simp [lookG, List.find?_cons, q]
      rw [e1] at e
      rw [valV_neg (p := (j, v)) q]
      exact r.none e
theorem Kds.any {k : Key} : ∀ {a : List (Key × V)} {b : List (Key × D)}, Kds O K H P a b → (a.any fun kv => decide (kv.1 = k)) = (b.any fun kv => decide (kv.1 = k))
  | _, _, .nil => rfl
  | _, _, .cons _ r => by rw [List.any_cons, List.any_cons, r.any]
theorem Kds.mapPut {k : Key} {w : V} {e : D} (hw : Dv O K H P w e) : ∀ {a : List (Key × V)} {b : List (Key × D)}, Kds O K H P a b → Kds O K H P (a.map fun kv => if kv.1 = k then (kv.1, w) else kv) (b.map fun kv => if kv.1 = k then (kv.1, e) else kv)
  | _, _, .nil => .nil
  | (j, v) :: a, (_, d) :: b, .cons h r => by
    rw [List.map_cons, List.map_cons]
    by_cases q : j = k
    · rw [if_pos q, if_pos q]
      exact .cons hw (r.mapPut hw)
    · rw [if_neg q, if_neg q]
      exact .cons h (r.mapPut hw)
theorem Kds.append : ∀ {a a' : List (Key × V)} {b b' : List (Key × D)}, Kds O K H P a b → Kds O K H P a' b' → Kds O K H P (a ++ a') (b ++ b')
  | _, _, _, _, .nil, h => h
  | _, _, _, _, .cons h r, k => .cons h (r.append k)
theorem Kds.put {k : Key} {w : V} {e : D} {a : List (Key × V)} {b : List (Key × D)} (h : Kds O K H P a b) (hw : Dv O K H P w e) : Kds O K H P (putG a k w) (putG b k e) := by
  unfold putG
  rw [h.any]
  split
  · exact h.mapPut hw
  · exact h.append (.cons hw .nil)
theorem Kds.merge : ∀ {m : List (Key × V)} {n : List (Key × D)} {a : List (Key × V)} {b : List (Key × D)}, Kds O K H P m n → Kds O K H P a b → Kds O K H P (mergeG a m) (mergeG b n)
  | _, _, _, _, .nil, h => h
  | (k, v) :: m, (_, d) :: n, a, b, .cons h r, q => by
    have := Kds.merge (a := putG a k v) (b := putG b k d) r (q.put h)
    exact this
/-- d[k] -/
def dlook (l : List (D × D)) (k : Key) : Option D := (l.find? fun p => decide (keyOf p.1 = some k)).map (·.2)
theorem dlook_E (ds : List (Key × D)) (k : Key) : dlook (ds.map fun p => (kD p.1, p.2)) k = lookG ds k := by
  induction ds with
  | nil => rfl
  | cons p r ih =>
    unfold dlook lookG at *
    rw [List.map_cons, List.find?_cons, List.find?_cons]
    simp only [keyOf_kD, Option.some.injEq]
    by_cases q : p.1 = k
    · simp [q]
    · simp only [q, decide_false]
      exact ih
theorem dlook_Z (ds : List (Key × D)) (k : Key) : dlook ((.bool true, .none) :: ds.map fun p => (kD p.1, p.2)) k = lookG ds k := by
  rw [← dlook_E]
  unfold dlook
  rw [List.find?_cons_of_neg (by simp [keyOf])]
def dgetD : D → D → WD D
  | .dict l, k => fun Q _ => orStuck (keyOf k) fun k => orStuck (dlook l k) Q
  | _, _ => fun _ _ => False
theorem keyOf_ok {v : V} {d : D} {k : Key} (h : Dv O K H P v d) (e : keyOf d = some k) : v = kV k := by
  cases h with
  | int i => cases e; rfl
  | str x _ => cases e; rfl
  | dct => simp [dictE, keyOf] at e
  | dcz => simp [dictZ, keyOf] at e
  | _ => cases e
/-- no object of one's own stands for data with keys -/
structure NoObj (O : Ob) : Prop where
  no : ∀ {K H P v ds}, O.ro K H P v ds → ∀ p ∈ ds, keyOf p.1 = none
  nz : ∀ {K H P v ds}, ¬ O.ro K H P v ((.bool true, .none) :: ds)
  nf : ∀ {K H P v x ds}, ¬ O.ro K H P v ((.bool false, x) :: ds)
theorem no_look {l : List (D × D)} {k : Key} (h : ∀ p ∈ l, keyOf p.1 = none) : dlook l k = none := by
  unfold dlook
  rw [List.find?_eq_none.mpr fun p hp => by simp [h p hp]]
  rfl
theorem nd_keys {w : World} {o : Obj} {L : List (D × Addr × Value)} {ds : List (D × D)} (h : NdOk w o L) (e : L.map (·.1) = ds.map (·.1)) (b : Bool) (z : D) : ∀ p ∈ ((PyData.bool b, z) :: ds : List (D × D)), keyOf p.1 = none := fun p hp => by
  rcases List.mem_cons.mp hp with q | q
  · rw [q]
    rfl
  · have m : p.1 ∈ L.map (·.1) := by
      rw [e]
      exact List.mem_map.mpr ⟨p, q, rfl⟩
    obtain ⟨x, hx, e2⟩ := List.mem_map.mp m
    obtain ⟨xs, e3⟩ := (h.ok x hx).shp
    rw [← e2, e3]
    rfl
theorem de_dget {a b : Expr} {fa fb : Rho → WD D} {pos : Pos} (hO : NoObj O) (hu : X.A.units + 65 < cLine) (ha : DE O X E a fa) (hb : DE O X E b fb) (hs : NoSl b) : DE O X E (.Subscript a b pos) (eOp dgetD fa fb) := by
  obtain ⟨ta, a1, a2⟩ := ha
  obtain ⟨tb, b1, b2⟩ := hb
  refine ⟨_, pe_dget (by omega) a1 b1 hs, fun P ρ σ H Qd Ed Q hd hr hf hQ hE => a2 P ρ σ H _ Ed _ hd hr hf (fun x d H1 s1 h1 q1 => b2 P ρ σ H1 _ Ed _ (hd.same s1) (hr.same s1) q1 (fun y e H2 s2 h2 q2 => ?_) (hE.same s1)) hE⟩
  have h1 := h1.same s2
  cases h1 with
  | dct e1 n1 k1 r1 =>
    obtain ⟨k, ek, q⟩ := of_orStuck q2
    obtain ⟨d, ed, q⟩ := of_orStuck q
    rw [dlook_E] at ed
    obtain ⟨v, ev, hv⟩ := (Kds.of k1 r1).look ed
    have := keyOf_ok h2 ek
    subst this
    exact ⟨_, v, rfl, .inl ⟨_, k, .inl e1, rfl, ev.symm⟩, hQ v d H2 (s1.trans s2) hv q⟩
  | dcz e1 k1 r1 =>
    obtain ⟨k, ek, q⟩ := of_orStuck q2
    obtain ⟨d, ed, q⟩ := of_orStuck q
    rw [dlook_Z] at ed
    obtain ⟨v, ev, hv⟩ := (Kds.of k1 r1).look ed
    have := keyOf_ok h2 ek
    subst this
    exact ⟨_, v, rfl, .inl ⟨_, k, .inr ⟨_, e1⟩, rfl, ev.symm⟩, hQ v d H2 (s1.trans s2) hv q⟩
  | obj h =>
    obtain ⟨k, ek, q⟩ := of_orStuck q2
    obtain ⟨d, ed, q⟩ := of_orStuck q
    rw [no_look (hO.no h)] at ed
    cases ed
  | nd _ _ _ h e =>
    obtain ⟨k, ek, q⟩ := of_orStuck q2
    obtain ⟨d, ed, q⟩ := of_orStuck q
    rw [no_look (nd_keys h e _ _)] at ed
    cases ed
  | ndz _ _ h e =>
    obtain ⟨k, ek, q⟩ := of_orStuck q2
    obtain ⟨d, ed, q⟩ := of_orStuck q
    rw [no_look (nd_keys h e _ _)] at ed
    cases ed
  | _ => exact q2.elim
/-- {k: v, ..} -/
def DPs (O : Ob) (X : Cx) (E : XK) (pos : Pos) (ks : List (Option Expr)) (vs : List Expr) (f : Rho → WD (List (Key × D))) : Prop := ∃ t, PPs X pos ks vs t ∧ ∀ (P : Addr → Prop) (ρ : Rho) (σ : L2.St) (H : Hp) (Qd : List (Key × D) → Prop) (Ed : Str → Prop) (Q : List (V × V) → Hp → Prop),
  Dom H P → Rs O X.K P ρ σ H → f ρ Qd Ed → (∀ l ds H', Same H H' → Kds O X.K H' P l ds → ds.length = vs.length → Qd ds → Q (l.map fun kv => (kV kv.1, kv.2)) H') → XOk X E H Ed → tPairs t σ H Q
def pNil : Rho → WD (List (Key × D)) := fun _ Q _ => Q []
def pCons (f g : Rho → WD D) (r : Rho → WD (List (Key × D))) : Rho → WD (List (Key × D)) := fun ρ Q Ed => f ρ (fun k => orStuck (keyOf k) fun k => g ρ (fun d => r ρ (fun ds => Q ((k, d) :: ds)) Ed) Ed) Ed
theorem dps_nil {pos : Pos} : DPs O X E pos [] [] pNil := ⟨_, pps_nil, fun P ρ σ H Qd Ed Q hd hr hf hQ hE => hQ [] [] H (Same.refl H) .nil rfl hf⟩
theorem dps_cons {pos : Pos} {k v : Expr} {ks : List (Option Expr)} {vs : List Expr} {f g : Rho → WD D} {r : Rho → WD (List (Key × D))} (hk : DE O X E k f) (hv : DE O X E v g) (hr : DPs O X E pos ks vs r) : DPs O X E pos (some k :: ks) (v :: vs) (pCons f g r) := by
  obtain ⟨tk, k1, k2⟩ := hk
  obtain ⟨tv, v1, v2⟩ := hv
  obtain ⟨t, t1, t2⟩ := hr
  refine ⟨_, pps_cons k1 v1 t1, fun P ρ σ H Qd Ed Q hd hr hf hQ hE => k2 P ρ σ H _ Ed _ hd hr hf (fun x d H1 s1 h1 q1 => ?_) hE⟩
  obtain ⟨kk, ek, q1⟩ := of_orStuck q1
  have := keyOf_ok h1 ek
  subst this
  refine v2 P ρ σ H1 _ Ed _ (hd.same s1) (hr.same s1) q1 (fun y e H2 s2 h2 q2 => t2 P ρ σ H2 _ Ed _ ((hd.same s1).same s2) ((hr.same s1).same s2) q2 (fun l ds H3 s3 h3 l3 q3 => ?_) ((hE.same s1).same s2)) (hE.same s1)
  exact hQ ((kk, y) :: l) _ H3 ((s1.trans s2).trans s3) (.cons (h2.same s3) h3) (congrArg (· + 1) l3) q3
/-- a new dict -/
def DD (O : Ob) (X : Cx) (E : XK) (e : Expr) (f : Rho → WD (List (Key × D))) : Prop := ∃ t, PE X e t ∧ ∀ (P : Addr → Prop) (ρ : Rho) (σ : L2.St) (H : Hp) (Qd : List (Key × D) → Prop) (Ed : Str → Prop) (Q : VK),
  Dom H P → Rs O X.K P ρ σ H → f ρ Qd Ed → (∀ p l ds H', Same H H' → Nn H p → H' p = some (.dK l) → Kds O X.K H' (fun a => P a ∨ a = p) l ds → Qd ds → Q (.ref p) H') → XOk X E H Ed → t σ H Q
def eOfD (f : Rho → WD (List (Key × D))) : Rho → WD D := fun ρ Q Ed => f ρ (fun ds => Q (dictE ds)) Ed
theorem DD.de {e : Expr} {f : Rho → WD (List (Key × D))} (h : DD O X E e f) : DE O X E e (eOfD f) := by
  obtain ⟨t, h1, h2⟩ := h
  exact ⟨t, h1, fun P ρ σ H Qd Ed Q hd hr hf hQ hE => h2 P ρ σ H _ Ed Q hd hr hf (fun p l ds H' s n e r q => hQ _ _ H' s (.dct e (hd.new n) r.to.1 ((r.mapD fun h => h.less fun _ z => .inl z).to.2)) q) hE⟩
def dDisp (f : Rho → WD (List (Key × D))) : Rho → WD (List (Key × D)) := fun ρ Q Ed => f ρ (fun ds => Q (mergeG [] ds)) Ed
theorem dd_disp {pos : Pos} {ks : List (Option Expr)} {vs : List Expr} {f : Rho → WD (List (Key × D))} (h : DPs O X E pos ks vs f) (hall : ks.all (·.isSome) = true := by rfl) (hl : ks.length = vs.length := by rfl) (h0 : ks ≠ [] := by exact fun z => nomatch z) (h15 : ks.length ≤ 15 := by decide) : DD O X E (.Dict ks vs pos) (dDisp f) := by
  obtain ⟨t, t1, t2⟩ := h
  refine ⟨_, pe_disp t1 hall hl h0 h15, fun P ρ σ H Qd Ed Q hd hr hf hQ hE => fun p np => ?_⟩
  have s0 : Same H (upd H p (.dK [])) := same_new np
  have hd0 : Dom (upd H p (.dK [])) (fun a => P a ∨ a = p) := ⟨fun a z => by
    rcases z with z | z
    · exact (hd.same s0).has a z
    · exact ⟨_, by rw [z]; exact upd_same, mb_dk⟩, (hd.same s0).tab⟩
  have hp : ∀ a, (P a ∨ a = p) → P a ∨ Nn H a := fun a z => z.imp id fun e => by rw [e]; exact nn np
  refine t2 (fun a => P a ∨ a = p) ρ σ _ _ Ed _ hd0 (hr.kf hp (.of s0) hd) hf (fun l ds H2 s2 h2 l2 q2 => ?_) (hE.same s0)
  have e2 : H2 p = some (.dK []) := s2.all _ _ upd_same no_dk
  refine ⟨e2, l, rfl, by rw [h2.length, l2, ← hl]; exact h15, ?_⟩
  have s02 : Same H (upd H2 p (.dK (mergeK [] l))) := (s0.trans s2).upd (nn np) e2 mb_dk
  refine hQ p _ (mergeG [] ds) _ s02 (nn np) upd_same ?_ q2
  have h3 := Kds.merge h2 (a := []) (b := []) .nil
  refine h3.mapD fun h => h.keep (.upd e2 mb_dk) (fun a o e m n => ?_) fun _ _ _ _ q => q
  · have : a ≠ p := fun z => n (.inr z)
    rw [upd_ne this]
    exact e
variable {pos : Pos} {e : Expr}
def sSetD (i : Nat) (f : Rho → WD (List (Key × D))) : FS := fun Γ k => f (clean Γ) (fun ds => k.nx (Γ.set i (some (.own (.dct ds))))) k.ex
theorem ds_setD (i : Nat) {x : Str} {pos' : Pos} {f : Rho → WD (List (Key × D))} (hN : X.N.Nodup) (h : DD O X E e f) (hi : X.N[i]? = some x := by rfl) (hx : Loc X.env.scope x := by first | exact Or.inl rfl | exact Or.inr rfl) (hs : swapsWith e (some (.Name x pos')) pos.line X.env = pure false := by rfl)
    (hf : X.fn x = true ∨ X.env.scope.names.lookup x = some .local := by first | exact .inl rfl | exact .inr rfl | assumption) : DS O X E (.Assign [.Name x pos'] e pos) (sSetD i f) := by
  obtain ⟨t, h1, h2⟩ := h
  exact ⟨_, ps_set (i := i) hN hi hx h1 hs hf, fun H0 P0 Γ σ H own k D hd r hf l => h2 _ _ σ H _ _ _ (r.dom hd) r.rs hf (fun p vs ds H' s n e h q => l.nx _ _ _ _ (own_new (c := .dct ds) r hd s n ⟨vs, e, h.to.1, h.to.2⟩) q) (l.exH r)⟩
def ownDAt (Γ : Env) (i : Nat) (Q : List (Key × D) → Prop) : Prop := match Γ[i]? with
  | some (some (.own (.dct ds))) => Q ds
  | _ => False
theorem of_ownDAt {Γ : Env} {i : Nat} {Q : List (Key × D) → Prop} (h : ownDAt Γ i Q) : ∃ ds, Γ[i]? = some (some (.own (.dct ds))) ∧ Q ds := by
  unfold ownDAt at h
  split at h
  · exact ⟨_, by assumption, h⟩
  · exact h.elim
/-- d.update(e), e a new dict -/
def rUpd : V → List V → Hp → VK → Prop := fun x vs H Q => ∃ d b kvs more, x = .ref d ∧ vs = [.ref b] ∧ H d = some (.dK kvs) ∧ H b = some (.dK more) ∧ d ≠ b ∧ kvs.length + more.length ≤ sizeLine ∧ Q .non (upd H d (.dK (mergeK kvs more)))
theorem length_merge : ∀ (more kvs : List (Key × V)), (mergeK kvs more).length ≤ kvs.length + more.length
  | [], kvs => Nat.le_refl _
  | (k, v) :: r, kvs => by
    have h1 := length_merge r (putK kvs k v)
    have h2 := length_putK kvs k v
    show (mergeK (putK kvs k v) r).length ≤ _
    rw [List.length_cons]
    omega
theorem mt_update : MtR X "dict.update" rUpd := by
  intro pins s σ H x xs v us Q I rx rxs h
  obtain ⟨d, b, kvs, more, rfl, rfl, e1, e2, ne, hl, q⟩ := h
  cases rx
  cases rxs with
  | cons ry rt =>
    cases rt
    cases ry
    obtain ⟨z, hd, vs, rel, dd⟩ := dk_of I.hok e1
    obtain ⟨z2, hd2, ws, rel2, dd2⟩ := dk_of I.hok e2
    refine call_meetsIn PySem.F.slot_dict_update dd.typeIs PySem.F.entry_dict_update (PySem.F.args_dict_update_2 _ _) (meets_dict_update (mixKind X.prog X.w) d b ne hd2) ⟨vs, ws, dd, dd2, by rw [← rel.length, ← rel2.length]; exact hl, fun h' hmm _ hs => ?_⟩
    have he : ∃ q, h'.get? d = some q := let ⟨q, _, _, hq, _⟩ := hmm; ⟨q, hq⟩
    refine ⟨.non, upd H d (.dK (mergeK kvs more)), d_write I (by rw [e1]; exact True.intro) hs he (dk_new (Nat.le_trans (length_merge more kvs) hl) hd (KV.merge rel2 rel) hmm), rfl, q⟩
def sUpd (i : Nat) (f : Rho → WD (List (Key × D))) : FS := fun Γ k => ownDAt Γ i fun ds => f (clean Γ) (fun es => ds.length + es.length ≤ 1000000 ∧ k.nx (Γ.set i (some (.own (.dct (mergeG ds es)))))) k.ex
theorem ds_upd (i : Nat) {x : Str} {apos cpos npos : Pos} {f : Rho → WD (List (Key × D))} (h : DD O X E e f) (hN : X.N[i]? = some x := by rfl) (hv : Vis X.env.scope x := by first | exact Or.inl rfl | exact Or.inr (Or.inl rfl) | exact Or.inr (Or.inr rfl)) (hdd : (x == ("__debug__" : Str)) = false := by decide) (hcd : (x == ("__classdict__" : Str)) = false := by decide)
    (hse : starEach [e] X.env = (false, eval e X.env) :: starEach [] X.env := by rfl)
    (hbase : attributeBase (.Name x npos) "update" X.env (eval (.Name x npos) X.env) = eval (.Name x npos) X.env := by rfl)
    (hfew : ((backTo cpos (starEach [e] X.env)).all (fun x => !x.1) && (backToKw cpos (keywordEach [] X.env)).all (fun x => x.1.isSome) && decide ([e].length + ([] : List Keyword).length + (if ([] : List Keyword).isEmpty then 0 else 1) < 30)) = true := by rfl)
    (hline : (apos.endLine == cpos.line) = true := by rfl) (hs : swapsWith (.Call (.Attribute (.Name x npos) "update" apos) [e] [] cpos) none pos.line X.env = pure false := by rfl) :
    DS O X E (.Expr (.Call (.Attribute (.Name x npos) "update" apos) [e] [] cpos) pos) (sUpd i f) := by
  obtain ⟨t, h1, h2⟩ := h
  have pA : PA X [e] (tCons t tNil) := pa_cons h1 pa_nil hse
  refine ⟨_, ps_expr (pe_bm PySem.F.plainAttrs_dict PySem.F.slot_dict_update PySem.F.type_dict_update mt_update (pe_var hN hv hdd hcd) pA hbase hfew hline hse) hs, fun H0 P0 Γ σ H own k D hd r hf l => ?_⟩
  obtain ⟨ds, eg, hf⟩ := of_ownDAt hf
  obtain ⟨p, eo, es, kvs, ep, ek, hv⟩ := r.ow i (.dct ds) eg
  refine ⟨.ref p, es, .inr (.inr (.inl ⟨rfl, .inl ⟨_, ep⟩⟩)), h2 _ _ σ H _ _ _ (r.dom hd) r.rs hf (fun b vs ds' H' s n e h q => ?_) (l.exH r)⟩
  have K1 := (Kds.of ek hv).same s
  have K2 := h.mapD fun h => h.less (P' := Pw P0 own) fun _ z => .inl z
  refine ⟨p, b, kvs, vs, rfl, rfl, s.all _ _ ep no_dk, e, fun z => ?_, ?_, l.nx _ _ _ _ ((r.step s).grow (c' := .dct _) eg eo es mb_dk fun f => ⟨_, upd_same, ?_, f ?_⟩) q.2⟩
  · subst z
    exact no_dk (n _ ep)
  · rw [K1.length, K2.length]
    exact Nat.le_trans q.1 (by decide)
  · exact (Kds.merge K2 K1).to.1
  · exact (Kds.merge K2 K1).to.2
end
end DL
namespace DL
open PySem PySem.Spec L2
def leD1 (a b : D) : Bool := PySem.W.dataLe false (fun d : D => d) a b
def sortL (ds : List D) : List D := ds.mergeSort leD1
section
variable [Nm] {O : Ob} {X : Cx}
/-- what sorted takes -/
def srtOk (ds : List D) : Prop := PySem.W.AllAlike ds ∧ PySem.W.Sortable ds ∧ ∀ d, d ∈ ds → d.canLay0 = true ∧ d.depth ≤ 60
def sortD : D → WD (List D)
  | .list ds => fun Q _ => srtOk ds ∧ Q (sortL ds)
  | .tuple ds => fun Q _ => srtOk ds ∧ Q (sortL ds)
  | _ => fun _ _ => False
end
end DL
namespace DL
open PySem PySem.Spec L2
mutual
inductive Pv (K : PySem.W.Frag) (H : Hp) : V → D → Prop
  | non : Pv K H .non .none
  | bl (b : Bool) : Pv K H (.bl b) (.bool b)
  | int (i : Int) : Pv K H (.int i) (.int i)
  | str (x : Str) : PyData.strOk x = true → Pv K H (.str x) (.str x)
  | tup {a : Addr} {xs : List V} {ds : List D} : TqT K H a xs → PvAll K H xs ds → Pv K H (.ref a) (.tuple ds)
inductive PvAll (K : PySem.W.Frag) (H : Hp) : List V → List D → Prop
  | nil : PvAll K H [] []
  | cons {v : V} {vs : List V} {d : D} {ds : List D} : Pv K H v d → PvAll K H vs ds → PvAll K H (v :: vs) (d :: ds)
end
section
variable {K : PySem.W.Frag} {H H' : Hp}
theorem TqT.frz {a : Addr} {xs : List V} (f : ∀ a o u, H a = some (.frz o u) → H' a = some (.frz o u)) (h : TqT K H a xs) : TqT K H' a xs := by
  rcases h with ⟨o, h1, h2⟩ | h
  · exact .inl ⟨o, h1, f a _ _ h2⟩
  · exact .inr h
mutual
theorem Pv.frz (f : ∀ a o u, H a = some (.frz o u) → H' a = some (.frz o u)) : ∀ {v : V} {d : D}, Pv K H v d → Pv K H' v d
  | _, _, .non => .non
  | _, _, .bl b => .bl b
  | _, _, .int i => .int i
  | _, _, .str x h => .str x h
  | _, _, .tup h r => .tup (h.frz f) (PvAll.frz f r)
theorem PvAll.frz (f : ∀ a o u, H a = some (.frz o u) → H' a = some (.frz o u)) : ∀ {vs : List V} {ds : List D}, PvAll K H vs ds → PvAll K H' vs ds
  | _, _, .nil => .nil
  | _, _, .cons h r => .cons (Pv.frz f h) (PvAll.frz f r)
end
mutual
theorem Pv.pure : ∀ {v : V} {d : D}, Pv K H v d → pureD d = true
  | _, _, .non => rfl
  | _, _, .bl _ => rfl
  | _, _, .int _ => rfl
  | _, _, .str _ _ => rfl
  | _, _, .tup _ r => PvAll.pure r
theorem PvAll.pure : ∀ {vs : List V} {ds : List D}, PvAll K H vs ds → pureD.pureAll ds = true
  | _, _, .nil => rfl
  | _, _, .cons h r => by
    show (pureD _ && pureD.pureAll _) = true
    rw [Pv.pure h, PvAll.pure r]
    rfl
end
mutual
theorem Pv.dv [Nm] {O : Ob} {P : Addr → Prop} : ∀ {v : V} {d : D}, Pv K H v d → Dv O K H P v d
  | _, _, .non => .non
  | _, _, .bl b => .bl b
  | _, _, .int i => .int i
  | _, _, .str x h => .str x h
  | _, _, .tup h r => .tup h (PvAll.dv r)
theorem PvAll.dv [Nm] {O : Ob} {P : Addr → Prop} : ∀ {vs : List V} {ds : List D}, PvAll K H vs ds → DvAll O K H P vs ds
  | _, _, .nil => .nil
  | _, _, .cons h r => .cons (Pv.dv h) (PvAll.dv r)
end
mutual
theorem Dv.pv [Nm] {O : Ob} {P : Addr → Prop} : ∀ {d : D} {v : V}, Dv O K H P v d → pureD d = true → Pv K H v d
  | _, _, .non, _ => .non
  | _, _, .bl b, _ => .bl b
  | _, _, .int i, _ => .int i
  | _, _, .str x h, _ => .str x h
  | _, _, .lst _ _ _, e => by simp [pureD] at e
  | _, _, .tup h r, e => .tup h (DvAll.pv r (by simpa [pureD] using e))
  | _, _, .dct _ _ _ _, e => by simp [dictE, pureD] at e
  | _, _, .dcz _ _ _, e => by simp [dictZ, pureD] at e
  | _, _, .nd _ _ _ _ _ _ _ _, e => by simp [pureD] at e
  | _, _, .ndz _ _ _ _ _ _ _, e => by simp [pureD] at e
  | _, _, .obj _, e => by simp [pureD] at e
theorem DvAll.pv [Nm] {O : Ob} {P : Addr → Prop} : ∀ {ds : List D} {vs : List V}, DvAll O K H P vs ds → pureD.pureAll ds = true → PvAll K H vs ds
  | _, _, .nil, _ => .nil
  | d :: ds, _, .cons h r, e => by
    have e' : pureD d = true ∧ pureD.pureAll ds = true := by simpa [pureD.pureAll] using e
    exact .cons (Dv.pv h e'.1) (DvAll.pv r e'.2)
end
theorem Nl.frz [Nm] (n : Nl H H') : ∀ a o u, H a = some (.frz o u) → H' a = some (.frz o u) := fun a _ _ e => n.all a _ e not_mb_frz no_frz
end
def machIs [Nm] (mg : Str → Option Value) (K : PySem.W.Frag) (H : Hp) (Pr : Addr → Prop) (v : V) (w : D) (ds : List D) : Prop := ∃ (a C dx m l : Addr) (vw : V) (xs : List V) (es : Array DictEntry) (i : Nat), v = .ref a ∧ mg "Machine" = some (.ref C) ∧
  H a = some (.ins C dx [("way", vw), ("deeds", .ref l), ("known", .ref m)]) ∧ Pv K H vw w ∧ H l = some (.lst xs) ∧ ¬ Pr l ∧ PvAll K H xs ds ∧ (m == sysModules) = false ∧ H m = some (MemoE m es i) ∧ Nm.mem H i es ∧ Nm.desc i = some (w, ds)
theorem not_mb_ins {C dx : Addr} {u v w : V} : ¬ Mb (.ins C dx [("way", u), ("deeds", v), ("known", w)]) := fun h => by
  rcases h with ⟨_, e⟩ | ⟨_, e⟩ | ⟨_, _, _, _, e, _⟩ | ⟨_, _, _, e, d⟩
  · cases e
  · cases e
  · cases e
  · cases e
    revert d
    show ¬ (dskF _ = true)
    unfold dskF
    simp only [List.map_cons, List.map_nil]
    decide +kernel
theorem machIs.keep [Nm] {mg : Str → Option Value} {K : PySem.W.Frag} {H H' : Hp} {Pr Pr' : Addr → Prop} {v : V} {w : D} {ds : List D} (n : Nl H H') (l : ∀ a o, H a = some o → Mb o → ¬ Pr a → H' a = some o) (p : ∀ a o, H a = some o → ¬ Sf o → ¬ Pr a → ¬ Pr' a) (h : machIs mg K H Pr v w ds) : machIs mg K H' Pr' v w ds := by
  obtain ⟨a, C, dx, m, ll, vw, xs, es, i, e, hC, h1, h2, h3, h4, h5, h6, h7, h8, h9⟩ := h
  obtain ⟨es', e7, k8⟩ := n.mem m es i h7
  exact ⟨a, C, dx, m, ll, vw, xs, es', i, e, hC, n.all _ _ h1 not_mb_ins no_ins, h2.frz n.frz, l _ _ h3 mb_lst h4, p _ _ h3 no_lst h4, h5.frz n.frz, h6, e7, k8 h8, h9⟩
inductive Fld where
  | val (d : D)
  | lst (xs : List D)
abbrev Fls := List (Str × Fld)
/-- the fields of an instance; Z: which lists may be a field's -/
inductive FlOk (K : PySem.W.Frag) (H : Hp) (Z : Str → Addr → Prop) : Fls → List (Str × V) → Prop
  | nil : FlOk K H Z [] []
  | val {f : Str} {v : V} {d : D} {fl : Fls} {fs : List (Str × V)} : Pv K H v d → FlOk K H Z fl fs → FlOk K H Z ((f, .val d) :: fl) ((f, v) :: fs)
  | lst {f : Str} {p : Addr} {vs : List V} {xs : List D} {fl : Fls} {fs : List (Str × V)} : H p = some (.lst vs) → Z f p → PvAll K H vs xs → FlOk K H Z fl fs → FlOk K H Z ((f, .lst xs) :: fl) ((f, .ref p) :: fs)
def fE : Str × Fld → D
  | (f, .val d) => .tuple [.str f, d]
  | (f, .lst xs) => .tuple [.str f, .none, .list xs]
abbrev idD (a : Addr) : D := .dict [(.none, .list [.int (a : Int)])]
abbrev objD (a : Addr) (c : Str) (fl : Fls) : D := .dict [(.none, .list [.int (a : Int), .str c, .list (fl.map fE)])]
theorem fE_inj {x y : Str × Fld} (e : fE x = fE y) : x = y := by
  obtain ⟨f, x⟩ := x
  obtain ⟨g, y⟩ := y
  cases x <;> cases y
  · simp only [fE, PyData.tuple.injEq, List.cons.injEq, PyData.str.injEq, and_true] at e
    rw [e.1, e.2]
  · simp [fE] at e
  · simp [fE] at e
  · simp only [fE, PyData.tuple.injEq, List.cons.injEq, PyData.str.injEq, PyData.list.injEq, and_true, true_and] at e
    rw [e.1, e.2]
theorem fE_map_inj : ∀ {x y : Fls}, x.map fE = y.map fE → x = y
  | [], [], _ => rfl
  | [], _ :: _, e => by cases e
  | _ :: _, [], e => by cases e
  | a :: x, b :: y, e => by
    rw [List.map_cons, List.map_cons] at e
    injection e with e1 e2
    rw [fE_inj e1, fE_map_inj e2]
def idIs (v : V) (i : Int) : Prop := ∃ a : Addr, v = .ref a ∧ i = (a : Int)
def objIs (mg : Str → Option Value) (K : PySem.W.Frag) (H : Hp) (Pr : Addr → Prop) (v : V) (i : Int) (c : Str) (fe : List D) : Prop := ∃ (a C dx : Addr) (fl : Fls) (fs : List (Str × V)), v = .ref a ∧ i = (a : Int) ∧ mg c = some (.ref C) ∧ H a = some (.ins C dx fs) ∧ ¬ Pr a ∧ dskF fs = true ∧ fe = fl.map fE ∧ FlOk K H (fun _ p => ¬ Pr p) fl fs
theorem FlOk.to {K : PySem.W.Frag} {H H' : Hp} {Z Z' : Str → Addr → Prop} (l : ∀ f p vs, H p = some (.lst vs) → Z f p → H' p = some (.lst vs) ∧ Z' f p) (f : ∀ a o u, H a = some (.frz o u) → H' a = some (.frz o u)) : ∀ {fl : Fls} {fs : List (Str × V)}, FlOk K H Z fl fs → FlOk K H' Z' fl fs
  | _, _, .nil => .nil
  | _, _, .val h r => .val (h.frz f) (r.to l f)
  | _, _, .lst h z a r => .lst (l _ _ _ h z).1 (l _ _ _ h z).2 (a.frz f) (r.to l f)
theorem objIs.keep [Nm] {mg : Str → Option Value} {K : PySem.W.Frag} {H H' : Hp} {Pr Pr' : Addr → Prop} {v : V} {i : Int} {c : Str} {fe : List D} (n : Nl H H') (l : ∀ a o, H a = some o → Mb o → ¬ Pr a → H' a = some o) (p : ∀ a o, H a = some o → ¬ Sf o → ¬ Pr a → ¬ Pr' a) (h : objIs mg K H Pr v i c fe) : objIs mg K H' Pr' v i c fe := by
  obtain ⟨a, C, dx, fl, fs, e, ei, hC, h1, h2, h3, h4, h5⟩ := h
  exact ⟨a, C, dx, fl, fs, e, ei, hC, l _ _ h1 (mb_ins h3) h2, p _ _ h1 no_ins h2, h3, h4, h5.to (fun f q vs e z => ⟨l _ _ e mb_lst z, p _ _ e no_lst z⟩) n.frz⟩
end DL
namespace DL
open PySem PySem.Spec L2
/-- a list that is never written -/
def SqS (K : PySem.W.Frag) (H : Hp) (a : Addr) (xs : List V) : Prop := (∃ o, H a = some (.frz o (.lst xs))) ∨
  ∃ (o : Obj) (its : Array Value) (n : Nat), K.lookup a = some o ∧ o.cls = .type "list" ∧ o.dict = none ∧ o.data = .seq its n ∧ its.size ≤ sizeLine ∧ Vals xs its.toList
theorem SqS.sq {K : PySem.W.Frag} {H : Hp} {a : Addr} {xs : List V} (h : SqS K H a xs) : SqL K H a xs := by
  rcases h with ⟨o, h⟩ | h
  · exact .inl (.inr ⟨o, h⟩)
  · exact .inr h
theorem SqS.of {K : PySem.W.Frag} {H : Hp} {a : Addr} {xs : List V} (hO : Only H) (h : SqL K H a xs) : SqS K H a xs := by
  rcases h with (h | ⟨o, h⟩) | h
  · rcases hO a with e | ⟨o, ys, e⟩
    · rw [h] at e
      cases e
    · rw [h] at e
      cases e
  · exact .inl ⟨o, h⟩
  · exact .inr h
theorem SqS.nl [Nm] {K : PySem.W.Frag} {H H' : Hp} {a : Addr} {xs : List V} (h : SqS K H a xs) (n : Nl H H') : SqS K H' a xs := by
  rcases h with ⟨o, h⟩ | h
  · exact .inl ⟨o, n.all _ _ h not_mb_frz no_frz⟩
  · exact .inr h
def goodRest (vs : List (Key × V)) : Prop := (vs.map (·.1)).Nodup ∧ ∀ kv ∈ vs, (∃ i : Int, kv.1 = .inl i ∧ 0 ≤ i ∧ i < 64) ∧ ∃ n, kv.2 = .int n
def townKvs (c : Int) (r : Addr) : List (Key × V) := [(.inr "count", .int c), (.inr "rests", .ref r)]
/-- what holds of a town; of its rests -/
def townP (P : Program) (w : World) (t r : Addr) : Heap → Prop := fun h => ∃ c : Int, 0 ≤ c ∧ ObjOk P w (fun _ => none) h t (.dK (townKvs c r))
def restP (P : Program) (w : World) (r : Addr) : Heap → Prop := fun h => ∃ vs, goodRest vs ∧ ObjOk P w (fun _ => none) h r (.dK vs)
theorem dk_any {P : Program} {w : World} {H H' : Hp} {h : Heap} {a : Addr} {kvs : List (Key × V)} (x : ObjOk P w H h a (.dK kvs)) : ObjOk P w H' h a (.dK kvs) := x
theorem dk_stay {P : Program} {w : World} {H : Hp} {h1 h2 : Heap} {a : Addr} {kvs : List (Key × V)} (x : ObjOk P w H h1 a (.dK kvs)) (e : ∀ o, h1.get? a = some o → h2.get? a = some o) : ObjOk P w H h2 a (.dK kvs) := by
  obtain ⟨z, y, vs, r, ob, es, ep, q, c⟩ := x
  exact ⟨z, y, vs, r, ob, es, ep, e _ q, c⟩
def sD : D := .dict [(.none, .int 0)]
def tD : D := .dict [(.none, .int 1)]
def scriptP (K : PySem.W.Frag) (H : Hp) (v : V) : Prop := ∃ (a : Addr) (ns : List Int), v = .ref a ∧ SqS K H a (ns.map V.int) ∧ ns.length ≤ 63
def townIs (P : Program) (w : World) (H : Hp) (Pr : Addr → Prop) (v : V) : Prop := ∃ t r, v = .ref t ∧ t ≠ r ∧ H t = some (.ext (townP P w t r)) ∧ H r = some (.ext (restP P w r)) ∧ ¬ Pr t ∧ ¬ Pr r
/-- an exception that is held, by its class's name -/
def ExcO (a : Addr) (cls : Value) (d : Option Addr) : HO := .ext fun h => ∃ oe vs, h.get? a = some oe ∧ Zc cls d oe ∧ oe.data = .fields vs
def excD (n : Str) : D := .dict [(.none, .str n)]
def excIs (mg : Str → Option Value) (H : Hp) (Pr : Addr → Prop) (v : V) (n : Str) : Prop := ∃ a C, v = .ref a ∧ mg n = some (.ref C) ∧ H a = some (ExcO a (.ref C) none) ∧ ¬ Pr a
theorem no_town {P : Program} {w : World} {t r : Addr} : ¬ Sf (.ext (townP P w t r)) := fun z => by
  rcases z with ⟨_, e⟩ | ⟨p, es, ix, e⟩
  · cases e
  · unfold MemoE at e
    injection e with e
    have y : (t == sysModules) = false := by
      have : townP P w t r (allO p (dOb es es.size)) := by
        rw [congrFun e (allO p (dOb es es.size))]
        exact memo_is p es ix (.inl rfl)
      obtain ⟨c, _, _, y, _⟩ := this
      exact y
    have key : ∀ c : Int, 0 ≤ c → es = #[⟨keyH w (.inr "count"), .str "count" 0, .int c 0⟩, ⟨keyH w (.inr "rests"), .str "rests" 0, .ref r⟩] := fun c hc => by
      refine (memo_es (p := p) (q := t) (i := ix) (ep := 2) ?_).1
      rw [← congrFun e (allO t _)]
      refine ⟨c, hc, (show 2 ≤ sizeLine by decide), y, [(.inr "count", .int c 0), (.inr "rests", .ref r)], .cons ⟨rfl, 0, rfl⟩ (.cons ⟨rfl, rfl⟩ .nil), _, _, 2, (memo_one t _ 2).1, ⟨rfl, rfl, rfl⟩, rfl, ?_, .cons (keyIs_str _ 0) rfl (.cons (keyIs_str _ 0) rfl .nil), (show [(.inr "count" : Key), .inr "rests"].Nodup by decide)⟩
      intro e he
      simp only [Array.mem_def, List.mem_cons, List.not_mem_nil, or_false] at he
      rcases he with rfl | rfl
      · exact ⟨.inr "count", keyIs_str _ 0, rfl⟩
      · exact ⟨.inr "rests", keyIs_str _ 0, rfl⟩
    have := (key 0 (by decide)).symm.trans (key 1 (by decide))
    simp at this
theorem no_rest {P : Program} {w : World} {r : Addr} : ¬ Sf (.ext (restP P w r)) := fun z => by
  rcases z with ⟨_, e⟩ | ⟨p, es, ix, e⟩
  · cases e
  · unfold MemoE at e
    injection e with e
    have y : (r == sysModules) = false := by
      have : restP P w r (allO p (dOb es es.size)) := by
        rw [congrFun e (allO p (dOb es es.size))]
        exact memo_is p es ix (.inl rfl)
      obtain ⟨c, _, _, y, _⟩ := this
      exact y
    have k0 : es = #[] := by
      refine (memo_es (p := p) (q := r) (i := ix) (ep := 0) ?_).1
      rw [← congrFun e (allO r _)]
      refine ⟨[], ⟨List.nodup_nil, fun kv h => by cases h⟩, by decide, y, [], .nil, _, _, 0, (memo_one r _ 0).1, ⟨rfl, rfl, rfl⟩, rfl, ?_, .nil, by decide⟩
      intro e he
      simp at he
    have k1 : es = #[⟨keyH w (.inl 0), .int 0 0, .int 0 0⟩] := by
      refine (memo_es (p := p) (q := r) (i := ix) (ep := 0) ?_).1
      rw [← congrFun e (allO r _)]
      refine ⟨[(.inl 0, .int 0)], ⟨by decide, fun kv h => ?_⟩, by decide, y, [(.inl 0, .int 0 0)], .cons ⟨rfl, 0, rfl⟩ .nil, _, _, 0, (memo_one r _ 0).1, ⟨rfl, rfl, rfl⟩, rfl, ?_, .cons (keyIs_int 0 0) rfl .nil, by decide⟩
      · rw [List.mem_singleton.mp h]
        exact ⟨⟨0, rfl, by decide, by decide⟩, 0, rfl⟩
      · intro e he
        simp only [Array.mem_def, List.mem_cons, List.not_mem_nil, or_false] at he
        subst he
        exact ⟨.inl 0, keyIs_int 0 0, rfl⟩
    have := k0.symm.trans k1
    simp at this
theorem no_exc {a : Addr} {cls : Value} {d : Option Addr} : ¬ Sf (ExcO a cls d) := fun z => by
  rcases z with ⟨_, e⟩ | ⟨p, es, ix, e⟩
  · cases e
  · unfold MemoE ExcO at e
    injection e with e
    have : ∃ oe vs, (allO p (dOb es es.size)).get? a = some oe ∧ Zc cls d oe ∧ oe.data = .fields vs := by
      rw [congrFun e (allO p (dOb es es.size))]
      exact memo_is p es ix (.inl rfl)
    obtain ⟨oe, vs, g, _, dd⟩ := this
    rw [(memo_one p es es.size).2 a oe g] at dd
    cases dd
theorem stays [Nm] {H H' : Hp} {P : Addr → Prop} (n : Nl H H') (l : ∀ a o, H a = some o → Mb o → ¬ P a → H' a = some o) {a : Addr} {o : HO} (e : H a = some o) (s : ¬ Sf o) (q : ¬ P a) : H' a = some o := by
  by_cases m : Mb o
  · exact l a o e m q
  · exact n.all a o e m s
def obT [Nm] (P : Program) (w : World) (mg : Str → Option Value) : Ob where
  wd := w
  ro := fun K H Pr v k => match k with
    | [(.none, .int 0)] => scriptP K H v
    | [(.none, .int 1)] => townIs P w H Pr v
    | [(.none, .str n)] => excIs mg H Pr v n
    | [(.none, .tuple [w, .list ds])] => machIs mg K H Pr v w ds
    | [(.none, .list [.int i])] => idIs v i
    | [(.none, .list [.int i, .str c, .list fe])] => objIs mg K H Pr v i c fe
    | _ => False
  isRef := fun {K H Pr v k} h => by
    split at h
    · obtain ⟨a, ns, e, _⟩ := h
      exact ⟨a, e⟩
    · obtain ⟨t, r, e, _⟩ := h
      exact ⟨t, e⟩
    · obtain ⟨a, C, e, _⟩ := h
      exact ⟨a, e⟩
    · obtain ⟨a, C, dx, m, l, vw, xs, es, ix, e, _⟩ := h
      exact ⟨a, e⟩
    · obtain ⟨a, e, _⟩ := h
      exact ⟨a, e⟩
    · obtain ⟨a, C, dx, fl, fs, e, _⟩ := h
      exact ⟨a, e⟩
    · exact h.elim
  keep := fun {K H H' Pr Pr' v k} n l p h => by
    split at h
    · obtain ⟨a, ns, e, q, l⟩ := h
      exact ⟨a, ns, e, q.nl n, l⟩
    · obtain ⟨t, r, e, ne, e1, e2, q1, q2⟩ := h
      exact ⟨t, r, e, ne, stays n l e1 no_town q1, stays n l e2 no_rest q2, p _ _ e1 no_town q1, p _ _ e2 no_rest q2⟩
    · obtain ⟨a, C, e, m, e1, q1⟩ := h
      exact ⟨a, C, e, m, stays n l e1 no_exc q1, p _ _ e1 no_exc q1⟩
    · exact h.keep n l p
    · exact h
    · exact h.keep n l p
    · exact h.elim
theorem obT_no [Nm] (P : Program) (w : World) (mg : Str → Option Value) : NoObj (obT P w mg) := ⟨fun {K H Pr v ds} h p hp => by
  unfold obT at h
  simp only at h
  split at h
  · simp at hp
    subst hp
    rfl
  · simp at hp
    subst hp
    rfl
  · simp at hp
    subst hp
    rfl
  · simp at hp
    subst hp
    rfl
  · simp at hp
    subst hp
    rfl
  · simp at hp
    subst hp
    rfl
  · exact h.elim, fun {K H Pr v ds} h => by
  unfold obT at h
  simp only at h, fun {K H Pr v x ds} h => by
  unfold obT at h
  simp only at h⟩
theorem dv_script [Nm] {P : Program} {w : World} {mg : Str → Option Value} {K : PySem.W.Frag} {H : Hp} {Pr : Addr → Prop} {v : V} (h : scriptP K H v) : Dv (obT P w mg) K H Pr v sD := .obj h
theorem dv_town [Nm] {P : Program} {w : World} {mg : Str → Option Value} {K : PySem.W.Frag} {H : Hp} {Pr : Addr → Prop} {v : V} (h : townIs P w H Pr v) : Dv (obT P w mg) K H Pr v tD := .obj h
theorem of_script [Nm] {P : Program} {w : World} {mg : Str → Option Value} {K : PySem.W.Frag} {H : Hp} {Pr : Addr → Prop} {v : V} (h : Dv (obT P w mg) K H Pr v sD) : scriptP K H v := by
  unfold sD at h
  generalize e : (PyData.dict [(.none, .int 0)]) = d at h
  cases h with
  | @dct a kvs ds e1 e2 e3 e4 =>
    unfold dictE at e
    injection e with e
    cases ds with
    | nil => cases e
    | cons p r =>
      injection e with e _
      injection e with e _
      obtain ⟨k, x⟩ := p
      cases k <;> cases e
  | obj h =>
    injection e with e
    subst e
    exact h
  | _ => cases e
theorem of_town [Nm] {P : Program} {w : World} {mg : Str → Option Value} {K : PySem.W.Frag} {H : Hp} {Pr : Addr → Prop} {v : V} (h : Dv (obT P w mg) K H Pr v tD) : townIs P w H Pr v := by
  unfold tD at h
  generalize e : (PyData.dict [(.none, .int 1)]) = d at h
  cases h with
  | @dct a kvs ds e1 e2 e3 e4 =>
    unfold dictE at e
    injection e with e
    cases ds with
    | nil => cases e
    | cons p r =>
      injection e with e _
      injection e with e _
      obtain ⟨k, x⟩ := p
      cases k <;> cases e
  | obj h =>
    injection e with e
    subst e
    exact h
  | _ => cases e
theorem of_exc [Nm] {P : Program} {w : World} {mg : Str → Option Value} {K : PySem.W.Frag} {H : Hp} {Pr : Addr → Prop} {v : V} {n : Str} (h : Dv (obT P w mg) K H Pr v (excD n)) : excIs mg H Pr v n := by
  unfold excD at h
  generalize e : (PyData.dict [(.none, .str n)]) = d at h
  cases h with
  | @dct a kvs ds e1 e2 e3 e4 =>
    unfold dictE at e
    injection e with e
    cases ds with
    | nil => cases e
    | cons p r =>
      injection e with e _
      injection e with e _
      obtain ⟨k, x⟩ := p
      cases k <;> cases e
  | obj h =>
    injection e with e
    subst e
    exact h
  | _ => cases e
theorem dv_exc [Nm] {P : Program} {w : World} {mg : Str → Option Value} {K : PySem.W.Frag} {H : Hp} {Pr : Addr → Prop} {v : V} {n : Str} (h : excIs mg H Pr v n) : Dv (obT P w mg) K H Pr v (excD n) := .obj h
section
variable [Nm] {X : Cx}
theorem Inv.view {pins : List (Addr × Obj)} {σ : L2.St} {H : Hp} {s : Shared} {a : Addr} {o : HO} (I : Inv X pins σ H s) (mu : Mut (H a)) (h : ∃ u, s.heap.get? a = some u) (new : ObjOk X.prog X.w (upd H a o) s.heap a o) : Inv X pins σ (upd H a o) s := by
  have := I.write (x := a) (e := a) (h' := s.heap) (t' := s.toks) mu (.inl rfl) (fun b u _ q => q) h new
  exact this
/-- the town and its rests are dicts -/
def tOpen (P : Program) (w : World) (t : TS) : TS := fun D σ H => ∃ a r, a ≠ r ∧ H a = some (.ext (townP P w a r)) ∧ H r = some (.ext (restP P w r)) ∧ ∀ (c : Int) (vs : List (Key × V)), 0 ≤ c → goodRest vs → t D σ (upd (upd H a (.dK (townKvs c r))) r (.dK vs))
theorem pss_open {sts : List Stmt} {t : TS} (h : PSs X sts t) : PSs X sts (tOpen X.prog X.w t) := by
  refine ⟨fun pins s σ H D I hw => ?_⟩
  obtain ⟨a, r, ne, e1, e2, q⟩ := hw
  obtain ⟨⟨c, hc, o1⟩, ⟨u1, g1⟩, _⟩ := I.hok a _ e1
  obtain ⟨⟨vs, hv, o2⟩, ⟨u2, g2⟩, _⟩ := I.hok r _ e2
  have I1 := Inv.view (o := .dK (townKvs c r)) I (by rw [e1]; exact True.intro) ⟨u1, g1⟩ (dk_any o1)
  have e2' : upd H a (.dK (townKvs c r)) r = some (.ext (restP X.prog X.w r)) := by rw [upd_ne (Ne.symm ne)]; exact e2
  have I2 := Inv.view (o := .dK vs) I1 (by rw [e2']; exact True.intro) ⟨u2, g2⟩ (dk_any o2)
  exact h.run pins s σ _ D I2 (q c vs hc hv)
/-- .. and are told by what holds of them again -/
def shut (P : Program) (w : World) (Q : Hp → Prop) : Hp → Prop := fun H => ∃ a r, a ≠ r ∧ (∃ c : Int, 0 ≤ c ∧ H a = some (.dK (townKvs c r))) ∧ (∃ vs, goodRest vs ∧ H r = some (.dK vs)) ∧ Q (upd (upd H a (.ext (townP P w a r))) r (.ext (restP P w r)))
theorem inv_shut {pins : List (Addr × Obj)} {σ : L2.St} {H : Hp} {s : Shared} {Q : Hp → Prop} (I : Inv X pins σ H s) (h : shut X.prog X.w Q H) : ∃ H', Inv X pins σ H' s ∧ Q H' := by
  obtain ⟨a, r, ne, ⟨c, hc, e1⟩, ⟨vs, hv, e2⟩, q⟩ := h
  have o1 := I.hok a _ e1
  have o2 := I.hok r _ e2
  have g1 : ∃ u, s.heap.get? a = some u := let ⟨_, _, _, _, ob, _, _, g, _⟩ := o1; ⟨ob, g⟩
  have g2 : ∃ u, s.heap.get? r = some u := let ⟨_, _, _, _, ob, _, _, g, _⟩ := o2; ⟨ob, g⟩
  have I1 := Inv.view (o := .ext (townP X.prog X.w a r)) I (by rw [e1]; exact True.intro) g1 ⟨⟨c, hc, dk_any o1⟩, g1, fun h1 h2 ⟨c', hc', x⟩ k => ⟨c', hc', dk_stay x k⟩⟩
  have e2' : upd H a (.ext (townP X.prog X.w a r)) r = some (.dK vs) := by rw [upd_ne (Ne.symm ne)]; exact e2
  have I2 := Inv.view (o := .ext (restP X.prog X.w r)) I1 (by rw [e2']; exact True.intro) g2 ⟨⟨vs, hv, dk_any o2⟩, g2, fun h1 h2 ⟨v', hv', x⟩ k => ⟨v', hv', dk_stay x k⟩⟩
  exact ⟨_, I2, q⟩
def tShut (P : Program) (w : World) (t : TS) : TS := fun D σ H => t ⟨fun σ' => shut P w (D.nx σ'), fun v => shut P w (D.rt v), fun σ' => shut P w (D.bk σ'), fun σ' => shut P w (D.ct σ')⟩ σ H
theorem pss_shut {sts : List Stmt} {t : TS} (h : PSs X sts t) : PSs X sts (tShut X.prog X.w t) := by
  refine ⟨fun pins s σ H D I hw => ?_⟩
  refine thn (h.run pins s σ H _ I hw) fun f s1 q => ?_
  cases f with
  | next =>
    obtain ⟨σ', H', I', q⟩ := q
    obtain ⟨H2, I2, q2⟩ := inv_shut I' q
    exact ⟨σ', H2, I2, q2⟩
  | brk =>
    obtain ⟨σ', H', I', q⟩ := q
    obtain ⟨H2, I2, q2⟩ := inv_shut I' q
    exact ⟨σ', H2, I2, q2⟩
  | cont =>
    obtain ⟨σ', H', I', q⟩ := q
    obtain ⟨H2, I2, q2⟩ := inv_shut I' q
    exact ⟨σ', H2, I2, q2⟩
  | ret u =>
    obtain ⟨v, σ', H', I', rv, q⟩ := q
    obtain ⟨H2, I2, q2⟩ := inv_shut I' q
    exact ⟨v, σ', H2, I2, rv, q2⟩
end
/-- {"count": 0, "rests": {}} -/
def m__law_begun : List D → WD D := fun ds Q _ => ds = [] ∧ Q tD
/-- the next draw -/
def m__law_draw : List D → WD D
  | [s, t, .int m] => fun Q _ => s = sD ∧ t = tD ∧ 0 < m ∧ m < 1073741824 ∧ ∀ r : Int, 0 ≤ r → r < m → Q (.int r)
  | _ => fun _ _ => False
abbrev tInt (i : Int) : TE := tC (.int i)
abbrev tStr (x : Str) : TE := tC (.str x)
abbrev tTr (K : PySem.W.Frag) (ta : TE) : TT := fun σ H Q => ta σ H fun x H' => ∃ k, TruV K x H' k ∧ Q k H'
abbrev rAddI : R2 := rI0 fun i j => .int (i + j)
abbrev rMulI : R2 := rI CMul fun i j => .int (i * j)
abbrev rDivI : R2 := rI CDiv fun i j => .int (i / j)
abbrev rModI : R2 := rI (fun _ j => 0 < j) fun i j => .int (i % j)
abbrev rPowI : R2 := rI CPow fun i j => .int (i ^ j.toNat)
abbrev rGeI : R2 := rI0 fun i j => .bl (decide (j ≤ i))
abbrev rLenA (K : PySem.W.Frag) : List V → Hp → VK → Prop := fun xs H Q => ∃ x n, xs = [x] ∧ LenV K x H n ∧ Q (.int n) H
abbrev tCount : TE := tDGet (tVar 1) (tStr "count")
abbrev tDrawB : TS :=
  tSeq (tIfS (tTest (tOp rGeI (tVar 4) (tOp rPowI (tInt 10) (tInt 18)))) (tSeq (sDPut (tDGet (tVar 1) (tStr "rests")) (tVar 3) (tOp rDivI (tVar 4) (tVar 2))) (tRet (tOp rModI (tVar 4) (tVar 2)))) tNext)
  (tSeq (tAsg (tOp rModI (tOp rAddI (tVar 4) (tOp rMulI (tInt 104729) tCount)) (tInt 4294967291)) (gName 5))
  (tSeq (tAsg (tOp rModI (tOp rPowI (tVar 5) (tInt 5)) (tInt 4294967279)) (gName 5))
  (tRet (tOp rModI (tOp rDivI (tOp rModI (tOp rAddI (tOp rMulI (tOp rDivI (tVar 5) (tInt 64)) (tInt 69621)) (tVar 5)) (tInt 4294967231)) (tInt 8)) (tVar 2)))))
abbrev tDrawA (K : PySem.W.Frag) : TS :=
  tSeq (tAsg (tDGet2 (tDGet (tVar 1) (tStr "rests")) (tVar 3) (tIf (tTr K (tVar 0)) (tOp (rIxL K) (tVar 0) (tVar 3)) (tInt 0))) (gName 4)) tDrawB
abbrev tDraw (K : PySem.W.Frag) : TS :=
  tSeq (sDPut (tVar 1) (tStr "count") (tOp rAddI tCount (tInt 1)))
  (tSeq (tAsg (tIf (tTr K (tVar 0)) (tOp rModI tCount (tCB (rLenA K) (tCons (tVar 0) tNil))) (tInt 0)) (gName 3)) (tDrawA K))
theorem nc : ¬ (("count" : Str) = "rests") := by decide +kernel
theorem nc' : ¬ (("rests" : Str) = "count") := by decide +kernel
theorem town_count (c : Int) (r : Addr) : valV (townKvs c r) (.inr "count" : Key) = some (.int c) := valV_pos rfl
theorem town_rests (c : Int) (r : Addr) : valV (townKvs c r) (.inr "rests" : Key) = some (.ref r) := by
  unfold townKvs
  rw [valV_neg (p := ((.inr "count" : Key), V.int c)) (fun e => nc (by injection e)), valV_pos rfl]
theorem town_put (c y : Int) (r : Addr) : putK (townKvs c r) (.inr "count" : Key) (.int y) = townKvs y r := by
  unfold putK townKvs
  have h : ¬ ((Sum.inr ("rests" : Str) : Key) = Sum.inr ("count" : Str)) := fun e => nc' (by injection e)
  simp [h]
theorem good_nil : goodRest [] := ⟨List.nodup_nil, fun _ h => (nomatch h)⟩
theorem good_put {vs : List (Key × V)} {i n : Int} (h : goodRest vs) (h0 : 0 ≤ i) (h1 : i < 64) : goodRest (putK vs (.inl i : Key) (.int n)) := by
  have key : ∀ kv ∈ putK vs (.inl i : Key) (.int n), (∃ i : Int, kv.1 = .inl i ∧ 0 ≤ i ∧ i < 64) ∧ ∃ n, kv.2 = .int n := fun kv hk => by
    unfold putK at hk
    split at hk
    · obtain ⟨q, hq, rfl⟩ := List.mem_map.mp hk
      by_cases e : q.1 = .inl i
      · rw [if_pos e]
        exact ⟨⟨i, e, h0, h1⟩, n, rfl⟩
      · rw [if_neg e]
        exact h.2 q hq
    · rcases List.mem_append.mp hk with hk | hk
      · exact h.2 kv hk
      · simp at hk
        subst hk
        exact ⟨⟨i, rfl, h0, h1⟩, n, rfl⟩
  refine ⟨?_, key⟩
  cases q : valV vs (.inl i : Key) with
  | none => exact nd_putK _ h.1 q
  | some v =>
    unfold putK
    have ha : (vs.any fun kv => decide (kv.1 = (.inl i : Key))) = true := by
      unfold valV at q
      cases q2 : vs.find? fun kv => decide (kv.1 = (.inl i : Key)) with
      | none =>
        rw [q2] at q
        cases q
      | some kv =>
        rw [List.any_eq_true]
        exact ⟨kv, List.mem_of_find?_eq_some q2, by simpa using List.find?_some q2⟩
    rw [if_pos ha, List.map_map]
    have : ((fun x => x.1) ∘ fun kv : Key × V => if kv.1 = (.inl i : Key) then (kv.1, V.int n) else kv) = fun x => x.1 := by
      funext kv
      show (if kv.1 = (.inl i : Key) then (kv.1, V.int n) else kv).1 = kv.1
      split <;> rfl
    rw [this]
    exact h.1
theorem nodup_lt : ∀ (n : Nat) (l : List Nat), l.Nodup → (∀ x ∈ l, x < n) → l.length ≤ n
  | 0, [], _, _ => Nat.le_refl _
  | 0, x :: _, _, h => absurd (h x List.mem_cons_self) (Nat.not_lt_zero _)
  | n + 1, l, nd, h => by
    by_cases hn : n ∈ l
    · have h1 := nodup_lt n (l.erase n) (nd.erase n) fun x hx => by
        have h2 := (List.Nodup.mem_erase_iff nd).mp hx
        have := h x h2.2
        have := h2.1
        omega
      rw [List.length_erase_of_mem hn] at h1
      omega
    · have h1 := nodup_lt n l nd fun x hx => by
        have := h x hx
        have : x ≠ n := fun e => hn (e ▸ hx)
        omega
      omega
theorem good_len {vs : List (Key × V)} (h : goodRest vs) : vs.length ≤ 64 := by
  have h1 := nodup_lt 64 (vs.map fun kv => match kv.1 with | .inl i => i.toNat | .inr _ => 0) ?_ ?_
  · simpa using h1
  · have h2 := h.1
    unfold List.Nodup at *
    rw [List.pairwise_map] at *
    refine h2.imp_of_mem fun {a b} ha hb ne e => ne ?_
    obtain ⟨⟨i, ei, h0, _⟩, _⟩ := h.2 a ha
    obtain ⟨⟨j, ej, j0, _⟩, _⟩ := h.2 b hb
    have e' : i.toNat = j.toNat := by simpa [ei, ej] using e
    rw [ei, ej]
    congr 1
    omega
  · intro x hx
    obtain ⟨kv, hm, rfl⟩ := List.mem_map.mp hx
    obtain ⟨⟨i, e, h0, h64⟩, _⟩ := h.2 kv hm
    rw [e]
    show i.toNat < 64
    omega
theorem good_val {vs : List (Key × V)} {k : Key} {v : V} (h : goodRest vs) (e : valV vs k = some v) : ∃ n, v = .int n := by
  unfold valV at e
  cases q : vs.find? fun kv => decide (kv.1 = k) with
  | none =>
    rw [q] at e
    cases e
  | some kv =>
    rw [q] at e
    cases e
    exact (h.2 kv (List.mem_of_find?_eq_some q)).2
/-- what the whole def asks -/
theorem draw_reads {P : Program} {w : World} {K : PySem.W.Frag} {H : Hp} {a t r : Addr} {ns : List Int} {m : Int} {Q : VK} {nx : L2.St → Hp → Prop} (hs : SqS K H a (ns.map V.int)) (hl : ns.length ≤ 63) (ne : t ≠ r) (e1 : H t = some (.ext (townP P w t r))) (e2 : H r = some (.ext (restP P w r)))
    (m0 : 0 < m) (m1 : m < 1073741824) (hQ : ∀ (y : Int) H', 0 ≤ y → y < m → L2.Same H H' → Q (.int y) H') : tOpen P w (tShut P w (tDraw K)) { nx := nx, rt := Q } [some (.ref a), some (.ref t), some (.int m), none, none, none] H := by
  refine ⟨t, r, ne, e1, e2, fun c vs hc hv => ?_⟩
  obtain ⟨H1, eH1⟩ : ∃ H1, H1 = upd (upd H t (.dK (townKvs c r))) r (.dK vs) := ⟨_, rfl⟩
  rw [← eH1]
  have f1 : H1 t = some (.dK (townKvs c r)) := by rw [eH1, upd_ne ne, upd_same]
  have f2 : H1 r = some (.dK vs) := by rw [eH1, upd_same]
  have f3 : ∀ b, b ≠ t → b ≠ r → H1 b = H b := fun b h1 h2 => by rw [eH1, upd_ne h2, upd_ne h1]
  -- town['count'] = town['count'] + 1
  obtain ⟨H2, eH2⟩ : ∃ H2, H2 = upd H1 t (.dK (townKvs (c + 1) r)) := ⟨_, rfl⟩
  refine ⟨_, rfl, t, _, rfl, .inl ⟨_, .inr "count", .inl f1, rfl, (town_count c r).symm⟩, c, 1, rfl, rfl, _, rfl, t, H2, rfl, .inl ⟨_, .inr "count", f1, rfl, by show 2 < sizeLine; decide, by rw [eH2, town_put]⟩, ?_⟩
  have g1 : H2 t = some (.dK (townKvs (c + 1) r)) := by rw [eH2, upd_same]
  have g2 : H2 r = some (.dK vs) := by rw [eH2, upd_ne (Ne.symm ne)]; exact f2
  have g3 : ∀ b, b ≠ t → b ≠ r → H2 b = H b := fun b h1 h2 => by rw [eH2, upd_ne h1, f3 b h1 h2]
  have hs2 : SqS K H2 a (ns.map V.int) := by
    rcases hs with ⟨o, h⟩ | h
    · refine .inl ⟨o, ?_⟩
      have n1 : a ≠ t := fun z => by rw [z, e1] at h; cases h
      have n2 : a ≠ r := fun z => by rw [z, e2] at h; cases h
      rw [g3 a n1 n2]
      exact h
    · exact .inr h
  have cnt : DGet H2 t (.str "count") (some (.int (c + 1))) := .inl ⟨_, .inr "count", .inl g1, rfl, (town_count _ r).symm⟩
  have rst : DGet H2 t (.str "rests") (some (.ref r)) := .inl ⟨_, .inr "rests", .inl g1, rfl, (town_rests _ r).symm⟩
  have emp : (ns.map V.int).isEmpty = ns.isEmpty := by cases ns <;> rfl
  -- the end of every way
  have fin : ∀ (y : Int) (vs' : List (Key × V)) (H3 : Hp), 0 ≤ y → y < m → goodRest vs' → H3 t = some (.dK (townKvs (c + 1) r)) → H3 r = some (.dK vs') → (∀ b, b ≠ t → b ≠ r → H3 b = H b) → shut P w (Q (.int y)) H3 := fun y vs' H3 y0 y1 gv k1 k2 k3 => by
    refine ⟨t, r, ne, ⟨c + 1, by omega, k1⟩, ⟨vs', gv, k2⟩, hQ y _ y0 y1 fun b o e => ?_⟩
    by_cases h2 : b = r
    · subst h2
      rw [upd_same]
      rw [e2] at e
      exact e
    · by_cases h1 : b = t
      · subst h1
        rw [upd_ne h2, upd_same]
        rw [e1] at e
        exact e
      · rw [upd_ne h2, upd_ne h1, k3 b h1 h2]
        exact e
  -- behind at
  have step : ∀ at_ : Int, 0 ≤ at_ → at_ < 64 → (ns ≠ [] → at_ < ns.length) → tDrawA K
      ⟨fun σ' => shut P w (nx σ'), fun v => shut P w (Q v), fun σ' => shut P w fun _ => False, fun σ' => shut P w fun _ => False⟩ [some (.ref a), some (.ref t), some (.int m), some (.int at_), none, none] H2 := fun at_ a0 a1 a2 => by
    have rest : ∀ rest : Int, tDrawB
      ⟨fun σ' => shut P w (nx σ'), fun v => shut P w (Q v), fun σ' => shut P w fun _ => False, fun σ' => shut P w fun _ => False⟩ [some (.ref a), some (.ref t), some (.int m), some (.int at_), some (.int rest), none] H2 := fun rest => by
      refine ⟨_, rfl, 10, 18, rfl, rfl, ⟨by decide, by decide, by decide⟩, _, _, rfl, rfl, _, rfl, ?_⟩
      refine ite2 (fun hg => ?_) (fun hg => ?_)
      · -- a great cell
        refine ⟨_, rfl, _, rfl, _, _, rfl, rfl, ⟨m0, m1⟩, _, rfl, t, _, rfl, rst, _, rfl, r, _, rfl, .inl ⟨vs, .inl at_, g2, rfl, Nat.lt_of_le_of_lt (good_len hv) (by decide), rfl⟩, ?_⟩
        refine ⟨_, rfl, _, rfl, _, _, rfl, rfl, m0, ?_⟩
        refine fin _ _ _ (Int.emod_nonneg _ (by omega)) (Int.emod_lt_of_pos _ m0) (good_put hv a0 a1) ?_ upd_same ?_
        · rw [upd_ne ne]
          exact g1
        · intro b h1 h2
          rw [upd_ne h2]
          exact g3 b h1 h2
      · refine ⟨_, rfl, _, rfl, t, _, rfl, cnt, 104729, c + 1, rfl, rfl, .inl ⟨by decide, by decide⟩, _, _, rfl, rfl, _, _, rfl, rfl, by show (0 : Int) < 4294967291; decide, ?_⟩
        have x0 : 0 ≤ (rest + 104729 * (c + 1)) % 4294967291 := Int.emod_nonneg _ (by decide)
        have x1 : (rest + 104729 * (c + 1)) % 4294967291 < 4294967291 := Int.emod_lt_of_pos _ (by decide)
        have x2 : ((rest + 104729 * (c + 1)) % 4294967291).natAbs < 2 ^ 64 := by omega
        refine ⟨_, rfl, (rest + 104729 * (c + 1)) % 4294967291, 5, rfl, rfl, ⟨by decide, by decide, x2⟩, _, _, rfl, rfl, by show (0 : Int) < 4294967279; decide, ?_⟩
        refine ⟨_, rfl, _, 64, rfl, rfl, ⟨by decide, by decide⟩, _, _, rfl, rfl, .inr ⟨by decide, by decide⟩, _, rfl, _, _, rfl, rfl, _, _, rfl, rfl, by show (0 : Int) < 4294967231; decide, _, _, rfl, rfl, ⟨by decide, by decide⟩, _, rfl, _, _, rfl, rfl, m0, ?_⟩
        exact fin _ vs H2 (Int.emod_nonneg _ (by omega)) (Int.emod_lt_of_pos _ m0) hv g1 g2 g3
    refine ⟨_, rfl, t, _, rfl, rst, r, rfl, .inl ⟨vs, .inl g2⟩, _, rfl, ?_⟩
    have key : ∀ z : Int, ∃ o, DGet H2 r (.int at_) o ∧ (∃ n, o.getD (V.int z) = .int n) := fun z => by
      refine ⟨valV vs (.inl at_ : Key), .inl ⟨vs, .inl at_, .inl g2, rfl, rfl⟩, ?_⟩
      cases q : valV vs (.inl at_ : Key) with
      | none => exact ⟨z, rfl⟩
      | some v =>
        obtain ⟨n, rfl⟩ := good_val hv q
        exact ⟨n, rfl⟩
    refine ⟨_, rfl, !ns.isEmpty, .inl ⟨_, hs2.sq, by rw [emp]⟩, ?_⟩
    refine ite2 (fun hn => ?_) (fun hn => ?_)
    · have nn : ns ≠ [] := fun z => by rw [z] at hn; cases hn
      have hlt := a2 nn
      obtain ⟨j, ej⟩ : ∃ j : Nat, at_ = (j : Int) := ⟨at_.toNat, by omega⟩
      have hj : j < ns.length := by omega
      have ga : atI (ns.map V.int) at_ = some (.int ns[j]) := by
        rw [ej]
        refine atI_nat ?_
        rw [List.getElem?_map, List.getElem?_eq_getElem hj]
        rfl
      refine ⟨_, rfl, _, rfl, a, _, at_, _, rfl, rfl, hs2.sq, ga, ?_⟩
      obtain ⟨o, d1, n, d2⟩ := key ns[j]
      refine ⟨o, d1, ?_⟩
      show _
      rw [d2]
      exact rest n
    · obtain ⟨o, d1, n, d2⟩ := key 0
      refine ⟨o, d1, ?_⟩
      show _
      rw [d2]
      exact rest n
  -- at = ..
  refine ⟨_, rfl, !ns.isEmpty, .inl ⟨_, hs2.sq, by rw [emp]⟩, ?_⟩
  refine ite2 (fun hn => ?_) (fun hn => ?_)
  · have nn : 0 < ns.length := by
      cases ns with
      | nil => cases hn
      | cons x y => exact Nat.succ_pos _
    refine ⟨_, rfl, t, _, rfl, cnt, _, rfl, _, _, rfl, .inl ⟨_, hs2.sq, rfl⟩, _, _, rfl, rfl, ?_, ?_⟩
    · show (0 : Int) < ((ns.map V.int).length : Int)
      rw [List.length_map]
      omega
    · rw [List.length_map]
      have h0 : 0 ≤ (c + 1) % (ns.length : Int) := Int.emod_nonneg _ (by omega)
      have h1 : (c + 1) % (ns.length : Int) < ns.length := Int.emod_lt_of_pos _ (by omega)
      exact step _ h0 (by omega) fun _ => h1
  · refine step 0 (by decide) (by decide) fun nn => ?_
    have : 0 < ns.length := by
      cases ns with
      | nil => exact absurd rfl nn
      | cons x y => exact Nat.succ_pos _
    omega
section
variable [Nm] {P : Program} {w : World} {K : PySem.W.Frag} {mg : Str → Option Value} {base : Heap}
theorem cal_draw {st : Stmt} (h : FnT K mg "_law_draw" st) (S : FnScope ["script", "town", "many", "at", "rest", "number"] ["script", "town", "many"] (defScope st)) (hb : Bn "_law_draw" st ["script", "town", "many"])
    (hbody : ∀ (f : Addr) (cdv : Value) (A : Around) (outer : List PySem.Env) (s : Shared) (H : Hp) (E : XK), Room 0 (A.deeper (PyProof.Rows.envOfC "_law_draw" (defScope st) s.heap.objs.size f cdv)) → PSs (cxOf (L2.CX P w) P w K mg base ["script", "town", "many", "at", "rest", "number"] "_law_draw" (defScope st) f cdv A outer s H E).nox (defBody st) (tDraw K)) :
    Cal (obT P w mg) P w K mg base "_law_draw" 1 ["script", "town", "many"] m__law_draw := by
  obtain ⟨f, fd, hm, hF⟩ := h
  refine ⟨f, fd, hm, hF.kp, hF.bindsN hb, ?_, fun_lk hF⟩
  refine hF.ok S (fun vs H Q E h => ?_) (fun cdv A outer s H vs Q E hr h => ?_)
  · obtain ⟨P, ds, Qd, Ed, _, h1, h2, _⟩ := h
    rw [h1.length, h2]
  · obtain ⟨P', ds, Qd, Ed, hd, h1, h2, hf, hQ, hE⟩ := h
    refine ⟨_, PSs.nox (pss_open (pss_shut (hbody f cdv A outer s H E hr))), ?_⟩
    cases h1 with
    | nil => cases h2
    | cons a1 h1 =>
      cases h1 with
      | nil => cases h2
      | cons a2 h1 =>
        cases h1 with
        | nil => cases h2
        | cons a3 h1 =>
          cases h1 with
          | cons _ _ => cases h2
          | nil =>
            cases a3 with
            | int m =>
              obtain ⟨rfl, rfl, m0, m1, q⟩ := hf
              obtain ⟨a, ns, rfl, hs, hl⟩ := of_script a1
              obtain ⟨t, r, rfl, ne, e1, e2, _⟩ := of_town a2
              exact draw_reads hs hl ne e1 e2 m0 m1 fun y H' y0 y1 sm => hQ _ _ H' (.of sm) (.int y) (q y y0 y1)
            | _ => exact hf.elim
def tBegun : TS := tRet (tDisp [(tStr "count", tInt 0), (tStr "rests", tDNewK)])
theorem cal_begun {st : Stmt} (h : FnT K mg "_law_begun" st) (S : FnScope [] [] (defScope st)) (hb : Bn "_law_begun" st [])
    (hbody : ∀ (f : Addr) (cdv : Value) (A : Around) (outer : List PySem.Env) (s : Shared) (H : Hp) (E : XK), Room 0 (A.deeper (PyProof.Rows.envOfC "_law_begun" (defScope st) s.heap.objs.size f cdv)) → PSs (cxOf (L2.CX P w) P w K mg base [] "_law_begun" (defScope st) f cdv A outer s H E).nox (defBody st) tBegun) :
    Cal (obT P w mg) P w K mg base "_law_begun" 1 [] m__law_begun := by
  obtain ⟨f, fd, hm, hF⟩ := h
  refine ⟨f, fd, hm, hF.kp, hF.bindsN hb, ?_, fun_lk hF⟩
  refine hF.ok S (fun vs H Q E h => ?_) (fun cdv A outer s H vs Q E hr h => ?_)
  · obtain ⟨P, ds, Qd, Ed, _, h1, h2, _⟩ := h
    rw [h1.length, h2]
  · obtain ⟨P', ds, Qd, Ed, hd, h1, h2, hf, hQ, hE⟩ := h
    refine ⟨_, PSs.nox (pss_shut (hbody f cdv A outer s H E hr)), ?_⟩
    intro p np r nr
    have nrp : p ≠ r := fun z => by
      rw [z, upd_same] at nr
      cases nr
    have nr0 : H r = none := by
      rw [upd_ne (Ne.symm nrp)] at nr
      exact nr
    refine ⟨by rw [upd_ne nrp, upd_same], [(.inr "count", .int 0), (.inr "rests", .ref r)], rfl, by show 2 ≤ 15; decide, p, r, nrp, ⟨0, Int.le_refl 0, ?_⟩, ⟨[], good_nil, ?_⟩, ?_⟩
    · rw [upd_same]
      have h : ¬ ((Sum.inr ("count" : Str) : Key) = Sum.inr ("rests" : Str)) := fun e => nc (by injection e)
      have e : mergeK [] [((.inr "count" : Key), V.int 0), ((.inr "rests" : Key), V.ref r)] = townKvs 0 r := by
        show putK (putK [] (.inr "count" : Key) (.int 0)) (.inr "rests" : Key) (.ref r) = townKvs 0 r
        simp [putK, townKvs, h]
      rw [e]
    · rw [upd_ne (Ne.symm nrp), upd_same]
    · refine hQ _ _ _ (.of fun b o e => ?_) (dv_town ⟨p, r, rfl, nrp, ?_, upd_same, hd.new (nn np), hd.new (nn nr0)⟩) hf.2
      · have h1 : b ≠ p := ne_of_none e np
        have h2 : b ≠ r := ne_of_none e nr0
        rw [upd_ne h2, upd_ne h1, upd_ne h1, upd_ne h2, upd_ne h1]
        exact e
      · rw [upd_ne nrp, upd_same]
        rfl
end
end DL
namespace DL
open PySem PySem.Spec L2
section
variable [Nm] {O : Ob} {X : Cx} {E : XK}
def rgLD : D → WD (List D)
  | .int n => fun Q _ => (-(2 ^ 62) ≤ n ∧ n ≤ 16777216) ∧ Q (upTo 0 n.toNat)
  | _ => fun _ _ => False
def eUnF (g : D → WD (List D)) (f : Rho → WD D) : Rho → WD (List D) := fun ρ Q Ed => f ρ (fun d => g d Q Ed) Ed
end
/-- the script's list, seen as one that is never written -/
def tSee (K : PySem.W.Frag) (t : TS) : TS := fun D σ H => ∃ (a : Addr) (xs : List V), SqL K H a xs ∧ ∀ H', SqS K H' a xs → (H' = H ∨ ∃ o ys, H a = some (.lst ys) ∧ H' = upd H a (.frz o (.lst ys))) → t D σ H'
theorem pss_see [Nm] {X : Cx} {sts : List Stmt} {t : TS} (h : PSs X sts t) : PSs X sts (tSee X.K t) := by
  refine ⟨fun pins s σ H D I ⟨a, xs, hs, q⟩ => ?_⟩
  rcases hs with (e | ⟨o, e⟩) | e
  · obtain ⟨z, its, n, r, g⟩ := I.hok a _ e
    have I1 := Inv.view (o := .frz { cls := .type "list", data := .seq its.toArray n } (.lst xs)) I (by rw [e]; exact True.intro) ⟨_, g⟩ ⟨g, z, its, n, r, g⟩
    exact h.run pins s σ _ D I1 (q _ (.inl ⟨_, upd_same⟩) (.inr ⟨_, _, e, rfl⟩))
  · exact h.run pins s σ _ D I (q _ (.inl ⟨o, e⟩) (.inl rfl))
  · exact h.run pins s σ _ D I (q _ (.inr e) (.inl rfl))
def spLaw [Nm] (K : PySem.W.Frag) : Sp := fun vs H Q _ => ∃ (a : Addr) (ns : List Int), vs = [.ref a] ∧ ns.length ≤ 63 ∧ SqL K H a (ns.map V.int) ∧ TabOk H ∧ ∀ H', Q (.bl true) H'
end DL
namespace DL
open PySem PySem.Spec L2
/-- no tables: for texts in which no code stands -/
instance (priority := 1) nmNone : Nm := ⟨[], (fun _ h => nomatch h), fun _ _ _ => False, (fun _ h => h), fun _ => none⟩
theorem strOk_of (s : String) : PyData.strOk (Str.ofString s) = true := by
  unfold PyData.strOk
  rw [Str.ofString_eq_toList]
  simp only [List.all_toArray, List.all_map, List.all_eq_true]
  intro c _
  have := c.valid
  simp only [Function.comp, decide_eq_true_eq]
  unfold UInt32.isValidChar Nat.isValidChar at this
  show c.val.toNat < 1114112
  rcases this with h | h <;> omega
theorem ofString_inj {a b : String} (h : Str.ofString a = Str.ofString b) : a = b := by
  rw [Str.ofString_eq_toList, Str.ofString_eq_toList] at h
  injection h with h
  have h2 : a.toList.map Char.toNat = b.toList.map Char.toNat := by simpa using congrArg Array.toList h
  have h3 : a.toList = b.toList := by
    refine List.map_inj_right (f := Char.toNat) (fun x y e => ?_) |>.mp h2
    exact Char.ext (UInt32.toNat_inj.mp e)
  exact String.toList_inj.mp h3
theorem str_beq (a b : String) : (Str.ofString a == Str.ofString b) = decide (a = b) := by
  by_cases h : a = b
  · subst h
    simp
  · rw [decide_eq_false h]
    exact beq_eq_false_iff_ne.mpr fun e => h (ofString_inj e)
theorem yo (i : Int) : SeqAt.shaped (.int i) = true := rfl
theorem yp (b : Bool) : SeqAt.shaped (.bool b) = true := rfl
theorem yq : SeqAt.shaped .none = true := rfl
theorem yr (s : String) : SeqAt.shaped (.str (Str.ofString s)) = true := by
  unfold SeqAt.shaped
  simp [PyData.canLay0, PyData.depth, strOk_of]
theorem yt (i j : Int) : PyData.eqv (.int i) (.int j) = decide (i = j) := by
  show (i == j) = _
  by_cases h : i = j
  · subst h
    simp
  · simp [h]
theorem yu (a b : String) : PyData.eqv (.str (Str.ofString a)) (.str (Str.ofString b)) = decide (a = b) := by
  show (Str.ofString a == Str.ofString b) = _
  rw [str_beq]
theorem yw (a b : Bool) : PyData.eqv (.bool a) (.bool b) = (a == b) := rfl
def andK (A : Prop) (Q : D → Prop) : D → Prop
  | .bool true => A
  | .bool false => Q (.bool false)
  | _ => False
def orK (A : Prop) (Q : D → Prop) : D → Prop
  | .bool true => Q (.bool true)
  | .bool false => A
  | _ => False
def notK (Q : D → Prop) : D → Prop
  | .bool b => Q (.bool (!b))
  | _ => False
def truK (Q : Bool → Prop) (d : D) : Prop := match truD d with
  | some b => Q b
  | none => False
def varK (Q : D → Prop) : Option (Option D) → Prop
  | some (some d) => Q d
  | _ => False
def parK (Q : D → D → Prop) : List D → Prop
  | [d, e] => Q d e
  | _ => False
section
variable {f g : Rho → WD D} {ρ : Rho} {Q : D → Prop} {E : Str → Prop} {QB : Bool → Prop} {QL : List D → Prop}
theorem zY : eAnd f g ρ Q E = f ρ (andK (g ρ Q E) Q) E := propext Iff.rfl
theorem zc : eOr f g ρ Q E = f ρ (orK (g ρ Q E) Q) E := propext Iff.rfl
theorem ze : eNot f ρ Q E = f ρ (notK Q) E := propext Iff.rfl
theorem zq : tTru f ρ QB E = f ρ (truK QB) E := propext Iff.rfl
theorem zQ (i : Nat) : eVar i ρ Q E = varK Q ρ[i]? := by
  unfold eVar varK
  generalize ρ[i]? = o
  match o with
  | none => rfl
  | some none => rfl
  | some (some d) => rfl
theorem zZ (A : Prop) (b : Bool) : andK A Q (.bool b) = (if b = true then A else Q (.bool false)) := by cases b <;> simp [andK]
theorem zd (A : Prop) (b : Bool) : orK A Q (.bool b) = (if b = true then Q (.bool true) else A) := by cases b <;> simp [orK]
theorem zg (b : Bool) : notK Q (.bool b) = Q (.bool (!b)) := propext Iff.rfl
theorem zR (d : D) : varK Q (some (some d)) = Q d := propext Iff.rfl
theorem zp (b : Bool) : isB QB (.bool b) = QB b := propext Iff.rfl
theorem zr (b : Bool) : truK QB (.bool b) = QB b := propext Iff.rfl
theorem zt (xs : List D) : truK QB (.tuple xs) = QB (!xs.isEmpty) := propext Iff.rfl
theorem zu (xs : List D) : truK QB (.list xs) = QB (!xs.isEmpty) := propext Iff.rfl
theorem zM (i j : Nat) (fa : Rho → WD (List D)) (Γ : Env) (k : KS) : sPar i j fa Γ k = fa (clean Γ) (parK fun d e => k.nx ((Γ.set i (some (.val d))).set j (some (.val e)))) k.ex := propext Iff.rfl
theorem zN (Q : D → D → Prop) (d e : D) : parK Q [d, e] = Q d e := propext Iff.rfl
theorem yT (h : Int → Int → D) (i j : Int) : int0 h (.int i) (.int j) Q E = Q (h i j) := propext Iff.rfl
theorem yU (C : Int → Int → Prop) (h : Int → Int → D) (i j : Int) : intD C h (.int i) (.int j) Q E = (C i j ∧ Q (h i j)) := propext Iff.rfl
theorem yG (i j : Int) : addD (.int i) (.int j) Q E = Q (.int (i + j)) := propext Iff.rfl
theorem yH (xs ys : List D) : addD (.tuple xs) (.tuple ys) Q E = (xs.length + ys.length ≤ 16777216 ∧ Q (.tuple (xs ++ ys))) := propext Iff.rfl
theorem yI (xs ys : List D) : addD (.list xs) (.list ys) Q E = (xs.length + ys.length ≤ 16777216 ∧ Q (.list (xs ++ ys))) := propext Iff.rfl
theorem yK (i j : Int) : mulD (.int i) (.int j) Q E = (CMul i j ∧ Q (.int (i * j))) := propext Iff.rfl
theorem yL (xs : List D) (k : Int) : mulD (.tuple xs) (.int k) Q E = (xs ≠ [] ∧ 2 ≤ k ∧ k ≤ 1000 ∧ xs.length ≤ 1000 ∧ Q (.tuple (List.replicate k.toNat xs).flatten)) := propext Iff.rfl
theorem yM (i : Int) : negD (.int i) Q E = Q (.int (-i)) := propext Iff.rfl
theorem yE (xs : List D) (i : Int) : idxD (.tuple xs) (.int i) Q E = orStuck (atI xs i) Q := propext Iff.rfl
theorem yF (xs : List D) (i : Int) : idxD (.list xs) (.int i) Q E = orStuck (atI xs i) Q := propext Iff.rfl
theorem yC (neg : Bool) (d : D) (ds : List D) : inD neg d (.tuple ds) Q E = (SeqAt.shaped d = true ∧ SeqAt.shaped (.tuple ds) = true ∧ Q (.bool ((ds.any fun z => PyData.eqv z d) != neg))) := by cases d <;> rfl
theorem yD (neg : Bool) (d : D) (ds : List D) : inD neg d (.list ds) Q E = (SeqAt.shaped d = true ∧ SeqAt.shaped (.list ds) = true ∧ Q (.bool ((ds.any fun z => PyData.eqv z d) != neg))) := by cases d <;> rfl
theorem yV (xs : List D) : lenD (.tuple xs) Q E = Q (.int xs.length) := propext Iff.rfl
theorem yW (xs : List D) : lenD (.list xs) Q E = Q (.int xs.length) := propext Iff.rfl
theorem yX (xs : List D) : tupleD (.list xs) Q E = Q (.tuple xs) := propext Iff.rfl
theorem yY (xs : List D) : tupleD (.tuple xs) Q E = Q (.tuple xs) := propext Iff.rfl
theorem zz (h : D → WD D) (d : D) : one1 h [d] Q E = h d Q E := propext Iff.rfl
theorem yA (h : D → WD (List D)) (d : D) : one1F h [d] QL E = h d QL E := propext Iff.rfl
theorem yZ {α : Type} (a : α) (R : α → Prop) : orStuck (some a) R = R a := propext Iff.rfl
theorem ya (xs : List D) : itemsD (.tuple xs) QL E = QL xs := propext Iff.rfl
theorem yb (xs : List D) : itemsD (.list xs) QL E = QL xs := propext Iff.rfl
theorem yd (n : Int) : rng1 [.int n] QL E = (n < 2 ^ 62 ∧ -(2 ^ 62) ≤ n ∧ QL (upTo 0 n.toNat)) := propext Iff.rfl
theorem xp (n : Int) : rgLD (.int n) QL E = ((-(2 ^ 62) ≤ n ∧ n ≤ 16777216) ∧ QL (upTo 0 n.toNat)) := propext Iff.rfl
theorem xq (ds : List D) : sortD (.tuple ds) QL E = (srtOk ds ∧ QL (sortL ds)) := propext Iff.rfl
theorem xr (ds : List D) : sortD (.list ds) QL E = (srtOk ds ∧ QL (sortL ds)) := propext Iff.rfl
theorem ye {α : Type} (a : α) (r : List α) : atI (a :: r) 0 = some a := by simp [atI, ixN]
theorem yf {α : Type} (a b : α) (r : List α) : atI (a :: b :: r) 1 = some b := by
  unfold atI ixN
  rw [if_pos (by omega), if_pos (by simp only [List.length_cons]; omega)]
  rfl
theorem yg {α : Type} (a b c : α) (r : List α) : atI (a :: b :: c :: r) 2 = some c := by
  unfold atI ixN
  rw [if_pos (by omega), if_pos (by simp only [List.length_cons]; omega)]
  rfl
theorem yh {α : Type} (a b c d : α) (r : List α) : atI (a :: b :: c :: d :: r) 3 = some d := by
  unfold atI ixN
  rw [if_pos (by omega), if_pos (by simp only [List.length_cons]; omega)]
  rfl
theorem yi {α : Type} (a b c d e : α) (r : List α) : atI (a :: b :: c :: d :: e :: r) 4 = some e := by
  unfold atI ixN
  rw [if_pos (by omega), if_pos (by simp only [List.length_cons]; omega)]
  rfl
theorem yj {α : Type} (a b c d e f : α) (r : List α) : atI (a :: b :: c :: d :: e :: f :: r) 5 = some f := by
  unfold atI ixN
  rw [if_pos (by omega), if_pos (by simp only [List.length_cons]; omega)]
  rfl
/-- x[i] by a place -/
theorem atI_nat {α : Type} {xs : List α} {i : Int} (h0 : 0 ≤ i) (h1 : i < xs.length) : atI xs i = some (xs[i.toNat]'(by omega)) := by
  unfold atI ixN
  rw [if_pos h0]
  simp only [h1, if_true, Option.bind_some]
  exact List.getElem?_eq_getElem (by omega)
theorem yk (i : Int) : isiD "int" (.int i) Q E = Q (.bool true) := propext Iff.rfl
theorem yl (i : Int) : isiD "bool" (.int i) Q E = Q (.bool false) := propext Iff.rfl
theorem ym (x : Str) : isiD "str" (.str x) Q E = Q (.bool true) := propext Iff.rfl
theorem yn (xs : List D) : isiD "tuple" (.tuple xs) Q E = Q (.bool true) := propext Iff.rfl
section
variable {F G : FS} {Γ : Env} {k : KS} {fb fc : Rho → WD D} {fa : Rho → WD (List D)} {ga gb : Rho → WD Bool} {i : Nat} {op op' : D → D → WD D} {c : D → WD D} {cF : D → WD (List D)} {cs : List D → WD D} {csF : List D → WD (List D)} {fd : Rho → WD (List (Key × D))} {n : Nat} {ds : List D}
theorem zA : fn0 n F ds Q E = F (startE n ds) { nx := fun _ => Q .none, rt := Q, ex := E } := propext Iff.rfl
theorem zB : sSeq F G Γ k = F Γ { k with nx := fun Γ' => G Γ' k } := propext Iff.rfl
theorem zC : sIf ga F G Γ k = ga (full Γ) (fun b => if b = true then F Γ k else G Γ k) k.ex := propext Iff.rfl
theorem zD : sRet f Γ k = f (full Γ) k.rt k.ex := propext Iff.rfl
theorem zE : sRetN Γ k = k.rt .none := propext Iff.rfl
theorem zF : sSet i f Γ k = f (clean Γ) (fun d => k.nx (Γ.set i (some (.val d)))) k.ex := propext Iff.rfl
theorem zG : sSetP i f Γ k = f (full Γ) (fun d => pureD d = true ∧ k.nx (Γ.set i (some (.val d)))) k.ex := propext Iff.rfl
theorem zH : sSetF i fa Γ k = fa (clean Γ) (fun xs => k.nx (Γ.set i (some (.own (.lst xs))))) k.ex := propext Iff.rfl
theorem zI : sSetFP i fa Γ k = fa (full Γ) (fun xs => pureD.pureAll xs = true ∧ k.nx (Γ.set i (some (.own (.lst xs))))) k.ex := propext Iff.rfl
theorem zJ : sNext Γ k = k.nx Γ := propext Iff.rfl
theorem zK : sNever Γ k = False := propext Iff.rfl
theorem zL : sDrop f Γ k = f (full Γ) (fun _ => k.nx Γ) k.ex := propext Iff.rfl
theorem zO : eCb cs fa ρ Q E = fa ρ (fun ds => cs ds Q E) E := propext Iff.rfl
theorem zP : eCbF csF fa ρ QL E = fa ρ (fun ds => csF ds QL E) E := propext Iff.rfl
theorem zS (d : D) : eC d ρ Q E = Q d := propext Iff.rfl
theorem zT : eOp op f g ρ Q E = f ρ (fun x => g ρ (fun y => op x y Q E) E) E := propext Iff.rfl
theorem zU : eIf ga f g ρ Q E = ga ρ (fun b => if b = true then f ρ Q E else g ρ Q E) E := propext Iff.rfl
theorem zV : eUn c f ρ Q E = f ρ (fun d => c d Q E) E := propext Iff.rfl
theorem zW : eUn1 c f ρ Q E = f ρ (fun d => c d Q E) E := propext Iff.rfl
theorem zX : eUnF cF f ρ QL E = f ρ (fun d => cF d QL E) E := propext Iff.rfl
theorem zh : eTup fa ρ Q E = fa ρ (fun ds => ds.length ≤ 16777216 ∧ Q (.tuple ds)) E := propext Iff.rfl
theorem zi : eLst fa ρ QL E = fa ρ (fun ds => ds.length ≤ 16777216 ∧ QL ds) E := propext Iff.rfl
theorem zj : eOfF fa ρ Q E = fa ρ (fun ds => Q (.list ds)) E := propext Iff.rfl
theorem zk : eChain op op' f g fc ρ Q E = f ρ (fun x => g ρ (fun y => op x y (isB fun k => if k = true then fc ρ (fun z => op' y z Q E) E else Q (.bool false)) E) E) E := propext Iff.rfl
theorem zn : aNil ρ QL E = QL [] := propext Iff.rfl
theorem zm : aCons f fa ρ QL E = f ρ (fun d => fa ρ (fun ds => QL (d :: ds)) E) E := propext Iff.rfl
theorem zo : tB1 f ρ QB E = f ρ (isB QB) E := propext Iff.rfl
theorem zv : tAndD ga gb ρ QB E = ga ρ (fun b => if b = true then gb ρ QB E else QB false) E := propext Iff.rfl
theorem zw : tOrD ga gb ρ QB E = ga ρ (fun b => if b = true then QB true else gb ρ QB E) E := propext Iff.rfl
theorem zx : tNotD ga ρ QB E = ga ρ (fun b => QB (!b)) E := propext Iff.rfl
theorem zy : tYesD ρ QB E = QB true := propext Iff.rfl
theorem yB (neg : Bool) (d e : D) : eqD neg d e Q E = (SeqAt.shaped d = true ∧ SeqAt.shaped e = true ∧ Q (.bool (PyData.eqv d e != neg))) := propext Iff.rfl
theorem yJ (i j : Int) : subD (.int i) (.int j) Q E = Q (.int (i - j)) := propext Iff.rfl
theorem yN (i j : Int) : fdivD (.int i) (.int j) Q E = (CDiv i j ∧ Q (.int (i / j))) := propext Iff.rfl
theorem yO (i j : Int) : modD (.int i) (.int j) Q E = (0 < j ∧ Q (.int (i % j))) := propext Iff.rfl
theorem yP (i j : Int) : ltD (.int i) (.int j) Q E = Q (.bool (decide (i < j))) := propext Iff.rfl
theorem yQ (i j : Int) : leD (.int i) (.int j) Q E = Q (.bool (decide (i ≤ j))) := propext Iff.rfl
theorem yR (i j : Int) : gtD (.int i) (.int j) Q E = Q (.bool (decide (j < i))) := propext Iff.rfl
theorem yS (i j : Int) : geD (.int i) (.int j) Q E = Q (.bool (decide (j ≤ i))) := propext Iff.rfl
theorem yc : sItems f ρ QL E = f ρ (fun d => itemsD d QL E) E := propext Iff.rfl
theorem yx : eOfD fd ρ Q E = fd ρ (fun ds => Q (dictE ds)) E := propext Iff.rfl
theorem yy (QK : List (Key × D) → Prop) : dDisp fd ρ QK E = fd ρ (fun ds => QK (mergeG [] ds)) E := propext Iff.rfl
theorem xA (QK : List (Key × D) → Prop) : pNil ρ QK E = QK [] := propext Iff.rfl
theorem yz (QK : List (Key × D) → Prop) : pCons f g fd ρ QK E = f ρ (fun k => orStuck (keyOf k) fun k => g ρ (fun d => fd ρ (fun ds => QK ((k, d) :: ds)) E) E) E := propext Iff.rfl
theorem xB : sSetD i fd Γ k = fd (clean Γ) (fun ds => k.nx (Γ.set i (some (.own (.dct ds))))) k.ex := propext Iff.rfl
theorem xC : sUpd i fd Γ k = ownDAt Γ i fun ds => fd (clean Γ) (fun es => ds.length + es.length ≤ 1000000 ∧ k.nx (Γ.set i (some (.own (.dct (mergeG ds es)))))) k.ex := propext Iff.rfl
theorem xX (T : Tg) (vs : List Nat) (x : D) (kk : Option D → Prop) : lcStep T vs ga f ρ x kk = orStuck (bindT T x) fun l => ga (setAll (wipeR ρ vs) l) (fun b => if b = true then f (setAll (wipeR ρ vs) l) (fun y => kk (some y)) (fun _ => False) else kk none) (fun _ => False) := propext Iff.rfl
theorem xt (T : Tg) (vs : List Nat) : eLc fa T vs ga f ρ QL E = fa ρ (fun xs => xs.length ≤ 1000000 ∧ lcLoop (lcStep T vs ga f ρ) xs [] QL) E := propext Iff.rfl
theorem xw (T : Tg) : sFor fa T F Γ k = fa (clean Γ) (fun xs => forLoop T F k xs Γ) k.ex := propext Iff.rfl
end
theorem lcLoop_spec {step : D → (Option D → Prop) → Prop} (h : D → Option D) : ∀ {xs acc : List D} {Q : List D → Prop}, (∀ x ∈ xs, ∀ k : Option D → Prop, k (h x) → step x k) → Q (acc ++ xs.filterMap h) → lcLoop step xs acc Q
  | [], acc, Q, _, q => by simpa [lcLoop] using q
  | x :: xs, acc, Q, hs, q => by
    unfold lcLoop
    refine hs x List.mem_cons_self _ ?_
    refine lcLoop_spec h (fun y hy => hs y (List.mem_cons_of_mem _ hy)) ?_
    cases e : h x with
    | none => simpa [List.filterMap_cons, e] using q
    | some y => simpa [List.filterMap_cons, e] using q
theorem lcLoop_map {step : D → (Option D → Prop) → Prop} (h : D → D) {xs : List D} {Q : List D → Prop} (hs : ∀ x ∈ xs, ∀ k : Option D → Prop, k (some (h x)) → step x k) (q : Q (xs.map h)) : lcLoop step xs [] Q := by
  refine lcLoop_spec (fun x => some (h x)) hs ?_
  simpa using q
theorem sh_seq {n : Nat} {ds : List D} (h : ∀ d ∈ ds, d.canLay0 = true ∧ d.depth ≤ n) : PyData.canLayAll0 ds = true ∧ PyData.depthAll ds ≤ n := by
  induction ds with
  | nil => exact ⟨by simp [PyData.canLayAll0], by simp [PyData.depthAll]⟩
  | cons x r ih =>
    obtain ⟨h1, h2⟩ := ih fun d hd => h d (List.mem_cons_of_mem _ hd)
    obtain ⟨h3, h4⟩ := h x List.mem_cons_self
    refine ⟨by simp [PyData.canLayAll0, h1, h3], ?_⟩
    simp only [PyData.depthAll]
    omega
theorem sh_tuple {n : Nat} {ds : List D} (h : ∀ d ∈ ds, d.canLay0 = true ∧ d.depth ≤ n) (hn : n ≤ 63 := by decide) : SeqAt.shaped (.tuple ds) = true := by
  obtain ⟨h1, h2⟩ := sh_seq h
  unfold SeqAt.shaped
  simp [PyData.canLay0, PyData.depth, h1]
  omega
theorem sh_list {n : Nat} {ds : List D} (h : ∀ d ∈ ds, d.canLay0 = true ∧ d.depth ≤ n) (hn : n ≤ 63 := by decide) : SeqAt.shaped (.list ds) = true := by
  obtain ⟨h1, h2⟩ := sh_seq h
  unfold SeqAt.shaped
  simp [PyData.canLay0, PyData.depth, h1]
  omega
def intsD (ns : List Int) : List D := ns.map .int
theorem ints_flat {ns : List Int} : ∀ d ∈ intsD ns, d.canLay0 = true ∧ d.depth ≤ 0 := by
  intro d hd
  obtain ⟨i, _, rfl⟩ := List.mem_map.mp hd
  exact ⟨by simp [PyData.canLay0], by simp [PyData.depth]⟩
theorem sh_ints (ns : List Int) : SeqAt.shaped (.tuple (intsD ns)) = true := sh_tuple ints_flat
theorem sh_intsL (ns : List Int) : SeqAt.shaped (.list (intsD ns)) = true := sh_list ints_flat
theorem upTo_ints (n : Nat) : upTo 0 n = intsD ((List.range n).map fun i : Nat => (i : Int)) := by
  unfold upTo intsD
  rw [List.map_map]
  congr 1
  funext i
  simp
end
def ownK (Q : List (Key × D) → Prop) : Option (Option Ent) → Prop
  | some (some (.own (.dct ds))) => Q ds
  | _ => False
section
variable {Q : D → Prop} {E : Str → Prop}
theorem xD (Γ : Env) (i : Nat) (R : List (Key × D) → Prop) : ownDAt Γ i R = ownK R Γ[i]? := by
  unfold ownDAt ownK
  generalize Γ[i]? = o
  match o with
  | none => rfl
  | some none => rfl
  | some (some (.val d)) => rfl
  | some (some (.own (.lst d))) => rfl
  | some (some (.own (.dct d))) => rfl
  | some (some (.own (.ndc d))) => rfl
theorem xE (R : List (Key × D) → Prop) (ds : List (Key × D)) : ownK R (some (some (.own (.dct ds)))) = R ds := propext Iff.rfl
theorem xH (ds : List (Key × D)) : dataOf (.dct ds) = dictE ds := rfl
theorem xI (ds : List D) : dataOf (.lst ds) = .list ds := rfl
theorem xJ (x : Str) : keyOf (.str x) = some (.inr x) := rfl
theorem xK (i : Int) : keyOf (.int i) = some (.inl i) := rfl
theorem xL (a b : String) : (Str.ofString a = Str.ofString b) = (a = b) := propext ⟨ofString_inj, fun h => by rw [h]⟩
theorem xM (a b : Str) : ((Sum.inr a : Key) = Sum.inr b) = (a = b) := propext ⟨fun h => by injection h, fun h => by rw [h]⟩
theorem xN (a b : Int) : ((Sum.inl a : Key) = Sum.inl b) = (a = b) := propext ⟨fun h => by injection h, fun h => by rw [h]⟩
theorem xO {β : Type} (l : List (Key × β)) : mergeG l [] = l := rfl
theorem xP {β : Type} (l : List (Key × β)) (k : Key) (v : β) (r : List (Key × β)) : mergeG l ((k, v) :: r) = mergeG (putG l k v) r := rfl
theorem xQ {β : Type} (k : Key) (v : β) : putG [] k v = [(k, v)] := rfl
theorem xR {β : Type} (j k : Key) (u v : β) (l : List (Key × β)) (h : ¬ j = k) : putG ((j, u) :: l) k v = (j, u) :: putG l k v := by
  unfold putG
  simp only [List.any_cons, decide_eq_false h, Bool.false_or, List.map_cons, if_neg h]
  split <;> rfl
theorem xS {β : Type} (j k : Key) (u : β) (l : List (Key × β)) : lookG ((j, u) :: l) k = if j = k then some u else lookG l k := by
  unfold lookG
  rw [List.find?_cons]
  by_cases h : j = k
  · simp [h]
  · simp [h]
theorem xT (ds : List (Key × D)) (d : D) : dgetD (dictE ds) d Q E = orStuck (keyOf d) fun k => orStuck (lookG ds k) Q := by
  show orStuck (keyOf d) (fun k => orStuck (dlook (ds.map fun p => (kD p.1, p.2)) k) Q) = _
  simp only [dlook_E]
theorem xU (m : Int) : m__law_draw [sD, tD, .int m] Q E = (0 < m ∧ m < 1073741824 ∧ ∀ r : Int, 0 ≤ r → r < m → Q (.int r)) := by
  show (sD = sD ∧ tD = tD ∧ 0 < m ∧ m < 1073741824 ∧ ∀ r : Int, 0 ≤ r → r < m → Q (.int r)) = _
  simp
theorem xV : m__law_begun [] Q E = Q tD := by
  show (([] : List D) = [] ∧ Q tD) = _
  simp
theorem pickW (ws : List String) {i : Int} {Q : D → Prop} (h0 : 0 ≤ i) (h1 : i < ws.length) (h : ∀ w ∈ ws, Q (.str (Str.ofString w))) : orStuck (atI (ws.map fun w => PyData.str (Str.ofString w)) i) Q := by
  rw [atI_nat h0 (by simpa using h1)]
  show Q _
  rw [List.getElem_map]
  exact h _ (List.getElem_mem _)
theorem pickWn (ws : List String) (n : Nat) {i : Int} {Q : D → Prop} (h0 : 0 ≤ i) (h1 : i < n) (hn : n ≤ ws.length) (h : ∀ w ∈ ws.take n, Q (.str (Str.ofString w))) : orStuck (atI (ws.map fun w => PyData.str (Str.ofString w)) i) Q := by
  rw [atI_nat h0 (by simp; omega)]
  show Q _
  rw [List.getElem_map]
  refine h _ ?_
  rw [List.mem_take_iff_getElem]
  exact ⟨i.toNat, by omega, rfl⟩
theorem xW (i : Nat) (d : D) : bindT (.name i) d = some [(i, d)] := by unfold bindT; rfl
theorem lcLoop_ints {step : D → (Option D → Prop) → Prop} (h : Int → Int) (n : Nat) {Q : List D → Prop} (hs : ∀ i : Nat, i < n → ∀ k : Option D → Prop, k (some (.int (h i))) → step (.int i) k) (q : Q (intsD ((List.range n).map fun i : Nat => h i))) : lcLoop step (upTo 0 n) [] Q := by
  refine lcLoop_map (fun d => match d with | .int i => .int (h i) | d => d) (fun x hx k hk => ?_) ?_
  · rw [upTo_ints] at hx
    obtain ⟨i, hi, rfl⟩ := List.mem_map.mp hx
    obtain ⟨j, hj, rfl⟩ := List.mem_map.mp hi
    exact hs j (List.mem_range.mp hj) k hk
  · rw [upTo_ints]
    unfold intsD at *
    rw [List.map_map, List.map_map] at *
    exact q
theorem xY (i : Int) (r : List D) : SeqAt.shaped (.tuple (.int i :: r)) = SeqAt.shaped (.tuple r) := by simp [SeqAt.shaped, PyData.canLay0, PyData.canLayAll0, PyData.depth, PyData.depthAll]
theorem xZ (s : String) (r : List D) : SeqAt.shaped (.tuple (.str (Str.ofString s) :: r)) = SeqAt.shaped (.tuple r) := by simp [SeqAt.shaped, PyData.canLay0, PyData.canLayAll0, PyData.depth, PyData.depthAll, strOk_of]
theorem xb (b : Bool) (r : List D) : SeqAt.shaped (.tuple (.bool b :: r)) = SeqAt.shaped (.tuple r) := by simp [SeqAt.shaped, PyData.canLay0, PyData.canLayAll0, PyData.depth, PyData.depthAll]
theorem xi (r : List D) : SeqAt.shaped (.tuple (.none :: r)) = SeqAt.shaped (.tuple r) := by simp [SeqAt.shaped, PyData.canLay0, PyData.canLayAll0, PyData.depth, PyData.depthAll]
theorem xj : SeqAt.shaped (.tuple []) = true := rfl
theorem xk (a : D) (l : List D) : PyData.eqv (.tuple (a :: l)) (.tuple []) = false := by simp [PyData.eqv, PyData.eqvAll]
theorem xl (a : D) (l : List D) : PyData.eqv (.tuple []) (.tuple (a :: l)) = false := by simp [PyData.eqv, PyData.eqvAll]
theorem xm : PyData.eqv (.tuple []) (.tuple []) = true := by simp [PyData.eqv, PyData.eqvAll]
theorem xn (a b : D) (l m : List D) : PyData.eqv (.tuple (a :: l)) (.tuple (b :: m)) = (PyData.eqv a b && PyData.eqv (.tuple l) (.tuple m)) := by simp [PyData.eqv, PyData.eqvAll]
end
end DL
namespace DL
open PySem PySem.Spec PyProof.Rows L2
section
theorem pair_laid {X : Cx} {pins : List (Addr × Obj)} {σ : L2.St} {H : Hp} {s : Shared} {h2 : Heap} {ch : List Addr} {x y : V} {u v : Value} {tk : Nat} (I : Inv X pins σ H s) (k : ∀ b o, b ∉ ch → s.heap.get? b = some o → h2.get? b = some o) (hf : ∀ b ∈ ch, FpOk X pins H b)
    (hT : h2.get? s.heap.objs.size = some (tupO [u, v] 0)) (ru : RelV x u) (rv : RelV y v) : Inv X pins σ (upd H s.heap.objs.size (.frz (tupO [u, v] 0) (.tup [x, y]))) { s with heap := h2, toks := tk } :=
  I.turnedNew (ch := ch) k hf (Nat.le_refl _) (show ObjOk _ _ _ h2 _ (.frz (tupO [u, v] 0) (.tup [x, y])) from ⟨hT, by show 2 ≤ sizeLine; decide, [u, v], .cons ru (.cons rv .nil), _, hT, rfl, 0, rfl⟩)
def Fz (H : Hp) (T : Addr) (x y : V) (H' : Hp) : Prop := ∃ o : Obj, o.dict = none ∧ H T = none ∧ H' = upd H T (.frz o (.tup [x, y]))
def ItzF (K : PySem.W.Frag) (a b : Addr) : It := ⟨(Itz K a b).go, fun i H v H' => ∃ T x y, v = .ref T ∧ Fz H T x y H' ∧ (∀ xs, SqL K H a xs → xs[i]? = some x) ∧ ∀ ys, SqL K H b ys → ys[i]? = some y, (Itz K a b).stop⟩
theorem turn_zipF {P : Program} {w : World} {K : PySem.W.Frag} {elts : List Expr} {kk : Nat} {tpos : Pos} {a b z TI TO i1 i2 : Addr} (D : ZipApart z TI TO i1 i2 a b) :
    Turn P w K (.Tuple elts kk tpos) (ItzF K a b) [z, TI, TO, i1, i2] z (fun i h => IsZip h z TI TO .none ∧ IsPair h TI (.ref i1) (.ref i2) ∧ (∃ x y, IsPair h TO x y) ∧ h.IsListIter i1 a i ∧ h.IsListIter i2 b i) :=
  { (turn_zip (P := P) (w := w) (K := K) (elts := elts) (kk := kk) (tpos := tpos) D) with
    item := fun X eP ew eK ec i pins s σ H E I hf st hg => by
      subst eP ew eK
      obtain ⟨w1, w2, ⟨x0, y0, w3⟩, w4, w5⟩ := st
      obtain ⟨xs, ys, x, y, qx, qy, ex, ey⟩ := hg
      obtain ⟨as, ra, pa, _⟩ := I.list qx
      obtain ⟨bs, rb, pb, _⟩ := I.list qy
      obtain ⟨u, eu, ru⟩ := ra.get ex
      obtain ⟨v, ev, rv⟩ := rb.get ey
      have zl := Heap.lt_size w1
      refine wpAny_pyNext_zip_item D w1 w2 w3 w4 w5 pa.isList pb.isList (x := u) (y := v) (by simpa using eu) (by simpa using ev) fun h1 z1 t1 l1 m1 n1 sz kp => ?_
      refine ⟨_, rfl, wpAny_letOwnedTupleGo_zip (s := { s with heap := h1 }) z1 fun h2 z2 sb => ?_⟩
      have nT : h2.get? s.heap.objs.size = some (tupO [u, v] 0) := (sb.2 _ (Nat.ne_of_gt zl)).trans n1
      have I1 := pair_laid (tk := s.toks) (ch := [z, TI, TO, i1, i2]) I (fun c o nc e => (sb.2 c (by simp at nc; exact nc.1)).trans (kp c o (by simp at nc; exact nc.1) (by simp at nc; exact nc.2.2.1) (by simp at nc; exact nc.2.2.2.1) (by simp at nc; exact nc.2.2.2.2) e)) hf nT ru rv
      refine ⟨.ref s.heap.objs.size, _, I1, rfl, ⟨_, x, y, rfl, ⟨_, rfl, I.hok.fresh (Nat.le_refl _), rfl⟩, fun l hl => ?_, fun l hl => ?_⟩, ⟨z2, ?_, ⟨u, v, ?_⟩, ?_, ?_⟩, fun c hc => ?_⟩
      · exact I.list_inj hl qx ▸ ex
      · exact I.list_inj hl qy ▸ ey
      · exact (sb.2 TI D.TIz).trans (kp TI _ D.TIz D.TITO D.TIi1 D.TIi2 w2)
      · exact (sb.2 TO D.TOz).trans t1
      · exact l1.at fun o e => (sb.2 i1 D.i1z).trans e
      · exact m1.at fun o e => (sb.2 i2 D.i2z).trans e
      · have lt : c < s.heap.objs.size := by
          simp only [List.mem_cons, List.not_mem_nil, or_false] at hc
          rcases hc with rfl | rfl | rfl | rfl | rfl
          · exact zl
          · exact Heap.lt_size w2
          · exact Heap.lt_size w3
          · exact Heap.lt_size w4.choose_spec.1
          · exact Heap.lt_size w5.choose_spec.1
        exact (upd_ne (Nat.ne_of_lt lt)).trans (hf c hc).1 }
def iZipF (K : PySem.W.Frag) (ta : TA) : TI := fun σ H R => ta σ H fun vs H1 => ∃ a b xs ys, vs = [.ref a, .ref b] ∧ SqL K H1 a xs ∧ SqL K H1 b ys ∧ R (ItzF K a b) H1
theorem pi_zipF {X : Cx} {e e2 : Expr} {ta : TA} {p pos tpos : Pos} {elts : List Expr} {kk : Nat} (hg : Gl X "zip") (hm : X.mg "zip" = none) (ha : PA X [e, e2] ta) (hs : starEach [e, e2] X.env = (false, eval e X.env) :: starEach [e2] X.env) (hpl : (backTo pos (starEach [e2] X.env)).any (·.1) = false) :
    PI X (.Tuple elts kk tpos) (.Call (.Name "zip" p) [e, e2] [] pos) (iZipF X.K ta) := by
  refine ⟨fun pins s σ H R I h => Call_ (ld_blt I hg hm PyProof.Rows.boot_zip (PyProof.Rows.callWith_type1 (thn (ha.run pos pins s σ H _ I h) fun us s1 ⟨vs, H1, I1, r1, a, b, xs, ys, ex, qx, qy, q⟩ => ?_) hs hpl))⟩
  subst ex
  obtain ⟨u, r1', r2'⟩ : ∃ u, us = .ref a :: u ∧ u = [.ref b] := by
    cases r1 with
    | cons r rr =>
      cases rr with
      | cons r' rr =>
        cases rr
        cases r
        cases r'
        exact ⟨_, rfl, rfl⟩
  subst r1' r2'
  obtain ⟨as, ra, pa, _⟩ := I1.list qx
  obtain ⟨bs, rb, pb, _⟩ := I1.list qy
  refine call_zip_2 pa.isList pb.isList fun h1 w1 w2 w3 w4 w5 sz kp => wpAny_pyIter_zip w1 ?_
  refine ⟨s1.heap.objs.size + 4, [s1.heap.objs.size + 4, s1.heap.objs.size + 2, s1.heap.objs.size + 3, s1.heap.objs.size, s1.heap.objs.size + 1], _, _, H1, rfl, I1.kept (t' := s1.toks) kp, turn_zipF (PySem.W.ktu_apart s1.heap.objs.size a b pa.lt pb.lt), ⟨w1, w2, ⟨_, _, w3⟩, w4, w5⟩, fun c hc => ?_, q⟩
  have le : s1.heap.objs.size ≤ c := by
    simp only [List.mem_cons, List.not_mem_nil, or_false] at hc
    rcases hc with rfl | rfl | rfl | rfl | rfl <;> omega
  exact I1.fpOk le (I1.hok.fresh le)
def IteF (K : PySem.W.Frag) (a : Addr) : It := ⟨(Ite K a).go, fun i H v H' => ∃ T x, v = .ref T ∧ Fz H T (.int (i : Nat)) x H' ∧ ∀ xs, SqL K H a xs → xs[i]? = some x, (Ite K a).stop⟩
theorem turn_enumF {P : Program} {w : World} {K : PySem.W.Frag} {elts : List Expr} {kk : Nat} {tpos : Pos} (a e it : Addr) :
    Turn P w K (.Tuple elts kk tpos) (IteF K a) [e, it] e (fun i h => (∃ old, IsEnum h e it ((i : Nat) : Int) old) ∧ h.IsListIter it a i ∧ e ≠ it) :=
  { (turn_enum (P := P) (w := w) (K := K) (elts := elts) (kk := kk) (tpos := tpos) a e it) with
    item := fun X eP ew eK ec i pins s σ H E I hf st hg => by
      subst eP ew eK
      obtain ⟨⟨old, w1⟩, w2, ne⟩ := st
      obtain ⟨xs, x, qx, ex⟩ := hg
      obtain ⟨as, ra, pa, _⟩ := I.list qx
      obtain ⟨u, eu, ru⟩ := ra.get ex
      have zl := Heap.lt_size w1
      refine wpAny_pyNext_enum_item w1 w2 pa.isList (x := u) (by simpa using eu) ne fun h1 ow l1 n1 sz kp => ?_
      refine ⟨_, rfl, wpAny_letOwnedTupleGo_enum (s := { s with heap := h1, toks := s.toks + 1 }) ow fun h2 z2 sb => ?_⟩
      have nT : h2.get? s.heap.objs.size = some (tupO [.int i s.toks, u] 0) := (sb.2 _ (Nat.ne_of_gt zl)).trans n1
      have I1 := pair_laid (tk := s.toks + 1) (x := .int (i : Nat)) (ch := [e, it]) I (fun c o nc q => (sb.2 c (by simp at nc; exact nc.1)).trans (kp c o (by simp at nc; exact nc.1) (by simp at nc; exact nc.2) q)) hf nT ⟨_, rfl⟩ ru
      refine ⟨.ref s.heap.objs.size, _, I1, rfl, ⟨_, x, rfl, ⟨_, rfl, I.hok.fresh (Nat.le_refl _), rfl⟩, fun l hl => I.list_inj hl qx ▸ ex⟩, ⟨⟨u, ?_⟩, l1.at fun o q => (sb.2 it (Ne.symm ne)).trans q, ne⟩, fun c hc => ?_⟩
      · rw [show ((i + 1 : Nat) : Int) = (i : Int) + 1 by omega]
        exact z2
      · have lt : c < s.heap.objs.size := by
          simp only [List.mem_cons, List.not_mem_nil, or_false] at hc
          rcases hc with rfl | rfl
          · exact zl
          · exact Heap.lt_size w2.choose_spec.1
        exact (upd_ne (Nat.ne_of_lt lt)).trans (hf c hc).1 }
end
section
variable [Nm] {O : Ob} {X : Cx} {E : XK} {a b : Expr} {pos : Pos}
def sParFF (i j : Nat) (fa fb : Rho → WD (List D)) : FS := fun Γ k => fa (clean Γ) (fun xs => fb (clean Γ) (fun ys => k.nx ((Γ.set i (some (.own (.lst xs)))).set j (some (.own (.lst ys))))) k.ex) k.ex
theorem ds_parFF {i j : Nat} {x y : Str} {fa fb : Rho → WD (List D)} {px py pt : Pos} {kt k2 pt2} (hc : X.calm = true) (hN : X.N.Nodup) (ha : DF O X E a fa) (hb : DF O X E b fb) (hw : swappedStores [.Tuple [.Name x px, .Name y py] kt pt] (.Tuple [a, b] k2 pt2) X.env = pure (some [x, y]))
    (hi : X.N[i]? = some x := by rfl) (hj : X.N[j]? = some y := by rfl) (hij : i ≠ j := by decide)
    (hx : X.env.scope.names.lookup x = some .local := by rfl) (hy : X.env.scope.names.lookup y = some .local := by rfl)
    (hs : swapsWithSole [.Tuple [.Name x px, .Name y py] kt pt] (.Tuple [a, b] k2 pt2) pos.line X.env = pure false := by rfl)
    (h1 : starEach [a, b] X.env = (false, eval a X.env) :: starEach [b] X.env := by rfl) (h2 : starEach [b] X.env = (false, eval b X.env) :: starEach [] X.env := by rfl) :
    DS O X E (.Assign [.Tuple [.Name x px, .Name y py] kt pt] (.Tuple [a, b] k2 pt2) pos) (sParFF i j fa fb) := by
  obtain ⟨ta, a1, a2⟩ := ha
  obtain ⟨tb, b1, b2⟩ := hb
  refine ⟨_, ps_par hc hN hi hj hij hx hy (pa_cons a1 (pa_cons b1 pa_nil h2) h1) hw hs, fun H0 P0 Γ σ H own k D hd r hf l => a2 _ _ σ H _ _ _ (r.dom hd) r.rs hf (fun p vs ds H1 s1 n1 e1 v1 q1 => ?_) (l.exH r)⟩
  have hp : ∀ c, (Pw P0 own c ∨ c = p) → Pw P0 own c ∨ Nn H c := fun c z => z.imp id fun q => by rw [q]; exact n1
  have hd1 : Dom H1 (fun c => Pw P0 own c ∨ c = p) := (r.dom hd).own s1 e1 mb_lst
  refine b2 (fun c => Pw P0 own c ∨ c = p) _ σ H1 _ _ _ hd1 (r.rs.kf hp (.of s1) (r.dom hd)) q1 (fun q ws es H2 s2 n2 e2 v2 q2 => ⟨_, _, rfl, ?_⟩) ((l.exH r).same s1)
  have r1 := own_new (i := i) (c := .lst ds) r hd s1 n1 ⟨vs, e1, v1⟩
  have r2 := own_new (i := j) (c := .lst es) r1 hd s2 n2 ⟨ws, e2, ?_⟩
  · exact l.nx _ _ _ _ r2 q2
  · refine v2.less fun c z => ?_
    rcases z with z | z
    · refine .inl ?_
      rcases z with z | ⟨m, z⟩
      · exact .inl (.inl z)
      · unfold ownSet at z
        split at z
        · cases z
          exact .inr rfl
        · exact .inl (.inr ⟨m, z⟩)
    · exact .inr z
def sPar3 (i j m : Nat) (f : Rho → WD (List D)) : FS := fun Γ k => f (clean Γ) (fun ds => match ds with
  | [d, e, c] => k.nx (((Γ.set i (some (.val d))).set j (some (.val e))).set m (some (.val c)))
  | _ => False) k.ex
def zipD : List D → WD (List D)
  | [.list xs, .list ys] => fun Q _ => Q ((xs.zip ys).map fun p => .tuple [p.1, p.2])
  | _ => fun _ _ => False
theorem di_zip {elts : List Expr} {kk : Nat} {tpos p : Pos} {e e2 : Expr} {fa : Rho → WD (List D)} (hg : Gl X "zip") (hm : X.mg "zip" = none) (ha : DA O X E [e, e2] fa)
    (hs : starEach [e, e2] X.env = (false, eval e X.env) :: starEach [e2] X.env := by rfl) (hpl : (backTo pos (starEach [e2] X.env)).any (·.1) = false := by rfl) : DI O X E (.Tuple elts kk tpos) (.Call (.Name "zip" p) [e, e2] [] pos) (eCbF zipD fa) := by
  obtain ⟨ta, a1, a2⟩ := ha
  refine ⟨_, pi_zipF hg hm a1 hs hpl, fun P ρ σ H Qd Ed R hd hr hf hQ hE => a2 P ρ σ H _ Ed _ hd hr hf (fun vs ds H1 s1 h _ q => ?_) hE⟩
  have hm1 := hd.same s1
  cases h with
  | nil => exact q.elim
  | cons h1 h =>
    cases h with
    | nil => cases h1 <;> exact q.elim
    | cons h2 h =>
      cases h with
      | cons _ _ => cases h1 <;> cases h2 <;> exact q.elim
      | nil =>
        cases h1 with
        | @lst a xs ds e1 n1 r1 =>
          cases h2 with
          | @lst b ys es e2 n2 r2 =>
            refine ⟨a, b, _, _, rfl, .inl (.inl e1), .inl (.inl e2), hQ _ _ H1 s1 (fun P2 H2 pp hp k2 => ?_) q⟩
            have f1 := k2.all _ _ e1 (out_of hp e1 no_lst n1) no_lst
            have f2 := k2.all _ _ e2 (out_of hp e2 no_lst n2) no_lst
            have q1 : SqL X.K H2 a xs := .inl (.inl f1)
            have q2 : SqL X.K H2 b ys := .inl (.inl f2)
            have l1 := r1.length
            have l2 := r2.length
            refine ⟨fun i hi => ?_, fun i x H' d y e3 => ?_, fun i hi => ⟨xs, ys, q1, q2, ?_⟩⟩
            · rw [List.length_map, List.length_zip] at hi
              obtain ⟨x, ex⟩ := get_lt (show i < xs.length by omega)
              obtain ⟨y, ey⟩ := get_lt (show i < ys.length by omega)
              exact ⟨xs, ys, x, y, q1, q2, ex, ey⟩
            · obtain ⟨T, u, v, rfl, ⟨o, no, nT, rfl⟩, y1, y2⟩ := y
              refine ⟨same_new nT, ?_⟩
              rw [List.getElem?_map] at e3
              cases ez : (ds.zip es)[i]? with
              | none =>
                rw [ez] at e3
                cases e3
              | some pr =>
                rw [ez] at e3
                cases e3
                rw [List.getElem?_zip_eq_some] at ez
                obtain ⟨u', eu, hu⟩ := r1.get ez.1
                obtain ⟨v', ev, hv⟩ := r2.get ez.2
                have z1 := y1 xs q1
                rw [eu] at z1
                cases z1
                have z2 := y2 ys q2
                rw [ev] at z2
                cases z2
                exact .tup (.inl ⟨o, no, upd_same⟩) (.cons ((hu.kf hp k2 hm1).same (same_new nT)) (.cons ((hv.kf hp k2 hm1).same (same_new nT)) .nil))
            · rw [List.length_map, List.length_zip] at hi
              omega
          | _ => exact q.elim
        | _ => cases h2 <;> exact q.elim
def enumerateD : List D → WD (List D)
  | [.list xs] => fun Q _ => Q ((upTo 0 xs.length).zip xs |>.map fun p => .tuple [p.1, p.2])
  | [.tuple xs] => fun Q _ => Q ((upTo 0 xs.length).zip xs |>.map fun p => .tuple [p.1, p.2])
  | _ => fun _ _ => False
end
section
theorem meets_enumerate_newT (l : Addr) (items : Array Value) (n : Nat) (dct : Option Addr) (sl : Array (Option Value)) :
    Meets (Builtin.«enumerate.__new__» ⟨[.type "enumerate", .ref l], []⟩) (fun _ R s => s.heap.get? l = some { cls := .type "tuple", dict := dct, data := .seq items n, slots := sl } ∧
      R (.ok (.ret (.ref (s.heap.push { cls := .type "tuple_iterator", data := .fields #[.ref l, .int 0 0] }).objs.size)))
        { s with heap := (s.heap.push { cls := .type "tuple_iterator", data := .fields #[.ref l, .int 0 0] }).push { cls := .type "enumerate", data := .fields #[.none, .bool false, .ref s.heap.objs.size, rawInt 0, .none, .none] } }) :=
  .of_wp fun prog w A R s h => by
    obtain ⟨hp, g, d, tk, os⟩ := s
    obtain ⟨hl, h⟩ := h
    have hsub := sub_enumerate
    have hL : Heap.IsTuple (Shared.heap ⟨hp, g, d, tk, os⟩) l items := ⟨_, hl, rfl, n, rfl⟩
    wp_walk using AutoSeq1.wpAny_loadPart' hl
    refine wpAny_stack_any fun st => wpAny_pure ?_
    split
    · rename_i c _ _ _ _ _
      cases (c == Value.type "enumerate")
      · wp_walk using AutoSeq1.wpAny_loadPart' hl, wpAny_pyIter_tuple hL
        exact ⟨_, rfl, h⟩
      · wp_walk using AutoSeq1.wpAny_loadPart' hl, wpAny_pyIter_tuple hL
        exact ⟨_, rfl, h⟩
    · wp_walk using AutoSeq1.wpAny_loadPart' hl, wpAny_pyIter_tuple hL
      exact ⟨_, rfl, h⟩
theorem draws_tuple {prog : Program} {w : World} {A : Around} (hh : A.handled = none) (it l : Addr) (hne : l ≠ it) (items : Array Value) :
    Draws prog w A it [it, l] items.size (fun i v => items[i]? = some v) (fun i h => h.IsTupleIter it l i ∧ h.IsTuple l items) where
  live := fun _ _ st => let ⟨o, ho, _⟩ := st.1; ⟨o, ho⟩
  frame := fun _ _ _ st hk => ⟨let ⟨o, ho, hc, hd⟩ := st.1; ⟨o, hk it (by simp) o ho, hc, hd⟩, let ⟨o, ho, hc, n, hd⟩ := st.2; ⟨o, hk l (by simp) o ho, hc, n, hd⟩⟩
  item := fun i s Q E hi st hQ => by
    refine wpAny_nextOf_tuple_item st.1 st.2 (x := items[i]) (by simp [hi]) fun h' hit' hs' => ?_
    exact hQ _ h' s.toks (by simp [hi]) ⟨hit', st.2.extBut hs'.extBut hne⟩ hs'
  done := fun s Q E st hE => wpAny_nextOf_tuple_end hh st.1 st.2 (by simp) hE
/-- the tuple at a, its items in new pairs -/
def IteT (K : PySem.W.Frag) (a : Addr) : It :=
  ⟨fun i H => ∃ (xs : List V) (x : V), SqT K H a xs ∧ xs[i]? = some x, fun i H v H' => ∃ T x, v = .ref T ∧ Fz H T (.int (i : Nat)) x H' ∧ ∀ xs, SqT K H a xs → xs[i]? = some x, fun i H => ∃ xs : List V, SqT K H a xs ∧ xs.length ≤ i⟩
theorem turn_enumT {P : Program} {w : World} {K : PySem.W.Frag} {elts : List Expr} {kk : Nat} {tpos : Pos} (a e it : Addr) :
    Turn P w K (.Tuple elts kk tpos) (IteT K a) [e, it] e (fun i h => (∃ old, IsEnum h e it ((i : Nat) : Int) old) ∧ h.IsTupleIter it a i ∧ e ≠ it ∧ a ≠ it ∧ e ≠ a) where
  mem := by simp
  obj := fun i h st b hb => by
    obtain ⟨⟨old, he⟩, ⟨o, ho, hc, hd⟩, _⟩ := st
    have e' : b = e ∨ b = it := by simpa using hb
    rcases e' with z | z
    · rw [z]
      exact ⟨_, he, fun v q => nomatch q⟩
    · rw [z]
      exact ⟨o, ho, fun v q => by rw [hd] at q; cases q⟩
  keep := fun i h h' st k => let ⟨⟨old, he⟩, ⟨o, ho, hc, hd⟩, hne⟩ := st; ⟨⟨old, k e (by simp) _ he⟩, ⟨o, k it (by simp) o ho, hc, hd⟩, hne⟩
  item := by
    intro X hP hw hK hc i pins s σ H E I hf st hg
    subst hP hw hK
    obtain ⟨⟨old, he⟩, hit, hne, hai, hea⟩ := st
    obtain ⟨xs, x, hq, hx⟩ := hg
    obtain ⟨its, rv, p, hz⟩ := I.tuple hq
    obtain ⟨u, hu, ru⟩ := rv.get hx
    have hel : e < s.heap.objs.size := Heap.lt_size he
    have hil : it < s.heap.objs.size := by
      obtain ⟨_, q, _⟩ := hit
      exact Heap.lt_size q
    have hlen : i < its.toArray.size := by
      rw [List.size_toArray]
      exact (List.getElem?_eq_some_iff.mp hu).1
    refine wpAny_pyNext_enum_itemD (draws_tuple (A := X.A.in1) (I.ok.hd hc) it a hai its.toArray) he ⟨hit, p⟩ hlen hne (by simp [hne, hea]) fun x' h' tk px ho hst' hT hsz hk => ?_
    have ex : x' = u := by
      have px' : its[i]? = some x' := by simpa using px
      rw [hu] at px'
      exact (Option.some.inj px').symm
    subst ex
    refine ⟨_, rfl, wpAny_letOwnedTupleGo_enum (s := { s with heap := h', toks := tk + 1 }) ho fun h'' he' sb => ?_⟩
    have nT : h''.get? s.heap.objs.size = some (tupO [.int i tk, x'] 0) := (sb.2 _ (Nat.ne_of_gt hel)).trans hT
    have I1 := pair_laid (tk := tk + 1) (x := .int (i : Nat)) (ch := [e, it]) I (fun c o nc q => (sb.2 c (by simp at nc; exact nc.1)).trans (hk c o (by simp at nc; exact nc.1) (by simp at nc; exact nc.2) q)) hf nT ⟨_, rfl⟩ ru
    refine ⟨.ref s.heap.objs.size, _, I1, rfl, ⟨_, x, rfl, ⟨_, rfl, I.hok.fresh (Nat.le_refl _), rfl⟩, fun ys hy => ?_⟩, ⟨⟨x', ?_⟩, ?_, hne, hai, hea⟩, fun b hb => ?_⟩
    · obtain ⟨its', rv', p', _⟩ := I.tuple hy
      have e1 : its' = its := by
        obtain ⟨o, ho, hc, n, hd⟩ := p
        obtain ⟨o', ho', hc', n', hd'⟩ := p'
        rw [ho] at ho'
        cases ho'
        rw [hd] at hd'
        injection hd' with hd' _
        have := congrArg Array.toList hd'
        simpa using this.symm
      subst e1
      rw [Vals.inj rv' rv]
      exact hx
    · have e1 : ((i + 1 : Nat) : Int) = (i : Int) + 1 := by omega
      rw [e1]
      exact he'
    · obtain ⟨o, h1, h2, h3⟩ := hst'.1
      exact ⟨o, (sb.2 it (Ne.symm hne)).trans h1, h2, h3⟩
    · have hb' : b < s.heap.objs.size := by
        have e' : b = e ∨ b = it := by simpa using hb
        rcases e' with z | z
        · rw [z]
          exact hel
        · rw [z]
          exact hil
      rw [upd_ne (Nat.ne_of_lt hb')]
      exact (hf b hb).1
  done := by
    intro X hP hw hK hc i pins s σ H E I hf st hg
    subst hP hw hK
    obtain ⟨⟨old, he⟩, hit, hne, hai, hea⟩ := st
    obtain ⟨xs, hq, hx⟩ := hg
    obtain ⟨its, rv, p, hz⟩ := I.tuple hq
    obtain ⟨f0, f1, f2, f3, f4, f5⟩ := hf it (by simp)
    have hl := rv.length
    have D : Draws X.prog X.w X.A.in1 it [it, a] i (fun _ _ => True) (fun j h => j = i ∧ h.IsTupleIter it a i ∧ h.IsTuple a its.toArray) :=
      { live := fun _ _ st => let ⟨o, ho, _⟩ := st.2.1; ⟨o, ho⟩
        frame := fun _ _ _ st hk => ⟨st.1, let ⟨o, ho, hc, hd⟩ := st.2.1; ⟨o, hk it (by simp) o ho, hc, hd⟩, let ⟨o, ho, hc, n, hd⟩ := st.2.2; ⟨o, hk a (by simp) o ho, hc, n, hd⟩⟩
        item := fun j s Q E hi st hQ => absurd hi (by rw [st.1]; exact Nat.lt_irrefl _)
        done := fun s Q E st hE => wpAny_nextOf_tuple_end (I.ok.hd hc) st.2.1 st.2.2 (by simp; omega) hE }
    exact wpAny_pyNext_enum_endD D he ⟨rfl, hit, p⟩ fun h' eb => ⟨rfl, I.turned (t' := s.toks) (fun b o hb q => eb b o hb q) f0 f1 f3 f4 f5⟩
  self := fun A i s Q E st h => let ⟨⟨_, he⟩, _⟩ := st; wpAny_pyIter_enum he h
theorem call_enumerate_tuple {prog : Program} {w : World} {A : Around} {E : Value → Shared → Prop} {s : Shared} {l : Addr} {items : Array Value} {Q : Value → Shared → Prop} (hL : s.heap.IsTuple l items)
    (h : ∀ h', IsEnum h' (s.heap.objs.size + 1) s.heap.objs.size 0 .none → h'.IsTupleIter s.heap.objs.size l 0 → h'.objs.size = s.heap.objs.size + 2 →
      (∀ b o, s.heap.get? b = some o → h'.get? b = some o) → Q (.ref (s.heap.objs.size + 1)) { s with heap := h' }) :
    wpAny (model prog w) A (call (.type "enumerate") [.ref l]) Q E s := by
  obtain ⟨⟨c, dct, dt, sl⟩, hl, hc, n, hd⟩ := hL
  replace hc : c = .type "tuple" := hc
  replace hd : dt = .seq items n := hd
  subst hc hd
  refine callType_new F.called_enumerate (by decide) (F.typeCall_enumerate_1 _) (F.newCall_enumerate_1 _) (fun obj => F.args_object_init_2 obj _) F.entry_enumerate_new
    (meets_enumerate_newT l items n dct sl) ⟨hl, ?_⟩
  have hz : (s.heap.push { cls := .type "tuple_iterator", data := .fields #[.ref l, .int 0 0] }).objs.size = s.heap.objs.size + 1 := Heap.size_push ..
  show _ ∧ _
  rw [hz]
  have he : IsEnum ((s.heap.push { cls := .type "tuple_iterator", data := .fields #[.ref l, .int 0 0] }).push
      { cls := .type "enumerate", data := .fields #[.none, .bool false, .ref s.heap.objs.size, rawInt 0, .none, .none] }) (s.heap.objs.size + 1) s.heap.objs.size 0 .none := by
    have := Heap.get?_push_size (s.heap.push { cls := .type "tuple_iterator", data := .fields #[.ref l, .int 0 0] })
      (o := { cls := .type "enumerate", data := .fields #[.none, .bool false, .ref s.heap.objs.size, rawInt 0, .none, .none] }) rfl
    rw [hz] at this
    exact this
  refine ⟨⟨_, he, rfl⟩, h _ he ⟨_, Heap.get?_push_of_some _ (Heap.get?_push_size _ rfl), rfl, rfl⟩ (by rw [Heap.size_push, hz]) fun b o x => Heap.get?_push_of_some _ (Heap.get?_push_of_some _ x)⟩
def iEnumA (K : PySem.W.Frag) (ta : TA) : TI := fun σ H R => ta σ H fun vs H1 => ∃ a xs, vs = [.ref a] ∧ ((SqL K H1 a xs ∧ R (IteF K a) H1) ∨ (SqT K H1 a xs ∧ R (IteT K a) H1))
theorem pi_enumA {X : Cx} {e : Expr} {ta : TA} {p pos tpos : Pos} {elts : List Expr} {kk : Nat} (hg : Gl X "enumerate") (hm : X.mg "enumerate" = none) (ha : PA X [e] ta) (hs : starEach [e] X.env = [(false, eval e X.env)] := by rfl) :
    PI X (.Tuple elts kk tpos) (.Call (.Name "enumerate" p) [e] [] pos) (iEnumA X.K ta) := by
  refine ⟨fun pins s σ H R I h => ?_⟩
  refine Call_ (ld_blt I hg hm boot_enumerate (PyProof.Rows.callWith_type1 (thn (ha.run pos pins s σ H _ I h) fun us s1 ⟨vs, H1, I1, r1, q1⟩ => ?_) hs rfl))
  obtain ⟨a, xs, ex, q1⟩ := q1
  subst ex
  cases r1 with
  | cons r rr =>
    cases rr
    cases r
    have fin : ∀ h', (∀ b o, s1.heap.get? b = some o → h'.get? b = some o) → Inv X pins σ H1 { s1 with heap := h' } ∧ ∀ b, b ∈ [s1.heap.objs.size + 1, s1.heap.objs.size] → s1.heap.objs.size ≤ b := fun h' hk => ⟨I1.kept (t' := s1.toks) hk, fun b hb => by
      have e' : b = s1.heap.objs.size + 1 ∨ b = s1.heap.objs.size := by simpa using hb
      rcases e' with z | z
      · rw [z]
        exact Nat.le_add_right _ _
      · rw [z]
        exact Nat.le_refl _⟩
    rcases q1 with ⟨hq, q⟩ | ⟨hq, q⟩
    · obtain ⟨its, rv, p', hz⟩ := I1.list hq
      refine call_enumerate_list p'.isList fun h' he hit hsz hk => wpAny_pyIter_enum he ?_
      obtain ⟨I2, le⟩ := fin h' hk
      exact ⟨s1.heap.objs.size + 1, [s1.heap.objs.size + 1, s1.heap.objs.size], _, _, H1, rfl, I2, turn_enumF a (s1.heap.objs.size + 1) s1.heap.objs.size, ⟨⟨.none, he⟩, hit, Nat.succ_ne_self _⟩, fun b hb => I1.fpOk (le b hb) (I1.hok.fresh (le b hb)), q⟩
    · obtain ⟨its, rv, p', hz⟩ := I1.tuple hq
      have la : a < s1.heap.objs.size := by
        obtain ⟨o, ho, _⟩ := p'
        exact Heap.lt_size ho
      refine call_enumerate_tuple p' fun h' he hit hsz hk => wpAny_pyIter_enum he ?_
      obtain ⟨I2, le⟩ := fin h' hk
      exact ⟨s1.heap.objs.size + 1, [s1.heap.objs.size + 1, s1.heap.objs.size], _, _, H1, rfl, I2, turn_enumT a (s1.heap.objs.size + 1) s1.heap.objs.size, ⟨⟨.none, he⟩, hit, Nat.succ_ne_self _, Nat.ne_of_lt la, Nat.ne_of_gt (Nat.lt_succ_of_lt la)⟩, fun b hb => I1.fpOk (le b hb) (I1.hok.fresh (le b hb)), q⟩
variable [Nm] {O : Ob} {X : Cx} {E : XK}
theorem enum_get {xs : List D} {i : Nat} {d : D} (e : (((upTo 0 xs.length).zip xs).map fun p => PyData.tuple [p.1, p.2])[i]? = some d) : ∃ x, xs[i]? = some x ∧ d = .tuple [.int (i : Nat), x] := by
  rw [List.getElem?_map] at e
  cases ez : ((upTo 0 xs.length).zip xs)[i]? with
  | none =>
    rw [ez] at e
    cases e
  | some pr =>
    rw [ez] at e
    cases e
    rw [List.getElem?_zip_eq_some] at ez
    refine ⟨_, ez.2, ?_⟩
    have := upTo_get ez.1
    show PyData.tuple [pr.1, pr.2] = _
    rw [this]
    simp
theorem di_enumerate {elts : List Expr} {kk : Nat} {tpos p pos : Pos} {e : Expr} {fa : Rho → WD (List D)} (hg : Gl X "enumerate") (hm : X.mg "enumerate" = none) (ha : DA O X E [e] fa)
    (hs : starEach [e] X.env = [(false, eval e X.env)] := by rfl) : DI O X E (.Tuple elts kk tpos) (.Call (.Name "enumerate" p) [e] [] pos) (eCbF enumerateD fa) := by
  obtain ⟨ta, a1, a2⟩ := ha
  refine ⟨_, pi_enumA hg hm a1 hs, fun P ρ σ H Qd Ed R hd hr hf hQ hE => a2 P ρ σ H _ Ed _ hd hr hf (fun vs ds H1 s1 h _ q => ?_) hE⟩
  have hm1 := hd.same s1
  have len : ∀ xs : List D, (((upTo 0 xs.length).zip xs).map fun p => PyData.tuple [p.1, p.2]).length = xs.length := fun xs => by
    rw [List.length_map, List.length_zip, upTo_len]
    omega
  cases h with
  | nil => exact q.elim
  | cons h1 h =>
    cases h with
    | cons _ _ => cases h1 <;> exact q.elim
    | nil =>
      cases h1 with
      | @lst a xs ds e1 n1 r1 =>
        refine ⟨a, xs, rfl, .inl ⟨.inl (.inl e1), hQ _ _ H1 s1 (fun P2 H2 pp hp k2 => ?_) q⟩⟩
        have f1 := k2.all _ _ e1 (out_of hp e1 no_lst n1) no_lst
        have q1 : SqL X.K H2 a xs := .inl (.inl f1)
        have l1 := r1.length
        refine ⟨fun i hi => ?_, fun i x H' d y e3 => ?_, fun i hi => ⟨xs, q1, ?_⟩⟩
        · rw [len] at hi
          obtain ⟨x, ex⟩ := get_lt (show i < xs.length by omega)
          exact ⟨xs, x, q1, ex⟩
        · obtain ⟨T, u, rfl, ⟨o, no, nT, rfl⟩, y1⟩ := y
          refine ⟨same_new nT, ?_⟩
          obtain ⟨z, ez, rfl⟩ := enum_get e3
          obtain ⟨u', eu, hu⟩ := r1.get ez
          have z1 := y1 xs q1
          rw [eu] at z1
          cases z1
          exact .tup (.inl ⟨o, no, upd_same⟩) (.cons (.int _) (.cons ((hu.kf hp k2 hm1).same (same_new nT)) .nil))
        · rw [len] at hi
          omega
      | @tup a xs ds e1 r1 =>
        refine ⟨a, xs, rfl, .inr ⟨e1.sq, hQ _ _ H1 s1 (fun P2 H2 pp hp k2 => ?_) q⟩⟩
        have n2 : Nl H1 H2 := .kf hp k2 hm1
        have q1 : SqT X.K H2 a xs := (n2.tup e1).sq
        have l1 := r1.length
        refine ⟨fun i hi => ?_, fun i x H' d y e3 => ?_, fun i hi => ⟨xs, q1, ?_⟩⟩
        · rw [len] at hi
          obtain ⟨x, ex⟩ := get_lt (show i < xs.length by omega)
          exact ⟨xs, x, q1, ex⟩
        · obtain ⟨T, u, rfl, ⟨o, no, nT, rfl⟩, y1⟩ := y
          refine ⟨same_new nT, ?_⟩
          obtain ⟨z, ez, rfl⟩ := enum_get e3
          obtain ⟨u', eu, hu⟩ := r1.get ez
          have z1 := y1 xs q1
          rw [eu] at z1
          cases z1
          exact .tup (.inl ⟨o, no, upd_same⟩) (.cons (.int _) (.cons ((hu.kf hp k2 hm1).same (same_new nT)) .nil))
        · rw [len] at hi
          omega
      | _ => exact q.elim
def eStuck : Rho → WD D := fun _ _ _ => False
end
end DL
namespace DL
open PySem PySem.Spec PyProof.Rows L2
section
variable [Nm] {X : Cx}
theorem SqL.ty {pins : List (Addr × Obj)} {σ : L2.St} {H : Hp} {s : Shared} {a : Addr} {xs : List V} (I : Inv X pins σ H s) (h : SqL X.K H a xs) : s.TypeIs (.ref a) "list" ∧ ∀ b, Value.ref a = .ref b → ∃ ob, s.heap.get? b = some ob ∧ ob.dict = none := by
  obtain ⟨its, r, p, hz⟩ := I.list h
  obtain ⟨o, ho, hc, n, hd⟩ := p.isList
  refine ⟨⟨o, ho, hc⟩, fun b z => ?_⟩
  cases z
  obtain ⟨o2, n, e, _, e2, _⟩ := p
  exact ⟨_, e, e2⟩
def tBM2 (K : PySem.W.Frag) (rl rt : V → List V → Hp → VK → Prop) (to : TE) (t : TA) : TE := fun σ H Q => to σ H fun x H1 => ((∃ a xs, x = .ref a ∧ SqL K H1 a xs) ∧ t σ H1 fun ys H2 => rl x ys H2 Q) ∨ ((∃ a xs, x = .ref a ∧ TqT K H1 a xs) ∧ t σ H1 fun ys H2 => rt x ys H2 Q)
theorem pe_bm2 {idl idt : String} {name : Str} {rl rt : V → List V → Hp → VK → Prop} {o e : Expr} {es : List Expr} {to : TE} {t : TA} {apos cpos : Pos} (sl : Slot "list" name idl) (tyl : typeOf (.builtin idl) = pure (.type "method_descriptor")) (st : Slot "tuple" name idt) (tyt : typeOf (.builtin idt) = pure (.type "method_descriptor"))
    (ml : MtR X idl rl) (mt : MtR X idt rt) (ho : PE X o to) (ha : PA X (e :: es) t)
    (hbase : attributeBase o name X.env (eval o X.env) = eval o X.env)
    (hfew : ((backTo cpos (starEach (e :: es) X.env)).all (fun x => !x.1) && (backToKw cpos (keywordEach [] X.env)).all (fun x => x.1.isSome) && decide ((e :: es).length + ([] : List Keyword).length + (if ([] : List Keyword).isEmpty then 0 else 1) < 30)) = true)
    (hline : (apos.endLine == cpos.line) = true) (hs : starEach (e :: es) X.env = (false, eval e X.env) :: starEach es X.env) (hplain : (backTo cpos (starEach es X.env)).any (·.1) = false) :
    PE X (.Call (.Attribute o name apos) (e :: es) [] cpos) (tBM2 X.K rl rt to t) := by
  refine ⟨fun pins s σ H Q I h => wpAny_Call_method_late hbase hfew hline rfl (thn (ho.run pins s σ H _ I h) fun v s1 ⟨x, H1, I1, r1, q0⟩ => ?_)⟩
  rcases q0 with ⟨⟨a, xs, ex, ty⟩, q1⟩ | ⟨⟨a, xs, ex, ty⟩, q1⟩
  · subst ex
    cases r1
    obtain ⟨h1, h2⟩ := SqL.ty I1 ty
    refine ⟨"list", idl, PySem.F.plainAttrs_list, sl, tyl, h1, h2, ?_⟩
    have hA := ha.run cpos pins s1 σ H1 _ I1 q1
    rw [hs] at hA ⊢
    refine Calls.callWith_builtin (by show (false || (backTo cpos (starEach es X.env)).any (·.1)) = false; rw [hplain] <;> rfl) (Calls.evalArgs_plain ?_)
    exact thn hA fun us s2 ⟨vs, H2, I2, r2, q2⟩ => ml pins s2 σ H2 (.ref a) vs (.ref a) us Q I2 (show RelV (.ref a) (.ref a) from rfl) r2 q2
  · subst ex
    cases r1
    obtain ⟨h1, h2⟩ := ty.ty I1
    refine ⟨"tuple", idt, PySem.F.plainAttrs_tuple, st, tyt, h1, h2, ?_⟩
    have hA := ha.run cpos pins s1 σ H1 _ I1 q1
    rw [hs] at hA ⊢
    refine Calls.callWith_builtin (by show (false || (backTo cpos (starEach es X.env)).any (·.1)) = false; rw [hplain] <;> rfl) (Calls.evalArgs_plain ?_)
    exact thn hA fun us s2 ⟨vs, H2, I2, r2, q2⟩ => mt pins s2 σ H2 (.ref a) vs (.ref a) us Q I2 (show RelV (.ref a) (.ref a) from rfl) r2 q2
/-- what is asked of data: where, how often -/
def rPl (S : PySem.W.Frag → Hp → Addr → List V → Prop) (K : PySem.W.Frag) : V → List V → Hp → VK → Prop := fun x ys H Q => ∃ (a : Addr) (vs : List V) (ds : List D) (y : V) (d : D) (j : Nat), x = .ref a ∧ ys = [y] ∧ S K H a vs ∧ DpAll K H vs ds ∧ Dp K H y d ∧ SeqAt.shaped (.list ds) = true ∧ SeqAt.shaped d = true ∧ SeqAt.dataPlace ds d = some j ∧ Q (.int (j : Nat)) H
theorem plain_of_shaped {ds : List D} (h : SeqAt.shaped (.list ds) = true) : PyData.plainAll ds = true := by
  have := PyData.plain_of_canLay0 _ (SeqAt.canLay_of_shaped h)
  simpa [PyData.plain] using this
theorem room1 {ds : List D} {d : D} (h : SeqAt.shaped d = true) (hu : X.A.units + 65 < cLine) : X.A.units + 1 + min (PyData.depthAll ds) d.depth < cLine := by
  have h1 := SeqAt.depth_of_shaped h
  have h2 : min (PyData.depthAll ds) d.depth ≤ d.depth := Nat.min_le_right _ _
  omega
theorem mt_plL (hu : X.A.units + 65 < cLine) : MtR X "list.index" (rPl SqL X.K) := by
  intro pins s σ H x xs v us Q I rx rxs h
  obtain ⟨a, vs, ds, y, d, j, rfl, rfl, hs, hd, hy, sd, sy, hj, q⟩ := h
  cases rx
  obtain ⟨u, rfl, ru⟩ := vals1 rxs
  obtain ⟨its, rv, hl, hz⟩ := I.list hs
  obtain ⟨as, r1⟩ := Dp.readsAll I ds vs its hd rv
  obtain ⟨bs, r2⟩ := Dp.reads I d y u hy ru
  obtain ⟨⟨cls, dd, data, sl⟩, ho, hc, n, hdt⟩ := hl.isList
  simp only at hc hdt
  subst hc hdt
  have pl := plain_of_shaped sd
  obtain ⟨jl, hit, hno⟩ := SeqAt.hit_at (vs := its.toArray) (by simpa using r1) pl hj
  have hlen := rv.length
  have hsm : (j : Int) < 2 ^ 63 - 1 := by
    rw [sizeLine_eq] at hz
    rw [List.size_toArray] at jl
    omega
  exact call_meets F.slot_list_index ⟨_, ho, rfl⟩ F.entry_list_index (F.args_list_index_2 _ _) (SeqAt.list_indexAt a its.toArray n dd sl u (fun z => PyData.eqv (SeqAt.readOf s.heap z) d) j jl hsm hit hno)
    ⟨ho, SeqAt.items_plain (vs := its.toArray) (by simpa using r1) r2 pl (PyData.plain_of_canLay0 _ (SeqAt.canLay_of_shaped sy)) (room1 sy hu), .int _, H, I.tok _, ⟨_, rfl⟩, q⟩
theorem mt_plT (hu : X.A.units + 65 < cLine) : MtR X "tuple.index" (rPl SqT X.K) := by
  intro pins s σ H x xs v us Q I rx rxs h
  obtain ⟨a, vs, ds, y, d, j, rfl, rfl, hs, hd, hy, sd, sy, hj, q⟩ := h
  cases rx
  obtain ⟨u, rfl, ru⟩ := vals1 rxs
  obtain ⟨its, rv, hl, hz⟩ := I.tuple hs
  obtain ⟨as, r1⟩ := Dp.readsAll I ds vs its hd rv
  obtain ⟨bs, r2⟩ := Dp.reads I d y u hy ru
  obtain ⟨⟨cls, dd, data, sl⟩, ho, hc, n, hdt⟩ := hl
  simp only at hc hdt
  subst hc hdt
  have pl := plain_of_shaped sd
  obtain ⟨jl, hit, hno⟩ := SeqAt.hit_at (vs := its.toArray) (by simpa using r1) pl hj
  have ip := SeqAt.items_plain (A := X.A) (vs := its.toArray) (by simpa using r1) r2 pl (PyData.plain_of_canLay0 _ (SeqAt.canLay_of_shaped sy)) (room1 sy hu)
  refine call_meets F.slot_tuple_index ⟨_, ho, rfl⟩ F.entry_tuple_index (F.args_tuple_index_2 _ _) (SeqAt.tuple_index2_found a its.toArray n dd sl u (fun i => match its.toArray[i]? with | some z => PyData.eqv (SeqAt.readOf s.heap z) d | none => false) j jl (Nat.zero_le _) jl ?_ ?_) ⟨ho, fun i hi => ?_, .int _, H, I.tok _, ⟨_, rfl⟩, q⟩
  · simpa [Array.getElem?_eq_getElem jl] using hit
  · intro m hm _ h2
    simpa [Array.getElem?_eq_getElem hm] using hno m hm h2
  · have := ip its.toArray[i] (Array.getElem_mem hi)
    simpa [Array.getElem?_eq_getElem hi] using this
end
section
variable [Nm] {O : Ob} {X : Cx} {E : XK}
/-- x.index(y), x.count(y) -/
def plcD (ds : List D) (d : D) : WD D := fun Q _ => SeqAt.shaped (.list ds) = true ∧ SeqAt.shaped d = true ∧ orStuck (SeqAt.dataPlace ds d) fun j => Q (.int (j : Nat))
def seqD : D → (List D → Prop) → Prop
  | .list ds, Q => Q ds
  | .tuple ds, Q => Q ds
  | _, _ => False
def cntD (ds : List D) (d : D) : WD D := fun Q _ => SeqAt.shaped (.list ds) = true ∧ SeqAt.shaped d = true ∧ Q (.int ((ds.countP fun z => PyData.eqv z d : Nat) : Int))
def eMt (h : List D → D → WD D) (f g : Rho → WD D) : Rho → WD D := fun ρ Q Ed => f ρ (fun x => seqD x fun ds => g ρ (fun y => h ds y Q Ed) Ed) Ed
theorem canAll_shaped {ds : List D} (h : SeqAt.shaped (.list ds) = true) : PyData.canLayAll0 ds = true := by
  have := SeqAt.canLay_of_shaped h
  simpa [PyData.canLay0] using this
theorem de_mt {name : Str} {idl idt : String} {rs : (PySem.W.Frag → Hp → Addr → List V → Prop) → PySem.W.Frag → V → List V → Hp → VK → Prop} {h : List D → D → WD D} {o e : Expr} {f g : Rho → WD D} {apos cpos : Pos} (sl : Slot "list" name idl) (tyl : typeOf (.builtin idl) = pure (.type "method_descriptor")) (st : Slot "tuple" name idt) (tyt : typeOf (.builtin idt) = pure (.type "method_descriptor"))
    (ml : MtR X idl (rs SqL X.K)) (mt : MtR X idt (rs SqT X.K))
    (hr : ∀ (S : PySem.W.Frag → Hp → Addr → List V → Prop) (a : Addr) (vs : List V) (ds : List D) (y : V) (d : D) (P : Addr → Prop) (H : Hp) (Qd : D → Prop) (Ed : Str → Prop) (Q : VK), S X.K H a vs → DvAll O X.K H P vs ds → Dv O X.K H P y d → h ds d Qd Ed → VOk O X.K P H Qd Q → rs S X.K (.ref a) [y] H Q)
    (ho : DE O X E o f) (he : DE O X E e g)
    (hbase : attributeBase o name X.env (eval o X.env) = eval o X.env)
    (hfew : ((backTo cpos (starEach [e] X.env)).all (fun x => !x.1) && (backToKw cpos (keywordEach [] X.env)).all (fun x => x.1.isSome) && decide ([e].length + ([] : List Keyword).length + (if ([] : List Keyword).isEmpty then 0 else 1) < 30)) = true)
    (hline : (apos.endLine == cpos.line) = true) (hs : starEach [e] X.env = (false, eval e X.env) :: starEach [] X.env) : DE O X E (.Call (.Attribute o name apos) [e] [] cpos) (eMt h f g) := by
  obtain ⟨ta, a1, a2⟩ := ho
  obtain ⟨tb, b1, b2⟩ := he
  refine ⟨_, pe_bm2 sl tyl st tyt ml mt a1 (pa_cons b1 pa_nil hs) hbase hfew hline hs rfl, fun P ρ σ H Qd Ed Q hd hr' hf hQ hE => a2 P ρ σ H _ Ed _ hd hr' hf (fun x d H1 s1 h1 q1 => ?_) hE⟩
  have key : ∀ (S : PySem.W.Frag → Hp → Addr → List V → Prop) (a : Addr) (vs : List V) (ds : List D) (n : ∀ H2, Same H1 H2 → S X.K H2 a vs), DvAll O X.K H1 P vs ds → g ρ (fun y => h ds y Qd Ed) Ed → tCons tb tNil σ H1 fun ys H2 => rs S X.K (.ref a) ys H2 Q := fun S a vs ds n hv q =>
    b2 P ρ σ H1 _ Ed _ (hd.same s1) (hr'.same s1) q (fun y e H2 s2 h2 q2 => hr S a vs ds y e P H2 Qd Ed Q (n H2 s2) (hv.same s2) h2 q2 fun v d' H3 s3 h3 q3 => hQ v d' H3 ((s1.trans s2).trans s3) h3 q3) (hE.same s1)
  cases h1 with
  | lst e1 n1 r1 => exact .inl ⟨⟨_, _, rfl, .inl (.inl e1)⟩, key SqL _ _ _ (fun H2 s2 => .inl (.inl (s2.all _ _ e1 no_lst))) r1 q1⟩
  | tup e1 r1 => exact .inr ⟨⟨_, _, rfl, e1⟩, key SqT _ _ _ (fun H2 s2 => ((Nl.of s2).tup e1).sq) r1 q1⟩
  | _ => exact q1.elim
theorem de_index {o e : Expr} {f g : Rho → WD D} {apos cpos : Pos} (hu : X.A.units + 65 < cLine) (ho : DE O X E o f) (he : DE O X E e g)
    (hbase : attributeBase o "index" X.env (eval o X.env) = eval o X.env := by rfl)
    (hfew : ((backTo cpos (starEach [e] X.env)).all (fun x => !x.1) && (backToKw cpos (keywordEach [] X.env)).all (fun x => x.1.isSome) && decide ([e].length + ([] : List Keyword).length + (if ([] : List Keyword).isEmpty then 0 else 1) < 30)) = true := by rfl)
    (hline : (apos.endLine == cpos.line) = true := by rfl) (hs : starEach [e] X.env = (false, eval e X.env) :: starEach [] X.env := by rfl) : DE O X E (.Call (.Attribute o "index" apos) [e] [] cpos) (eMt plcD f g) :=
  de_mt (rs := rPl) F.slot_list_index F.type_list_index F.slot_tuple_index F.type_tuple_index (mt_plL hu) (mt_plT hu) (fun S a vs ds y d P H Qd Ed Q hs hv hy q hQ => by
    obtain ⟨z1, z2, z3⟩ := q
    obtain ⟨j, e3, q3⟩ := of_orStuck z3
    exact ⟨a, vs, ds, y, d, j, rfl, rfl, hs, hv.dp (canAll_shaped z1), hy.dpS z2, z1, z2, e3, hQ.here (.int _) q3⟩) ho he hbase hfew hline hs
theorem pss_lck {sts : List Stmt} {t : TS} (h : PSs X sts t) : PSs X sts (fun D σ H => ∃ d u, H d = some u ∧ Mut (some u) ∧ ∀ od, t D σ (upd H d (.frz od u))) :=
  ⟨fun pins s σ H D I hw => by
    obtain ⟨d, u, hd, mu, hw⟩ := hw
    obtain ⟨od, I1⟩ := I.lock hd mu
    exact h.run pins s σ _ _ I1 (hw od)⟩
def sLck (i : Nat) (F : FS) : FS := fun Γ k => ownDAt Γ i fun ds => F (Γ.set i (some (.val (dictZ ds)))) k
theorem Rg.lck {K : PySem.W.Frag} {H0 H : Hp} {P0 : Addr → Prop} {Γ : Env} {σ : L2.St} {own : Nat → Option Addr} (r : Rg O K H0 P0 Γ σ H own) (hd : Dom H0 P0) {i : Nat} {p : Addr} {ds : List (Key × D)} {kvs : List (Key × V)} {od : Obj} (e : Γ[i]? = some (some (.own (.dct ds)))) (eo : own i = some p) (es : σ[i]? = some (some (.ref p)))
    (ep : H p = some (.dK kvs)) (ek : kvs.map (·.1) = ds.map (·.1)) (hv : DvAll O K H (Pw P0 own) (kvs.map (·.2)) (ds.map (·.2))) : Rg O K H0 P0 (Γ.set i (some (.val (dictZ ds)))) σ (upd H p (.frz od (.dK kvs))) (ownDel own i) := by
  obtain ⟨hn, _⟩ := r.fresh i p eo
  have np : ∀ a, Pw P0 (ownDel own i) a → a ≠ p ∧ Pw P0 own a := fun a z => by
    rcases z with z | ⟨j, z⟩
    · refine ⟨fun w => ?_, .inl z⟩
      obtain ⟨o, eo', m⟩ := hd.has a z
      rw [w] at eo'
      exact no_mb m (hn _ eo')
    · by_cases hj : j = i
      · subst hj
        rw [ownDel_self] at z
        cases z
      · rw [ownDel_ne hj] at z
        exact ⟨fun w => hj (r.inj j i p (w ▸ z) eo), .inr ⟨j, z⟩⟩
  have nl : Nl H (upd H p (.frz od (.dK kvs))) := .upd ep mb_dk
  have ls : ∀ a o, H a = some o → Mb o → ¬ Pw P0 own a → upd H p (.frz od (.dK kvs)) a = some o := fun a o ea m n => by
    have : a ≠ p := fun z => n (.inr ⟨i, by rw [z]; exact eo⟩)
    rw [upd_ne this]
    exact ea
  have kp : ∀ {v : V} {d : D}, Dv O K H (Pw P0 own) v d → Dv O K (upd H p (.frz od (.dK kvs))) (Pw P0 (ownDel own i)) v d := fun h => h.keep nl ls fun a _ _ _ q z => q (np a z).2
  have kpA : ∀ {v : List V} {d : List D}, DvAll O K H (Pw P0 own) v d → DvAll O K (upd H p (.frz od (.dK kvs))) (Pw P0 (ownDel own i)) v d := fun h => h.keep nl ls fun a _ _ _ q z => q (np a z).2
  have hil : i < Γ.length := (List.getElem?_eq_some_iff.mp e).1
  refine ⟨r.same.upd hn ep mb_dk, fun j k a e1 e2 => ?_, fun j a e1 => ?_, ⟨by rw [r.rs.len]; simp [clean], fun j d ej => ?_⟩, fun j c ej => ?_⟩
  · by_cases hj : j = i
    · subst hj
      rw [ownDel_self] at e1
      cases e1
    · by_cases hk : k = i
      · subst hk
        rw [ownDel_self] at e2
        cases e2
      · rw [ownDel_ne hj] at e1
        rw [ownDel_ne hk] at e2
        exact r.inj j k a e1 e2
  · by_cases hj : j = i
    · subst hj
      rw [ownDel_self] at e1
      cases e1
    · have e1' := e1
      rw [ownDel_ne hj] at e1
      obtain ⟨h1, o, h2, h3⟩ := r.fresh j a e1
      exact ⟨h1, o, by rw [upd_ne (np a (.inr ⟨j, e1'⟩)).1]; exact h2, h3⟩
  · unfold clean at ej
    rw [List.map_set] at ej
    by_cases hj : i = j
    · subst hj
      rw [List.getElem?_set_self (by simpa using hil)] at ej
      cases ej
      exact ⟨.ref p, es, .dcz upd_same ek (kpA hv)⟩
    · rw [List.getElem?_set_ne hj] at ej
      obtain ⟨v, e2, h2⟩ := r.rs.get j d ej
      exact ⟨v, e2, kp h2⟩
  · by_cases hj : i = j
    · subst hj
      rw [List.getElem?_set_self hil] at ej
      cases ej
    · rw [List.getElem?_set_ne hj] at ej
      obtain ⟨q, e2, e3, e4⟩ := r.ow j c ej
      have e2' : ownDel own i j = some q := by rw [ownDel_ne (fun z => hj z.symm)]; exact e2
      have nq := (np q (.inr ⟨j, e2'⟩)).1
      exact ⟨q, e2', e3, e4.to kpA fun o e _ => by rw [upd_ne nq]; exact e⟩
theorem dss_lck (i : Nat) {sts : List Stmt} {F : FS} (h : DSs O X E sts F) : DSs O X E sts (sLck i F) := by
  obtain ⟨t, h1, h2⟩ := h
  refine ⟨_, pss_lck h1, fun H0 P0 Γ σ H own k D hd r hf l => ?_⟩
  obtain ⟨ds, eg, hf⟩ := of_ownDAt hf
  obtain ⟨p, eo, es, kvs, ep, ek, hv⟩ := r.ow i (.dct ds) eg
  exact ⟨p, _, ep, trivial, fun od => h2 H0 P0 _ σ _ _ k D hd (r.lck hd eg eo es ep ek hv) hf l⟩
/-- the keys of a locked dict -/
def keysD : D → WD (List D)
  | .dict ((.bool true, .none) :: l) => fun Q _ => Q (l.map (·.1))
  | _ => fun _ _ => False
theorem of_keysD {d : D} {Q : List D → Prop} {Ed : Str → Prop} (h : keysD d Q Ed) : ∃ l, d = .dict ((.bool true, .none) :: l) ∧ Q (l.map (·.1)) := by
  unfold keysD at h
  split at h
  · exact ⟨_, rfl, h⟩
  · exact h.elim
theorem dv_key {K : PySem.W.Frag} {H : Hp} {P : Addr → Prop} {k : Key} (h : ∀ x, k = .inr x → PyData.strOk x = true) : Dv O K H P (kV k) (kD k) := by
  cases k with
  | inl i => exact .int i
  | inr x => exact .str x (h x rfl)
def keysOk (ds : List D) : Bool := ds.all fun d => match d with | .str x => PyData.strOk x | _ => true
def keysD2 (d : D) : WD (List D) := fun Q Ed => keysD d (fun l => keysOk l = true ∧ Q l) Ed
def sKeys2 (f : Rho → WD D) : Rho → WD (List D) := fun ρ Q Ed => f ρ (fun d => keysD2 d Q Ed) Ed
theorem di_keys {tg a : Expr} {fa : Rho → WD D} (hO : NoObj O) (ha : DE O X E a fa) : DI O X E tg a (sKeys2 fa) := by
  obtain ⟨ta, a1, a2⟩ := ha
  refine ⟨_, pi_keys a1, fun P ρ σ H Qd Ed R hd hr hf hQ hE => a2 P ρ σ H _ Ed _ hd hr hf (fun v d H1 s1 h1 q1 => ?_) hE⟩
  have hm1 := hd.same s1
  obtain ⟨l, el, ok, q⟩ := of_keysD q1
  generalize ed : d = d' at h1
  cases h1 with
  | @dcz a o kvs ds e1 e2 e3 =>
    rw [el] at ed
    unfold dictZ at ed
    injection ed with ed
    injection ed with _ ed
    subst ed
    refine ⟨a, o, rfl, .inl ⟨kvs, e1, hQ _ _ H1 s1 (fun P2 H2 pp hp k2 => ?_) q⟩⟩
    have f1 : H2 a = some (.frz o (.dK kvs)) := (Nl.kf hp k2 hm1).all a _ e1 not_mb_frz no_frz
    have len : kvs.length = ds.length := by simpa using congrArg List.length e2
    refine ⟨fun i hi => ⟨f1, by simpa [len] using hi⟩, fun i x H' d y e3 => ?_, fun i hi => ⟨f1, by simpa [len] using hi⟩⟩
    obtain ⟨rfl, k, v, ekv, rfl⟩ := y
    refine ⟨Same.refl _, ?_⟩
    have eD : (ds.map (·.1))[i]? = some k := by
      rw [← e2, List.getElem?_map, ekv]
      rfl
    have e4 : d = kD k := by
      rw [List.map_map, List.getElem?_map] at e3
      rw [List.getElem?_map] at eD
      cases q : ds[i]? with
      | none =>
        rw [q] at eD
        cases eD
      | some z =>
        rw [q] at eD e3
        cases eD
        cases e3
        rfl
    subst e4
    refine dv_key fun x hx => ?_
    subst hx
    have m := List.mem_of_getElem? e3
    unfold keysOk at ok
    rw [List.all_eq_true] at ok
    exact ok _ m
  | @dct a kvs ds e1 e2 e3 e4 =>
    rw [el] at ed
    unfold dictE at ed
    injection ed with ed
    cases ds with
    | nil => cases ed
    | cons p r =>
      injection ed with ed _
      injection ed with ed _
      obtain ⟨k, x⟩ := p
      cases k <;> cases ed
  | obj h =>
    rw [el] at ed
    injection ed with ed
    subst ed
    exact (hO.nz h).elim
  | _ => rw [el] at ed; cases ed
def tupN (K : PySem.W.Frag) (x : Str) (vs : List He.Dv) : Bool := match K.lookup (He.ga K x) with
  | some ⟨.type c, none, .seq its _, _⟩ => decide (c = "tuple") && (decide (its.size ≤ sizeLine) && He.relAll (vs.map (He.Dv.v K)) its.toList)
  | _ => false
theorem tupN_ok {K : PySem.W.Frag} {x : Str} {vs : List He.Dv} (h : tupN K x vs = true) (H : Hp) : TqT K H (He.ga K x) (vs.map (He.Dv.v K)) := by
  unfold tupN at h
  split at h
  · rename_i c its n sl q
    obtain ⟨h1, h2⟩ := Bool.and_eq_true_iff.mp h
    obtain ⟨h3, h4⟩ := Bool.and_eq_true_iff.mp h2
    exact .inr ⟨_, its, n, q, congrArg Value.type (of_decide_eq_true h1), rfl, rfl, of_decide_eq_true h3, He.relAll_ok h4⟩
  · cases h
def sParVF (i j : Nat) (fa : Rho → WD D) (fb : Rho → WD (List D)) : FS := fun Γ k => fa (clean Γ) (fun d => fb (clean Γ) (fun ys => k.nx ((Γ.set i (some (.val d))).set j (some (.own (.lst ys))))) k.ex) k.ex
def sPar3F (i j m : Nat) (fa fb : Rho → WD D) (fc : Rho → WD (List D)) : FS := fun Γ k => fa (clean Γ) (fun d => fb (clean Γ) (fun e => fc (clean Γ) (fun ys => k.nx (((Γ.set i (some (.val d))).set j (some (.val e))).set m (some (.own (.lst ys))))) k.ex) k.ex) k.ex
end
end DL
namespace DL
open PySem PySem.Spec L2
def intK (R : Option Int → Prop) : D → Prop
  | .int i => R (some i)
  | _ => False
def augK (f : (D → Prop) → Prop) (g : Int → Int → Int) (R : D → Prop) : Option (Option D) → Prop
  | some (some (.int a)) => f fun d => match d with
    | .int b => R (.int (g a b))
    | _ => False
  | _ => False
def augJ (g : Int → Int → Int) (R : D → Prop) (a : Int) : D → Prop
  | .int b => R (.int (g a b))
  | _ => False
def ownLK (R : List D → Prop) : Option (Option Ent) → Prop
  | some (some (.own (.lst ds))) => R ds
  | _ => False
def par3K (R : D → D → D → Prop) : List D → Prop
  | [d, e, c] => R d e c
  | _ => False
def extK (R : List D → Prop) : D → Prop
  | .list ys => R ys
  | _ => False
section
variable {f g : Rho → WD D} {fa fb : Rho → WD (List D)} {ga gb : Rho → WD Bool} {fl fh : Rho → WD (Option Int)} {ρ : Rho} {Q : D → Prop} {QL : List D → Prop} {E : Str → Prop} {Γ : Env} {k : KS} {F : FS} {R : Option Int → Prop}
theorem xy : eSl f fl fh ρ Q E = f ρ (fun d => fl ρ (fun lo => fh ρ (fun hi => slD d lo hi Q E) E) E) E := propext Iff.rfl
theorem xz : oNone ρ R E = R none := propext Iff.rfl
theorem qA : oSome f ρ R E = f ρ (intK R) E := propext Iff.rfl
theorem qB (i : Int) : intK R (.int i) = R (some i) := propext Iff.rfl
theorem qC (xs : List D) (lo hi : Option Int) : slD (.tuple xs) lo hi Q E = Q (.tuple (cutL xs lo hi)) := propext Iff.rfl
theorem qD (xs : List D) (lo hi : Option Int) : slD (.list xs) lo hi Q E = Q (.list (cutL xs lo hi)) := propext Iff.rfl
theorem qE (T : Tg) : sTgt T f Γ k = f (clean Γ) (fun d => orStuck (bindT T d) fun l => k.nx (setV Γ l)) k.ex := propext Iff.rfl
theorem qF (T : Tg) : sTgtP T f Γ k = f (full Γ) (fun d => pureD d = true ∧ orStuck (bindT T d) fun l => k.nx (setV Γ l)) k.ex := propext Iff.rfl
theorem qG (ts : List Tg) (ds : List D) : bindT (.tup ts) (.tuple ds) = bindAll ts ds := by simp [bindT]
theorem qH : bindAll [] [] = some [] := by simp [bindAll]
theorem qI (i : Nat) (d : D) (ts : List Tg) (ds : List D) : bindAll (.name i :: ts) (d :: ds) = (bindAll ts ds).map ((i, d) :: ·) := by
  rw [bindAll, xW]
  cases bindAll ts ds <;> rfl
theorem qJ {α β : Type} (h : α → β) (a : α) : (some a).map h = some (h a) := rfl
theorem qK (i : Nat) (h : Int → Int → Int) : sAug i h f Γ k = augK (fun R => f (full Γ) R k.ex) h (fun d => k.nx (Γ.set i (some (.val d)))) (full Γ)[i]? := by
  unfold sAug augK
  generalize (full Γ)[i]? = o
  match o with
  | none => rfl
  | some none => rfl
  | some (some (.int a)) => rfl
  | some (some .none) => rfl
  | some (some (.bool _)) => rfl
  | some (some (.str _)) => rfl
  | some (some (.list _)) => rfl
  | some (some (.tuple _)) => rfl
  | some (some (.dict _)) => rfl
theorem qL (h : Int → Int → Int) (R : D → Prop) (fx : (D → Prop) → Prop) (a : Int) : augK fx h R (some (some (.int a))) = fx (augJ h R a) := propext Iff.rfl
theorem qM (h : Int → Int → Int) (R : D → Prop) (a b : Int) : augJ h R a (.int b) = R (.int (h a b)) := propext Iff.rfl
theorem qN (i : Nat) (R : List D → Prop) : ownAt Γ i R = ownLK R Γ[i]? := by
  unfold ownAt ownLK
  generalize Γ[i]? = o
  match o with
  | none => rfl
  | some none => rfl
  | some (some (.val d)) => rfl
  | some (some (.own (.lst d))) => rfl
  | some (some (.own (.dct d))) => rfl
  | some (some (.own (.ndc d))) => rfl
theorem qO (R : List D → Prop) (ds : List D) : ownLK R (some (some (.own (.lst ds)))) = R ds := propext Iff.rfl
theorem qP (i : Nat) : sApp i f Γ k = ownAt Γ i fun xs => f (clean Γ) (fun d => xs.length < 1000000 ∧ k.nx (Γ.set i (some (.own (.lst (xs ++ [d])))))) k.ex := propext Iff.rfl
theorem qQ (i : Nat) : sAppP i f Γ k = ownAt Γ i fun xs => f (full Γ) (fun d => pureD d = true ∧ xs.length < 1000000 ∧ k.nx (Γ.set i (some (.own (.lst (xs ++ [d])))))) k.ex := propext Iff.rfl
theorem qR (i : Nat) : sExt i f Γ k = ownAt Γ i fun xs => f (clean Γ) (extK fun ys => xs.length + ys.length ≤ 1000000 ∧ k.nx (Γ.set i (some (.own (.lst (xs ++ ys)))))) k.ex := propext Iff.rfl
theorem qS (R : List D → Prop) (ys : List D) : extK R (.list ys) = R ys := propext Iff.rfl
theorem qT (i j : Nat) : sParFF i j fa fb Γ k = fa (clean Γ) (fun xs => fb (clean Γ) (fun ys => k.nx ((Γ.set i (some (.own (.lst xs)))).set j (some (.own (.lst ys))))) k.ex) k.ex := propext Iff.rfl
theorem qU (i j m : Nat) : sPar3 i j m fa Γ k = fa (clean Γ) (par3K fun d e c => k.nx (((Γ.set i (some (.val d))).set j (some (.val e))).set m (some (.val c)))) k.ex := propext Iff.rfl
theorem qV (R : D → D → D → Prop) (d e c : D) : par3K R [d, e, c] = R d e c := propext Iff.rfl
theorem qW (i j : Nat) : sParVF i j f fb Γ k = f (clean Γ) (fun d => fb (clean Γ) (fun ys => k.nx ((Γ.set i (some (.val d))).set j (some (.own (.lst ys))))) k.ex) k.ex := propext Iff.rfl
theorem qX (i j m : Nat) : sPar3F i j m f g fb Γ k = f (clean Γ) (fun d => g (clean Γ) (fun e => fb (clean Γ) (fun ys => k.nx (((Γ.set i (some (.val d))).set j (some (.val e))).set m (some (.own (.lst ys))))) k.ex) k.ex) k.ex := propext Iff.rfl
theorem qg (i : Nat) : sFrz i F Γ k = F (frz i Γ) k := propext Iff.rfl
theorem qh : sBreak Γ k = k.bk Γ := propext Iff.rfl
theorem qi : sCont Γ k = k.ct Γ := propext Iff.rfl
theorem qj (h : List D → D → WD D) : eMt h f g ρ Q E = f ρ (fun x => seqD x fun ds => g ρ (fun y => h ds y Q E) E) E := propext Iff.rfl
theorem qk (ds : List D) (R : List D → Prop) : seqD (.list ds) R = R ds := propext Iff.rfl
theorem qm (ds : List D) (R : List D → Prop) : seqD (.tuple ds) R = R ds := propext Iff.rfl
theorem qn (ds : List D) (d : D) : plcD ds d Q E = (SeqAt.shaped (.list ds) = true ∧ SeqAt.shaped d = true ∧ orStuck (SeqAt.dataPlace ds d) fun j => Q (.int (j : Nat))) := propext Iff.rfl
theorem qo (ds : List D) (d : D) : cntD ds d Q E = (SeqAt.shaped (.list ds) = true ∧ SeqAt.shaped d = true ∧ Q (.int ((ds.countP fun z => PyData.eqv z d : Nat) : Int))) := propext Iff.rfl
theorem qp (T T1 : Tg) (vs vs1 : List Nat) : eLc2 fa T vs ga fb T1 vs1 gb f ρ QL E = fa ρ (fun xs => lcLoop2 T vs ga fb T1 vs1 gb f ρ xs [] QL) E := propext Iff.rfl
theorem qr (xs ys : List D) : zipD [.list xs, .list ys] QL E = QL ((xs.zip ys).map fun p => .tuple [p.1, p.2]) := propext Iff.rfl
theorem qt (xs : List D) : enumerateD [.list xs] QL E = QL (((upTo 0 xs.length).zip xs).map fun p => .tuple [p.1, p.2]) := propext Iff.rfl
theorem qu (xs : List D) : enumerateD [.tuple xs] QL E = QL (((upTo 0 xs.length).zip xs).map fun p => .tuple [p.1, p.2]) := propext Iff.rfl
theorem qv (neg : Bool) : isND neg .none .none Q E = Q (.bool (true != neg)) := propext Iff.rfl
theorem qw (neg : Bool) (i : Int) : isND neg (.int i) .none Q E = Q (.bool (false != neg)) := propext Iff.rfl
theorem wA (neg : Bool) (xs : List D) : isND neg (.tuple xs) .none Q E = Q (.bool (false != neg)) := propext Iff.rfl
theorem wB (xs : List D) (k : Int) : mulD (.list xs) (.int k) Q E = (0 ≤ k ∧ k ≤ 1000 ∧ xs.length ≤ 1000 ∧ Q (.list (List.replicate k.toNat xs).flatten)) := propext Iff.rfl
theorem wC (xs : List D) : listD (.list xs) QL E = QL xs := propext Iff.rfl
theorem wD (xs : List D) : listD (.tuple xs) QL E = QL xs := propext Iff.rfl
theorem wE (xs : List D) : allD (.list xs) Q E = orStuck (boolsD xs) fun bs => Q (.bool (bs.all id)) := propext Iff.rfl
theorem wF (QB : Bool → Prop) : truK QB .none = QB false := propext Iff.rfl
theorem wG (QB : Bool → Prop) (i : Int) : truK QB (.int i) = QB (i != 0) := propext Iff.rfl
theorem wS : eStuck ρ Q E = False := propext Iff.rfl
theorem wH (xs : List D) : pureD (.tuple xs) = pureD.pureAll xs := rfl
theorem wI (x : D) (xs : List D) : pureD.pureAll (x :: xs) = (pureD x && pureD.pureAll xs) := rfl
theorem wJ : pureD.pureAll [] = true := rfl
theorem wK (i : Int) : pureD (.int i) = true := rfl
theorem wL (b : Bool) : pureD (.bool b) = true := rfl
theorem wM (s : Str) : pureD (.str s) = true := rfl
theorem wN : pureD .none = true := rfl
theorem pure_ints (ns : List Int) : pureD.pureAll (intsD ns) = true := by
  induction ns with
  | nil => rfl
  | cons n r ih => exact ih
end
theorem lcLoop_fm {α : Type} {step : D → (Option D → Prop) → Prop} (enc : α → D) (p : α → Bool) (h : α → D) {as : List α} {Q : List D → Prop} (hs : ∀ a ∈ as, ∀ k : Option D → Prop, k (if p a = true then some (h a) else none) → step (enc a) k) (q : Q ((as.filter p).map h)) : lcLoop step (as.map enc) [] Q := by
  have key : ∀ (as : List α) (acc : List D), (∀ a ∈ as, ∀ k : Option D → Prop, k (if p a = true then some (h a) else none) → step (enc a) k) → Q (acc ++ (as.filter p).map h) → lcLoop step (as.map enc) acc Q := by
    intro as
    induction as with
    | nil =>
      intro acc _ q
      simpa [lcLoop] using q
    | cons a r ih =>
      intro acc hs q
      rw [List.map_cons]
      unfold lcLoop
      refine hs a List.mem_cons_self _ ?_
      by_cases e : p a = true
      · rw [if_pos e]
        refine ih _ (fun b hb => hs b (List.mem_cons_of_mem _ hb)) ?_
        simpa [List.filter_cons, e] using q
      · rw [if_neg e]
        refine ih _ (fun b hb => hs b (List.mem_cons_of_mem _ hb)) ?_
        simpa [List.filter_cons, e] using q
  exact key as [] hs (by simpa using q)
theorem lcLoop_mp {α : Type} {step : D → (Option D → Prop) → Prop} (enc : α → D) (h : α → D) {as : List α} {Q : List D → Prop} (hs : ∀ a ∈ as, ∀ k : Option D → Prop, k (some (h a)) → step (enc a) k) (q : Q (as.map h)) : lcLoop step (as.map enc) [] Q :=
  lcLoop_fm enc (fun _ => true) h (fun a ha k hk => hs a ha k (by simpa using hk)) (by rw [List.filter_eq_self.mpr fun _ _ => rfl]; exact q)
theorem forLoop_mp {α : Type} {T : Tg} {F : FS} {k : KS} (enc : α → D) (I : List α → Env → Prop) (hend : ∀ Γ, I [] Γ → k.nx Γ) : ∀ (as : List α), (∀ a r, ∀ Γ, I (a :: r) Γ → ∀ nx : Env → Prop, (∀ Γ', I r Γ' → nx Γ') → orStuck (bindT T (enc a)) fun l => F (setV Γ l) { k with nx := nx, ct := nx, bk := k.nx }) → ∀ Γ, I as Γ → forLoop T F k (as.map enc) Γ
  | [], _, Γ, h => hend Γ h
  | a :: as, hs, Γ, h => hs a as Γ h _ fun Γ' h' => forLoop_mp enc I hend as hs Γ' h'
theorem while_ind {c : Rho → WD Bool} {F : FS} {k : KS} (I : Nat → Env → Prop) (h : ∀ n Γ, I n Γ → ∀ nx : Env → Prop, (∀ m Γ', n = m + 1 → I m Γ' → nx Γ') → c (full Γ) (fun b => if b = true then F Γ { k with nx := nx, ct := nx, bk := k.nx } else k.nx Γ) k.ex) : ∀ (n : Nat) (Γ : Env), I n Γ → sWhile c F Γ k := by
  have key : ∀ (n : Nat) (Γ : Env), I n Γ → whLoop c F k (n + 1) Γ := by
    intro n
    induction n with
    | zero =>
      intro Γ i
      exact h 0 Γ i _ fun m Γ' e => by omega
    | succ n ih =>
      intro Γ i
      exact h (n + 1) Γ i _ fun m Γ' e i' => by
        have : m = n := by omega
        subst this
        exact ih Γ' i'
  exact fun n Γ i => ⟨n + 1, key n Γ i⟩
theorem place_ints (ns : List Int) (k : Int) (h : k ∈ ns) : SeqAt.dataPlace (intsD ns) (.int k) = some (ns.idxOf k) := by
  unfold SeqAt.dataPlace intsD
  rw [List.findIdx?_map]
  have e : ((fun y => PyData.eqv y (.int k)) ∘ PyData.int) = fun n => n == k := by
    funext n
    show PyData.eqv (.int n) (.int k) = _
    rw [yt]
    by_cases z : n = k <;> simp [z]
  rw [e]
  have hlt := List.idxOf_lt_length_iff.mpr h
  rw [List.findIdx?_eq_some_iff_getElem]
  refine ⟨hlt, by simpa using List.getElem_idxOf hlt, fun j hj => ?_⟩
  have := List.not_of_lt_findIdx (p := (· == k)) (xs := ns) (by simpa [List.idxOf] using hj)
  simpa using this
theorem anyI (ns : List Int) (k : Int) : ((intsD ns).any fun z => PyData.eqv z (.int k)) = decide (k ∈ ns) := by
  unfold intsD
  rw [List.any_map]
  have e : ((fun z => PyData.eqv z (.int k)) ∘ PyData.int) = fun n => decide (n = k) := by
    funext n
    exact yt n k
  rw [e]
  by_cases h : k ∈ ns
  · rw [decide_eq_true h, List.any_eq_true]
    exact ⟨k, h, by simp⟩
  · rw [decide_eq_false h, List.any_eq_false]
    intro x hx
    simp
    exact fun z => h (z ▸ hx)
theorem atI_ints {ns : List Int} {i : Int} (h0 : 0 ≤ i) (h1 : i < ns.length) : atI (intsD ns) i = some (.int (ns.getD i.toNat 0)) := by
  have hl : i.toNat < ns.length := by omega
  rw [atI_nat h0 (by simpa [intsD] using h1)]
  unfold intsD
  rw [List.getElem_map, List.getD_eq_getElem?_getD, List.getElem?_eq_getElem hl]
  rfl
theorem cut_to {α : Type} (xs : List α) {s : Int} (h0 : 0 ≤ s) : cutL xs none (some s) = xs.take s.toNat := by
  unfold cutL HT.sIx
  simp only [if_neg (show ¬ s < 0 by omega), List.drop_zero, Nat.sub_zero]
  by_cases h : s.toNat ≤ xs.length
  · rw [Nat.min_eq_left h]
  · rw [Nat.min_eq_right (by omega), List.take_length, List.take_of_length_le (by omega)]
theorem cut_from {α : Type} (xs : List α) {s : Int} (h0 : 0 ≤ s) : cutL xs (some s) none = xs.drop s.toNat := by
  unfold cutL HT.sIx
  simp only [if_neg (show ¬ s < 0 by omega)]
  by_cases h : s.toNat ≤ xs.length
  · rw [Nat.min_eq_left h, List.take_of_length_le (by simp)]
  · rw [Nat.min_eq_right (by omega), Nat.sub_self, List.take_zero, List.drop_eq_nil_of_le (by omega)]
theorem set_cut {α : Type} (xs : List α) {s : Int} (x : α) (h0 : 0 ≤ s) (h1 : s < xs.length) : cutL xs none (some s) ++ [x] ++ cutL xs (some (s + 1)) none = xs.set s.toNat x := by
  rw [cut_to xs h0, cut_from xs (by omega), List.set_eq_take_append_cons_drop, if_pos (by omega)]
  have : (s + 1).toNat = s.toNat + 1 := by omega
  rw [this]
  simp
theorem intsD_set (ns : List Int) (i : Nat) (x : Int) : (intsD ns).set i (.int x) = intsD (ns.set i x) := by
  unfold intsD
  rw [List.map_set]
theorem intsD_len (ns : List Int) : (intsD ns).length = ns.length := by simp [intsD]
theorem intsD_app (a b : List Int) : intsD (a ++ b) = intsD a ++ intsD b := by simp [intsD]
end DL
namespace DL
open PySem PySem.Spec PyProof.Rows L2
def intsOf : List D → Option (List Int)
  | [] => some []
  | .int i :: r => (intsOf r).map (i :: ·)
  | _ => none
theorem intsOf_ints (ns : List Int) : intsOf (intsD ns) = some ns := by
  induction ns with
  | nil => rfl
  | cons n r ih =>
    show (intsOf (intsD r)).map (n :: ·) = _
    rw [ih]
    rfl
def nub (ns : List Int) : List Int := firstMet (fun i => ns.getD i 0) ns.length
section
variable [Nm] {O : Ob} {X : Cx} {E : XK}
def lenSetD : D → WD D
  | .list xs => fun Q _ => orStuck (intsOf xs) fun ns => ns.length ≤ 4000 ∧ Q (.int ((nub ns).length : Nat))
  | _ => fun _ _ => False
theorem qc {Q : D → Prop} {E : Str → Prop} (ns : List Int) : lenSetD (.list (intsD ns)) Q E = (ns.length ≤ 4000 ∧ Q (.int ((nub ns).length : Nat))) := by
  show orStuck (intsOf (intsD ns)) _ = _
  rw [intsOf_ints]
  rfl
def sOwn2 (i j : Nat) (f1 f2 : Rho → WD D) : FS := fun Γ k => ownAt Γ j fun xs => f1 (clean Γ) (fun a => idxD (.list xs) a (fun d => f2 (clean Γ) (fun b => idxD d b (fun r => k.nx (Γ.set i (some (.val r)))) k.ex) k.ex) k.ex) k.ex
theorem qZ {f1 f2 : Rho → WD D} {Γ : Env} {k : KS} (i j : Nat) : sOwn2 i j f1 f2 Γ k = ownAt Γ j fun xs => f1 (clean Γ) (fun a => idxD (.list xs) a (fun d => f2 (clean Γ) (fun b => idxD d b (fun r => k.nx (Γ.set i (some (.val r)))) k.ex) k.ex) k.ex) k.ex := propext Iff.rfl
end
end DL
namespace DL
open PySem PySem.Spec PyProof.Rows L2
section
variable [Nm] {O : Ob} {X : Cx} {E : XK}
def sumD : D → WD D
  | .list xs => fun Q _ => orStuck (intsOf xs) fun ns => Q (.int ns.sum)
  | .tuple xs => fun Q _ => orStuck (intsOf xs) fun ns => Q (.int ns.sum)
  | _ => fun _ _ => False
theorem qf {Q : D → Prop} {E : Str → Prop} (ns : List Int) : sumD (.list (intsD ns)) Q E = Q (.int ns.sum) := by
  show orStuck (intsOf (intsD ns)) _ = _
  rw [intsOf_ints]
  rfl
theorem qe {Q : D → Prop} {E : Str → Prop} (ns : List Int) : sumD (.tuple (intsD ns)) Q E = Q (.int ns.sum) := by
  show orStuck (intsOf (intsD ns)) _ = _
  rw [intsOf_ints]
  rfl
def sPar3L (i j m : Nat) (fa fb : Rho → WD (List D)) (fc : Rho → WD D) : FS := fun Γ k => fa (clean Γ) (fun xs => fb (clean Γ) (fun ys => fc (clean Γ) (fun d => k.nx (((Γ.set i (some (.own (.lst xs)))).set j (some (.own (.lst ys)))).set m (some (.val d)))) k.ex) k.ex) k.ex
theorem qY {fa fb : Rho → WD (List D)} {f : Rho → WD D} {Γ : Env} {k : KS} (i j m : Nat) : sPar3L i j m fa fb f Γ k = fa (clean Γ) (fun xs => fb (clean Γ) (fun ys => f (clean Γ) (fun d => k.nx (((Γ.set i (some (.own (.lst xs)))).set j (some (.own (.lst ys)))).set m (some (.val d)))) k.ex) k.ex) k.ex := propext Iff.rfl
end
end DL
namespace DL
open PySem PySem.Spec PyProof.Rows L2
end DL
namespace DL
open PySem PySem.Spec L2
theorem excO_ok {P : Program} {w : World} {H : Hp} {h : Heap} {a : Addr} {cls : Value} {d : Option Addr} {oe : Obj} {vs : Array Value} (e : h.get? a = some oe) (z : Zc cls d oe) (hd : oe.data = .fields vs) : ObjOk P w H h a (ExcO a cls d) :=
  ⟨⟨oe, vs, e, z, hd⟩, ⟨oe, e⟩, fun _ _ ⟨o, us, e1, e2, e3⟩ st => ⟨o, us, st _ e1, e2, e3⟩⟩
section
variable {X : Cx} {pins : List (Addr × Obj)} {σ : L2.St} {H : Hp} {s t : Shared}
/-- an object that is new to us is tracked from now on -/
theorem Inv.track (J : Inv X pins σ H t) (I : Inv X pins σ H s) (hex : X.ex = []) {a : Addr} {o : HO} (na : H a = none) (new : t.heap.get? a = none) (ok : ObjOk X.prog X.w (upd H a o) s.heap a o) : Inv X pins σ (upd H a o) s := by
  have nx : ∀ b, b ∉ X.ex := fun b z => by rw [hex] at z; cases z
  have old : ∀ {b : Addr} {u : Obj}, t.heap.get? b = some u → b ≠ a := fun {b u} e z => by
    rw [z, new] at e
    cases e
  have s0 : ∀ {b : Addr} {u : Obj}, X.s_0.heap.get? b = some u → b ≠ a := fun {b u} e => by
    obtain ⟨u', e'⟩ := J.base.there b u e (nx b)
    exact old e'
  have tr : ∀ {b : Addr} {u : HO}, H b = some u → b ≠ a := fun e => ne_of_none e na
  have nL : X.env.locals ≠ a := by
    obtain ⟨m, ⟨ob, _, _, e, _⟩, _⟩ := J.loc
    exact old e
  refine ⟨I.ok, I.os, I.bare, ⟨I.base.keep, I.base.slot, fun b u e n z => ?_, I.base.there, fun b xs e => ?_, fun b u xs e => ?_, fun b ps e => ?_⟩, I.loc, I.cell, ?_, fun x c e => ?_, fun p hp => ?_, fun b u e => ?_, I.len⟩
  · rw [upd_ne (s0 e)]
    exact I.base.free b u e n z
  · have q := I.base.tups b xs e
    rw [upd_ne (tr q)]
    exact q
  · have q := I.base.frzs b u xs e
    rw [upd_ne (tr q)]
    exact q
  · obtain ⟨more, q⟩ := I.base.tbls b ps e
    exact ⟨more, by rw [upd_ne (tr q)]; exact q⟩
  · rw [upd_ne nL]
    exact I.free
  · obtain ⟨v, ob, e1, _⟩ := J.cell x c e
    rw [upd_ne (old e1)]
    exact I.freeC x c e
  · obtain ⟨q1, q2, q3⟩ := I.pin p hp
    obtain ⟨j1, _⟩ := J.pin p hp
    exact ⟨q1, by rw [upd_ne (old j1)]; exact q2, q3⟩
  · by_cases hb : b = a
    · subst hb
      rw [upd_same] at e
      cases e
      exact ok
    · rw [upd_ne hb] at e
      exact (I.hok b u e).stay (fun _ _ _ q => q) (fun c q => by rw [upd_ne (tr q)]; exact q) fun c xs q => by rw [upd_ne (tr q)]; exact q
theorem Inv.inSuite (I : Inv X pins σ H s) (a : Addr) : Inv (X.suite a (X.pn ++ pins)) [] σ H s :=
  ⟨I.ok.suite a _, I.os, I.bare, I.base, I.loc, I.cell, I.free, I.freeC, fun p hp => I.pin p (by rw [List.append_nil] at hp; exact hp), I.hok, I.len⟩
theorem Inv.outSuite {a : Addr} {q : List (Addr × Obj)} (I : Inv (X.suite a (X.pn ++ pins)) q σ H s) (ok : X.Ok) : Inv X pins σ H s :=
  ⟨ok, I.os, I.bare, I.base, I.loc, I.cell, I.free, I.freeC, fun p hp => I.pin p (List.mem_append_left _ hp), I.hok, I.len⟩
end
/-- what 'except x as n' wishes, where the exception is kept -/
def wKeep (K : PySem.W.Frag) (m : Nat) (c : Value) (i : Nat) (ts : Addr → Value → Option Addr → TS) (W : WX) (D : Ends) : WX := fun cls d σ H => σ.length = m →
  ∃ b, PySem.W.exmOne K cls c = some b ∧ (b = false → W cls d σ H) ∧ (b = true → ∀ a, H a = none → ts a cls d ⟨fun σ' H' => D.nx (σ'.set i none) H', D.rt, fun σ' H' => D.bk (σ'.set i none) H', fun σ' H' => D.ct (σ'.set i none) H'⟩ (σ.set i (some (.ref a))) (upd H a (ExcO a cls d)))
section
variable {X : Cx} {x n : Str} {c : Value} {i : Nat} {body suite : List Stmt} {b0 : Stmt} {np pos pos' : Pos} {tb : WX → TS} {ts : Addr → Value → Option Addr → TS} {W0 : WX}
theorem ps_try_keep (hs : X.stack = X.env :: X.outer) (hf : X.env.frame = some X.env.locals) (hex : X.ex = []) (hN : X.N.Nodup) (hi : X.N[i]? = some n) (hln : X.env.kindOf n = some .local) (hc : Names X x c) (tk : Takes X W0)
    (hb : ∀ (W : WX) (pn : List (Addr × Obj)) (xe : Value → Shared → Prop), Takes (X.tr pn xe) W → PassesOwn (model X.prog X.w) X.A X.env xe → PSs (X.tr pn xe) body (tb W))
    (hsu : ∀ (a : Addr) (cls : Value) (d : Option Addr) (pn : List (Addr × Obj)), PSs (X.suite a pn) (b0 :: suite) (ts a cls d)) :
    PS X (.Try body [.ExceptHandler (some (.Name x np)) (some n) (b0 :: suite) pos'] [] [] pos) (fun D σ H => tb (wKeep X.K X.N.length c i ts W0 D) D σ H) := by
  refine ⟨fun pins s σ H D I h => ?_⟩
  have ok := I.ok
  have frm : X.A.frames = some (X.env :: X.outer) := by
    rw [ok.frames, hs]
  have lc : Loc X.env.scope n := .inl hln
  let hnd : List ExceptHandler := [.ExceptHandler (some (.Name x np)) (some n) (b0 :: suite) pos']
  refine wpAny_Try_except (wpAny_mono ((hb (wKeep X.K X.N.length c i ts W0 D) (X.pn ++ pins) (fun e s1 => wpAny (model X.prog X.w) X.A (noteFrame e X.env) (fun _ s2 => wpAny (model X.prog X.w) X.A (setFlight e none) (fun _ s3 =>
    wpAny (model X.prog X.w) X.A (handleBy e X.env hnd) (SP X pins D) X.xe s3) X.xe s2) X.xe s1) (fun u s1 xx => ?_) PassesOwn.looking).run [] s σ H D (I.toTry _) h) (fun f s1 sp => ?_) (fun _ _ q => q))
  · obtain ⟨a, B, t, ps, σ1, H1, cls, d, rfl, J0, nb, up, sky, na, os, ag, hw⟩ := xx
    have J : Inv X pins σ1 H1 t := J0.ofTry ok
    obtain ⟨b, hb1, hno, hyes⟩ := hw J.len
    rw [show (X.tr (X.pn ++ pins) _).stack = X.env :: X.outer from hs] at sky
    show wpAny (model X.prog X.w) X.A (noteFrame (.ref a) X.env) _ _ _
    refine Sky.land Zc.steady frm hf sky fun h3 f3 up3 => ?_
    have J3 : Inv X pins σ1 H1 { s1 with heap := h3 } := J.landed nb f3.1 (up.trans up3) os ag
    obtain ⟨o3, v3, g3, z3, d3⟩ := f3.there
    have nfr : a ∉ frs X.stack := fun hm => by
      rw [hs] at hm
      obtain ⟨_, o', e', q⟩ := f3.2.2.1.mem hm
      rw [g3] at e'
      cases e'
      exact q _ d3
    have new : t.heap.get? a = none := by
      cases q : t.heap.get? a with
      | none => rfl
      | some u =>
        have := nb a u q nfr
        rw [f3.2.1] at this
        cases this
    have S3 := Inv.inSuite (Inv.track (o := ExcO a cls d) J J3 hex na new (excO_ok g3 z3 d3)) a
    refine wpAny_handleBy_cons (codeAny_handlers_test ?_) (by intro q; cases q)
    have lt : PySem.W.Looks (model X.prog X.w) h3 (typeOf (.ref a)) cls := fun A Q E s k q => wpAny_typeOf_ref (k _ _ g3) (by rw [z3.1]; exact q)
    have lm := PySem.W.exm_one (M := model X.prog X.w) J3.kIn lt hb1
    have ask : ∀ {Q : Value → Shared → Prop} {E : Value → Shared → Prop}, Q c { s1 with heap := h3 } → wpAny (model X.prog X.w) (X.A.mark (some (.ref a))) (eval (.Name x np) X.env) Q E { s1 with heap := h3 } := fun {Q E} q => by
      obtain ⟨hg, hdbg, hm | ⟨hm, hv, hnn⟩⟩ := hc
      · exact ld_glob (X := X.suite a (X.pn ++ pins)) S3 hg hm q hdbg
      · exact ld_blt (X := X.suite a (X.pn ++ pins)) S3 hg hm hv q hnn hdbg
    refine ask (lm.here ?_)
    cases b with
    | true =>
      refine codeAny_handlers_suite_as (HandSPX.lands_againZ f3 fun h4 f4 up4 => ?_)
      have J4 : Inv X pins σ1 H1 { s1 with heap := h4 } := J.landed nb f4.1 ((up.trans up3).trans up4) os ag
      obtain ⟨o4, v4, g4, z4, d4⟩ := f4.there
      have S4 := Inv.inSuite (Inv.track (o := ExcO a cls d) J J4 hex na new (excO_ok g4 z4 d4)) a
      refine store_ok (X := X.suite a (X.pn ++ pins)) (v := .ref a) S4 hN hi lc rfl (fun s5 S5 => ?_) (.inr hln)
      refine wpAny_mono ((hsu a cls d (X.pn ++ pins)).run [] s5 _ _ _ S5 (hyes rfl a na)) (fun f s6 sp => ?_) (fun _ _ z => False.elim z)
      have fin : ∀ {σ6 : L2.St} {H6 : Hp} {Q : Shared → Prop}, Inv (X.suite a (X.pn ++ pins)) [] σ6 H6 s6 → (∀ s7, Inv X pins (σ6.set i none) H6 s7 → Q s7) →
          wpAny (model X.prog X.w) X.A (do bindName X.env n .none; unbindBehindTheSuite X.env n pos') (fun _ s7 => Q s7) X.xe s6 := fun {σ6 H6 Q} S6 hq => gone_ok (Inv.outSuite S6 ok) hN hi hln hq
      cases f with
      | next =>
        obtain ⟨σ6, H6, S6, q6⟩ := sp
        exact fin S6 fun s7 J7 => ⟨_, _, J7, q6⟩
      | brk =>
        obtain ⟨σ6, H6, S6, q6⟩ := sp
        exact fin S6 fun s7 J7 => ⟨_, _, J7, q6⟩
      | cont =>
        obtain ⟨σ6, H6, S6, q6⟩ := sp
        exact fin S6 fun s7 J7 => ⟨_, _, J7, q6⟩
      | ret u =>
        obtain ⟨v6, σ6, H6, S6, r6, q6⟩ := sp
        exact fin S6 fun s7 J7 => ⟨_, _, _, J7, r6, q6⟩
    | false =>
      show wpAny _ X.A (handleBy (.ref a) X.env []) _ _ _
      refine wpAny_handleBy_nil ?_
      obtain ⟨k1, k2, k3, oe, vs, T, oT, ts', he, hz, hd, h1, hr⟩ := id f3
      unfold PySem.passOn
      refine wpAny_bind (wpAny_field he hd h1 ?_)
      rw [if_neg (show ¬ ((Value.ref T == Value.none) = true) from by simp)]
      have out : wpAny (model X.prog X.w) X.A (setFlight (.ref a) X.env.frame) (fun _ s4 => wpAny (model X.prog X.w) X.A (throw (.ref a) : Sem Flow) (SP X pins D) X.xe s4) X.xe { s1 with heap := h3 } := by
        rw [hf]
        refine HandSPX.setFlight_upZ f3 fun h4 hh4 up4 => wpAny_throw (tk _ _ ?_)
        exact ⟨a, B, t, pins, σ1, H1, cls, d, rfl, J, nb, (up.trans up3).trans up4, .inr (.inr (by rw [hs]; exact hh4)), na, os, ag, hno rfl⟩
      first
        | exact wpAny_bind (wpAny_pure (wpAny_bind out))
        | exact wpAny_bind out
  · cases f with
    | next =>
      obtain ⟨σ', H', J', q⟩ := sp
      exact wpAny_execs_nil ⟨σ', H', J'.ofTry ok, q⟩
    | brk =>
      obtain ⟨σ', H', J', q⟩ := sp
      exact ⟨σ', H', J'.ofTry ok, q⟩
    | cont =>
      obtain ⟨σ', H', J', q⟩ := sp
      exact ⟨σ', H', J'.ofTry ok, q⟩
    | ret u =>
      obtain ⟨v, σ', H', J', r, q⟩ := sp
      exact ⟨v, σ', H', J'.ofTry ok, r, q⟩
end
end DL
namespace DL
open PySem PySem.Spec L2
abbrev veL : List Value := [.type "ValueError", .type "Exception", .type "BaseException", .type "object"]
/-- an exception class of the program's own -/
def XcF (K : PySem.W.Frag) (mg : Str → Option Value) (x : Str) : Prop := ∃ C, mg x = some (.ref C) ∧ PySem.W.excIn K C veL "ValueError.__new__" = true ∧ PySem.W.keepIn K (.ref C) = true ∧ PySem.W.subIn K (.ref C) (.type "BaseException") = some true ∧ PySem.W.typeIn K (.ref C) = some (.type "type")
def sRaise (x : Str) : FS := fun _ k => k.ex x
section
variable [Nm] {O : Ob} {X : Cx} {E : XK}
theorem ds_raise {x m : Str} {j : Nat} {p p2 cpos pos : Pos} (ai : Air X E) (hx : XcF X.K X.mg x) (hc : X.calm = true := by rfl) (hg : Gl X x := by rfl) (hdb : (x == ("__debug__" : Str)) = false := by decide) : DS O X E (.Raise (some (.Call (.Name x p) [.Constant (.str m) j p2] [] cpos)) none pos) (sRaise x) := by
  obtain ⟨C, hm, h1, h2, h3, h4⟩ := hx
  exact ⟨_, ps_raise hc ai.takes (pmk_own PySem.F.excBase_ValueError h1 hm h2 (raises_own h3 h4) hg hdb), fun H0 P0 Γ σ H own k D hd r hf l => l.exH r x C H (Same.refl H) hm hf⟩
end
def resL : List (Str × Str) := [("InvalidWay", "way"), ("InvalidWays", "ways"), ("InvalidSize", "size"), ("InvalidKey", "key"), ("InvalidKeys", "all"), ("InvalidRow", "row"), ("InvalidSight", "sight"), ("InvalidSeen", "seen"), ("InvalidOrder", "order"), ("InvalidTable", "table"), ("InvalidNumber", "number"), ("InvalidDeed", "deed"), ("InvalidText", "text"), ("TooLarge", "large"), ("Alike", "alike"), ("Sound", "sound"), ("NotShown", "shown"), ("NoRow", "there"), ("TooMany", "many"), ("NothingToUndo", "undo")]
def resW (c : Str) : Option Str := resL.lookup c
/-- what is known of the classes -/
structure XcA (K : PySem.W.Frag) (mg : Str → Option Value) : Prop where
  slot : ∃ S, mg "SlotError" = some (.ref S) ∧ ∀ n w C, resW n = some w → mg n = some (.ref C) → PySem.W.exmOne K (.ref C) (.ref S) = some true
  own : ∀ n w, resW n = some w → ∃ C, mg n = some (.ref C)
  exc : ∀ n w C, resW n = some w → mg n = some (.ref C) → ExcC K C ∧ PySem.W.kitOne K (.ref C) (.type "ValueError") = some true
  one : ∀ n w C m u C', resW n = some w → mg n = some (.ref C) → resW m = some u → mg m = some (.ref C') → PySem.W.kitOne K (.ref C) (.ref C') = some (decide (n = m))
def rIsX (K : PySem.W.Frag) : List V → Hp → VK → Prop := fun xs H Q => ∃ (a C : Addr) (c : V) (cv : Value) (b : Bool), xs = [.ref a, c] ∧ H a = some (ExcO a (.ref C) none) ∧ ExcC K C ∧ (∀ u, RelV c u → u = cv) ∧ PySem.W.kitOne K (.ref C) cv = some b ∧ Q (.bl b) H
theorem call_isX {X : Cx} : CallR X (.builtin "isinstance") (rIsX X.K) := by
  intro pins s σ H xs us Q I r h
  obtain ⟨a, C, c, cv, b, rfl, ha, hC, hcv, e, q⟩ := h
  obtain ⟨⟨oe, vs, g, hz, hv⟩, _⟩ := I.hok a _ ha
  cases r with
  | cons rx rr =>
    cases rr with
    | cons rt rr =>
      cases rr
      cases rx
      have ec := hcv _ rt
      subst ec
      have J : PySem.W.InstAt s.heap a oe C none := by
        obtain ⟨oc, od, oda, osl⟩ := oe
        obtain ⟨h1, h2⟩ := hz
        dsimp only at h1 h2 hv
        subst h1 h2 hv
        exact ⟨g, rfl, rfl, trivial⟩
      exact PySem.W.kia_one (PySem.W.handS_kitx_exc hC.hg hC.hk hC.hs hC.hd hC.ha hC.hn hC.ht hC.hm) I.kIn J e (fun z => nomatch z) fun tk => ⟨.bl b, H, I.kept (t' := tk) fun _ _ z => z, rfl, q⟩
def isXD (c : Str) : D → WD D
  | .dict [(.none, .str n)] => fun Q _ => (∃ w, resW n = some w) ∧ Q (.bool (decide (n = c)))
  | _ => fun _ _ => False
def isVD : D → WD D
  | .dict [(.none, .str n)] => fun Q _ => (∃ w, resW n = some w) ∧ Q (.bool true)
  | _ => fun _ _ => False
theorem isX_inv {c : Str} {d : D} {Q : D → Prop} {E : Str → Prop} (h : isXD c d Q E) : ∃ n w, d = excD n ∧ resW n = some w ∧ Q (.bool (decide (n = c))) := by
  unfold isXD at h
  split at h
  · rename_i n
    exact ⟨n, h.1.choose, rfl, h.1.choose_spec, h.2⟩
  · exact h.elim
theorem isV_inv {d : D} {Q : D → Prop} {E : Str → Prop} (h : isVD d Q E) : ∃ n w, d = excD n ∧ resW n = some w ∧ Q (.bool true) := by
  unfold isVD at h
  split at h
  · rename_i n
    exact ⟨n, h.1.choose, rfl, h.1.choose_spec, h.2⟩
  · exact h.elim
section
variable [Nm] {X : Cx} {E : XK}
theorem de_isX {P : Program} {w : World} {T u : Str} {e : Expr} {fa : Rho → WD D} {p1 p2 pos : Pos} (A : XcA X.K X.mg) (hT : resW T = some u) (ha : DE (obT P w X.mg) X E e fa) (hg : Gl X "isinstance") (hm : X.mg "isinstance" = none) (hg2 : Gl X T) (hd2 : (T == ("__debug__" : Str)) = false := by decide)
    (hv : bootBuiltins "isinstance" = some (.builtin "isinstance") := by decide +kernel)
    (hs : starEach [e, .Name T p2] X.env = (false, eval e X.env) :: starEach [.Name T p2] X.env := by rfl) (hs2 : starEach [.Name T p2] X.env = (false, eval (.Name T p2) X.env) :: starEach [] X.env := by rfl)
    (hpl : (backTo pos (starEach [.Name T p2] X.env)).any (·.1) = false := by rfl) :
    DE (obT P w X.mg) X E (.Call (.Name "isinstance" p1) [e, .Name T p2] [] pos) (eUn1 (isXD T) fa) := by
  obtain ⟨ta, a1, a2⟩ := ha
  obtain ⟨C', hC'⟩ := A.own T u hT
  have hN : PE X (.Name T p2) (tC (.ref C')) := pe_glob (v := .ref C') hg2 hC' rfl hd2
  refine ⟨_, pe_callB call_isX hg hm hv (pa_cons a1 (pa_cons hN pa_nil hs2) hs) (by decide) (by decide) hs hpl, fun P ρ σ H Qd Ed Q hd hr hf hQ hE => a2 P ρ σ H _ Ed _ hd hr hf (fun v d H1 s1 h1 q1 => ?_) hE⟩
  obtain ⟨n, w, rfl, hn, q⟩ := isX_inv q1
  obtain ⟨a, C, rfl, hC, e1, _⟩ := of_exc h1
  exact ⟨a, C, .ref C', .ref C', _, rfl, e1, (A.exc n w C hn hC).1, fun u r => r, A.one n w C T _ C' hn hC hT hC', hQ _ _ H1 s1 (.bl _) q⟩
theorem de_isV {P : Program} {w : World} {e : Expr} {fa : Rho → WD D} {p1 p2 pos : Pos} (A : XcA X.K X.mg) (ha : DE (obT P w X.mg) X E e fa) (hg : Gl X "isinstance") (hm : X.mg "isinstance" = none) (hg2 : Gl X "ValueError") (hm2 : X.mg "ValueError" = none)
    (hv : bootBuiltins "isinstance" = some (.builtin "isinstance") := by decide +kernel) (hv2 : bootBuiltins "ValueError" = some (.type "ValueError") := by decide +kernel)
    (hs : starEach [e, .Name "ValueError" p2] X.env = (false, eval e X.env) :: starEach [.Name "ValueError" p2] X.env := by rfl) (hs2 : starEach [.Name "ValueError" p2] X.env = (false, eval (.Name "ValueError" p2) X.env) :: starEach [] X.env := by rfl)
    (hpl : (backTo pos (starEach [.Name "ValueError" p2] X.env)).any (·.1) = false := by rfl) :
    DE (obT P w X.mg) X E (.Call (.Name "isinstance" p1) [e, .Name "ValueError" p2] [] pos) (eUn1 isVD fa) := by
  obtain ⟨ta, a1, a2⟩ := ha
  have hN : PE X (.Name "ValueError" p2) (tC (.ty "ValueError")) := pe_bltn hg2 hm2 hv2 rfl (by decide) (by decide)
  refine ⟨_, pe_callB call_isX hg hm hv (pa_cons a1 (pa_cons hN pa_nil hs2) hs) (by decide) (by decide) hs hpl, fun P ρ σ H Qd Ed Q hd hr hf hQ hE => a2 P ρ σ H _ Ed _ hd hr hf (fun v d H1 s1 h1 q1 => ?_) hE⟩
  obtain ⟨n, w, rfl, hn, q⟩ := isV_inv q1
  obtain ⟨a, C, rfl, hC, e1, _⟩ := of_exc h1
  exact ⟨a, C, .ty "ValueError", .type "ValueError", true, rfl, e1, (A.exc n w C hn hC).1, fun u r => r, (A.exc n w C hn hC).2, hQ _ _ H1 s1 (.bl _) q⟩
end
end DL
namespace DL
open PySem PySem.Spec L2
def noneG (n : Nat) : Env := List.replicate n none
theorem noneG_rg [Nm] {O : Ob} {K : PySem.W.Frag} {H H' : Hp} {P : Addr → Prop} {σ : L2.St} (s : Same H H') : Rg O K H P (noneG σ.length) σ H' (fun _ => none) := by
  refine ⟨s, fun _ _ _ e => (nomatch e), fun _ _ e => (nomatch e), ⟨by simp [clean, noneG], fun i d e => ?_⟩, fun i c e => ?_⟩
  · unfold clean noneG at e
    rw [List.map_replicate, List.getElem?_replicate] at e
    split at e <;> cases e
  · unfold noneG at e
    rw [List.getElem?_replicate] at e
    split at e <;> cases e
section
variable [Nm] {X : Cx}
/-- caught, answer = None, None -/
def tTwoN (K : PySem.W.Frag) (ic ia : Nat) : TS := tAsg (tTupF (tCons (tC .non) (tCons (tC .non) tNil))) (gTup K 2 (gCons (gName ic) (gCons (gName ia) gNil)))
def eRes (f : Rho → WD D) : Rho → WD D := fun ρ Q Ed => f ρ (fun d => Q (.tuple [.str "returns", d])) (fun c => ∃ w, resW c = some w ∧ Q (.tuple [.str w]))
theorem air_lam {A : Around} {outer : List PySem.Env} {s : Shared} {H : Hp} {E : XK} {scope : Scope} {f c' : Addr} : Air (LamX.lamCx X A outer s H E scope f c') E := by
  have tk : Takes (LamX.lamCx X A outer s H E scope f c') (fun cls d _ H => E cls d H) := takes_of (E := E) rfl rfl rfl rfl
  exact ⟨passes_call tk fun _ _ _ _ h => h, passes_of (K := fun e s'' => L2.CX X.prog X.w outer H s E e s'') rfl, tk⟩
theorem Same.ext {H H' : Hp} (e : LamX.ExtN H H') (t : TabOk H') : Same H H' := ⟨fun a o h n => e a o h fun ps z => n (.inl ⟨ps, z⟩), fun _ => t, .of (fun a p es i h => e a _ h fun ps z => nomatch z) fun a o u h => e a _ h fun ps z => nomatch z⟩
end
end DL
namespace DL
open PySem PySem.Spec L2
def xcB (K : PySem.W.Frag) (x : Str) : Bool := PySem.W.excIn K (He.ga K x) veL "ValueError.__new__" && (PySem.W.keepIn K (.ref (He.ga K x)) && (decide (PySem.W.subIn K (.ref (He.ga K x)) (.type "BaseException") = some true) && decide (PySem.W.typeIn K (.ref (He.ga K x)) = some (.type "type"))))
theorem xcB_ok {K : PySem.W.Frag} {mg : Str → Option Value} {x : Str} (h : xcB K x = true) (m : mg x = some (.ref (He.ga K x))) : XcF K mg x := by
  unfold xcB at h
  simp only [Bool.and_eq_true, decide_eq_true_eq] at h
  exact ⟨_, m, h.1, h.2.1, h.2.2.1, h.2.2.2⟩
def ecB (K : PySem.W.Frag) (D : Addr) : Bool := decide (PySem.W.findIn K (.ref D) "__getattribute__" = some (some (.builtin "BaseException.__getattribute__"))) && (decide (PySem.W.findIn K (.ref D) "__getattr__" = some none) && (decide (PySem.W.subIn K (.ref D) (.type "BaseException") = some true) && (PySem.W.hasDictIn K D
  && (decide (PySem.W.findIn K (.ref D) "__class__" = some (some (.builtin "object.__class__"))) && (decide (PySem.W.specialIn K (.builtin "object.__class__") "__get__" = some (some (.builtin "getset_descriptor.__get__"))) && (decide (PySem.W.takesIn K (.builtin "object.__class__") = some true) && decide (PySem.W.mroIn K D (.type "object") = some true)))))))
theorem ecB_ok {K : PySem.W.Frag} {D : Addr} (h : ecB K D = true) : ExcC K D := by
  unfold ecB at h
  simp only [Bool.and_eq_true, decide_eq_true_eq] at h
  exact ⟨h.1, h.2.1, h.2.2.1, h.2.2.2.1, h.2.2.2.2.1, h.2.2.2.2.2.1, h.2.2.2.2.2.2.1, h.2.2.2.2.2.2.2⟩
def xaB (K : PySem.W.Frag) : Bool := resL.all fun p => ecB K (He.ga K p.1) && (decide (PySem.W.kitOne K (.ref (He.ga K p.1)) (.type "ValueError") = some true) && (decide (PySem.W.exmOne K (.ref (He.ga K p.1)) (.ref (He.ga K "SlotError")) = some true) && resL.all fun q => decide (PySem.W.kitOne K (.ref (He.ga K p.1)) (.ref (He.ga K q.1)) = some (decide (p.1 = q.1)))))
theorem resW_mem {n w : Str} (h : resW n = some w) : (n, w) ∈ resL := PySem.mem_of_lookup h
theorem xaB_ok {K : PySem.W.Frag} {mg : Str → Option Value} (h : xaB K = true) (hs : mg "SlotError" = some (.ref (He.ga K "SlotError"))) (m : ∀ p ∈ resL, mg p.1 = some (.ref (He.ga K p.1))) : XcA K mg := by
  have all : ∀ p ∈ resL, ExcC K (He.ga K p.1) ∧ PySem.W.kitOne K (.ref (He.ga K p.1)) (.type "ValueError") = some true ∧ PySem.W.exmOne K (.ref (He.ga K p.1)) (.ref (He.ga K "SlotError")) = some true ∧ ∀ q ∈ resL, PySem.W.kitOne K (.ref (He.ga K p.1)) (.ref (He.ga K q.1)) = some (decide (p.1 = q.1)) := fun p hp => by
    have := List.all_eq_true.mp h p hp
    simp only [Bool.and_eq_true, decide_eq_true_eq, List.all_eq_true] at this
    exact ⟨ecB_ok this.1, this.2.1, this.2.2.1, this.2.2.2⟩
  have ad : ∀ {n w : Str} {C : Addr}, resW n = some w → mg n = some (.ref C) → C = He.ga K n := fun {n w C} e e1 => by
    have := m _ (resW_mem e)
    rw [e1] at this
    cases this
    rfl
  refine ⟨⟨_, hs, fun n w C e e1 => ?_⟩, fun n w e => ⟨_, m _ (resW_mem e)⟩, fun n w C e e1 => ?_, fun n w C n' w' C' e e1 e2 e3 => ?_⟩
  · rw [ad e e1]
    exact (all _ (resW_mem e)).2.2.1
  · rw [ad e e1]
    exact ⟨(all _ (resW_mem e)).1, (all _ (resW_mem e)).2.1⟩
  · rw [ad e e1, ad e2 e3]
    exact (all _ (resW_mem e)).2.2.2 _ (resW_mem e2)
def tabsOf (K : PySem.W.Frag) (tf : List He.Defn) : List (Addr × Str) := tf.map fun p => ((He.cT K p).2, p.1 ++ ".<locals>." ++ "<lambda>")
def uniqB (l : List (Addr × Str)) : Bool := l.all fun p => l.all fun q => !decide (p.1 = q.1) || decide (p.2 = q.2)
/-- what is told of what is remembered -/
structure MemB where
  mem : Hp → Nat → Array DictEntry → Prop
  memK : ∀ {H H' : Hp} {d : Nat} {es : Array DictEntry}, (∀ a o u, H a = some (.frz o u) → H' a = some (.frz o u)) → mem H d es → mem H' d es
  desc : Nat → Option (D × List D)
def memN : MemB := ⟨fun _ _ _ => False, (fun _ h => h), fun _ => none⟩
def nmOf (K : PySem.W.Frag) (tf : List He.Defn) (h : uniqB (tabsOf K tf) = true) (B : MemB := memN) : Nm := ⟨tabsOf K tf, fun p hp q hq e => by
  have := List.all_eq_true.mp (List.all_eq_true.mp h p hp) q hq
  simpa [e] using this, B.mem, B.memK, B.desc⟩
theorem tabF_of {B : MemB} {K : PySem.W.Frag} {mg : Str → Option Value} {base : Heap} {tf : List He.Defn} (hu : uniqB (tabsOf K tf) = true) {x : Str} (hx : (x, none) ∈ tf) (hm : mg x = some (.ref (He.ga K x))) {params : Arguments} {body : List Stmt} {scope : Scope} {dvs : List V} {kws : List (Str × V)} {fd : FuncData}
    (F : FunD K x x params body scope dvs kws (He.ga K x) fd) (tb : ∀ p ∈ tf.map (He.cT K), LamX.TabB base mg p.1 p.2) : @TabF (nmOf K tf hu B) K mg base x := by
  intro f oc od fd' osl e lk
  obtain rfl : f = He.ga K x := by
    rw [hm] at e
    cases e
    rfl
  obtain ⟨oc2, od2, dV, kV, doc, pm, an, cdv, ct, osl2, e2, lk2, hcd, _, _⟩ := F.ex
  rw [lk] at lk2
  cases lk2
  obtain ⟨c, ec⟩ := He.codeIn_ref hcd
  have hc : fd.code = .ref c := by
    rw [e2]
    exact ec
  have e4 : He.codeOf K (x, none) = c := He.codeOf_eq (p := (x, none)) lk hc
  refine ⟨c, (He.cT K (x, none)).2, hc, ?_, List.mem_map.mpr ⟨_, hx, rfl⟩⟩
  have := tb _ (List.mem_map.mpr ⟨_, hx, rfl⟩)
  rw [show (He.cT K (x, none)).1 = c from e4] at this
  exact this
/-- the law's promise at the head -/
theorem law_at {B : MemB} {l : PySem.W.OpenLaw} {w : World} {K : PySem.W.Frag} {mg : Str → Option Value} {fa : Addr} {h : Heap} {k : Nat} {fs : List He.Fa} {fn : List He.DefD} {tf : List He.Defn} {ex : PySem.W.Frag → Bool} {params : Arguments} {body : List Stmt} {scope : Scope} {fd : FuncData} (KX : K.In h) (c : He.SaysX fs fn [] tf ex w h K) (hu : uniqB (tabsOf K tf) = true)
    (F : FunD K "law" "law" params body scope [] [] fa fd) (hb : ∀ (kV doc pm : Value) (an : Option Addr) (cdv ct : Value) (us : List Value), us.length = ["script"].length → bindArgs (PySem.W.fnOf "law" "law" params body scope .none kV doc pm an cdv ct) ⟨us, []⟩ = pure ((["script"] : List Str).zip us))
    (hF : ∀ base : Heap, (∀ p ∈ tf.map (He.cT K), LamX.TabB base mg p.1 p.2) → FnOk l.prog w K mg base (L2.CX l.prog w) k fa fd ["script"] (@spLaw (nmOf K tf hu B) K)) : LamX.LawAtS l w K (L2.CX l.prog w) k 63 "script" mg fa h := by
  have mp : ∀ {Q : Addr × Addr → Prop}, (∀ p ∈ tf, Q (He.cT K p)) → ∀ p ∈ tf.map (He.cT K), Q p := fun hq p hp => by
    obtain ⟨q, h1, rfl⟩ := List.mem_map.mp hp
    exact hq q h1
  have b := L2.FunD.bindsA (ps := ["script"]) F hb
  refine ⟨fd, tf.map (He.cT K), @spLaw (nmOf K tf hu B) K, mp (Q := fun p => h.get? p.2 = _) c.empty, mp (Q := fun p => K.lookup p.2 = none) c.out, mp (Q := fun p => PySem.W.CodeHd h p.1 p.2) fun p hp => PySem.W.codeHd_of_K KX (c.hd p hp), fun s v => b s [v] rfl, fun H a ns hl _ hT hS => ⟨a, ns, rfl, hl, hS, fun p hp => ?_, fun _ => rfl⟩, fun base _ _ tb => hF base tb⟩
  obtain ⟨q, h1, rfl⟩ := List.mem_map.mp hp
  exact LamX.TabS.nil (hT _ (List.mem_map.mpr ⟨q, h1, rfl⟩))
theorem no_cx {P : Program} {w : World} {H : Hp} {s : Shared} {e : Value} {s' : Shared} (h : L2.CX P w [] H s (fun _ _ _ => False) e s') : False := by
  obtain ⟨_, _, _, _, _, _, _, _, _, _, _, _, z⟩ := h
  exact z
section
variable [Nm] {O : Ob} {X : Cx} {E : XK}
def eCbK (g : List D → WD D) (fa fk : Rho → WD (List D)) : Rho → WD D := fun ρ Q Ed => fa ρ (fun ds => fk ρ (fun es => g (ds ++ es) Q Ed) Ed) Ed
def sCat (i : Nat) (f : Rho → WD (List D)) : FS := fun Γ k => ownAt Γ i fun xs => f (clean Γ) (fun ys => (xs.length + ys.length ≤ 1000000) ∧ k.nx (Γ.set i (some (.own (.lst (xs ++ ys)))))) k.ex
theorem wR {i : Nat} {f : Rho → WD (List D)} {Γ : Env} {k : KS} : sCat i f Γ k = ownAt Γ i fun xs => f (clean Γ) (fun ys => (xs.length + ys.length ≤ 1000000) ∧ k.nx (Γ.set i (some (.own (.lst (xs ++ ys)))))) k.ex := propext Iff.rfl
end
section
variable {ρ : Rho} {Q : D → Prop} {E : Str → Prop} {Γ : Env} {k : KS}
theorem wO {x : Str} : sRaise x Γ k = k.ex x := propext Iff.rfl
theorem wP {f : Rho → WD D} : eRes f ρ Q E = f ρ (fun d => Q (.tuple [.str "returns", d])) (fun c => ∃ w, resW c = some w ∧ Q (.tuple [.str w])) := propext Iff.rfl
theorem wQ {g : List D → WD D} {fa fk : Rho → WD (List D)} : eCbK g fa fk ρ Q E = fa ρ (fun ds => fk ρ (fun es => g (ds ++ es) Q E) E) E := propext Iff.rfl
end
end DL
namespace DL
open PySem PySem.Spec PyProof.Rows L2
theorem depth_ints : ∀ ns : List Int, PyData.depthAll (ns.map PyData.int) = 0
  | [] => by simp [PyData.depthAll]
  | n :: r => by simp [PyData.depthAll, PyData.depth, depth_ints r]
end DL
namespace DL
open PySem PySem.Spec PyProof.Rows L2 TL
section
variable [Nm] {O : Ob} {X : Cx} {E : XK} {K : PySem.W.Frag} {H H' : Hp} {P P' : Addr → Prop}
theorem Kds.isSome {a : List (Key × V)} {b : List (Key × D)} {k : Key} (h : Kds O K H P a b) : (valV a k).isSome = (lookG b k).isSome := by
  cases e : lookG b k with
  | none => rw [h.none e]; rfl
  | some d =>
    obtain ⟨v, ev, _⟩ := h.look e
    rw [ev]
    rfl
theorem Kds.getD {a : List (Key × V)} {b : List (Key × D)} {k : Key} {v : V} {d : D} (h : Kds O K H P a b) (hv : Dv O K H P v d) : Dv O K H P ((valV a k).getD v) ((lookG b k).getD d) := by
  cases e : lookG b k with
  | none => rw [h.none e]; exact hv
  | some d' =>
    obtain ⟨v', ev, hd⟩ := h.look e
    rw [ev]
    exact hd
end
end DL
namespace DL
open PySem PySem.Spec PyProof.Rows L2
end DL
namespace DL
open PySem PySem.Spec PyProof.Rows L2
section
variable [Nm] {P : Program} {w : World} {mg : Str → Option Value} {K : PySem.W.Frag} {H : Hp} {Pr : Addr → Prop} {v : V}
theorem of_ob1 {k : D × D} (h : Dv (obT P w mg) K H Pr v (.dict [k])) (e : k.1 = .none) : (obT P w mg).ro K H Pr v [k] := by
  generalize ed : (PyData.dict [k]) = d at h
  cases h with
  | @dct a kvs ds e1 e2 e3 e4 =>
    unfold dictE at ed
    injection ed with ed
    cases ds with
    | nil => cases ed
    | cons p r =>
      injection ed with ed _
      obtain ⟨k', x⟩ := p
      rw [ed] at e
      cases k' <;> cases e
  | dcz =>
    unfold dictZ at ed
    injection ed with ed
    injection ed with ed _
    rw [ed] at e
    cases e
  | nd =>
    injection ed with ed
    injection ed with ed _
    rw [ed] at e
    cases e
  | ndz =>
    injection ed with ed
    injection ed with ed _
    rw [ed] at e
    cases e
  | obj h =>
    injection ed with ed
    subst ed
    exact h
  | _ => cases ed
theorem of_id {a : Addr} (h : Dv (obT P w mg) K H Pr v (idD a)) : v = .ref a := by
  obtain ⟨b, e, i⟩ : idIs v (a : Int) := of_ob1 h rfl
  rw [e, show a = b from Int.ofNat_inj.mp i]
theorem dv_id {a : Addr} : Dv (obT P w mg) K H Pr (.ref a) (idD a) := .obj (show idIs (.ref a) (a : Int) from ⟨a, rfl, rfl⟩)
theorem of_obj {a : Addr} {c : Str} {fl : Fls} (h : Dv (obT P w mg) K H Pr v (objD a c fl)) : ∃ (C dx : Addr) (fs : List (Str × V)), v = .ref a ∧ mg c = some (.ref C) ∧ H a = some (.ins C dx fs) ∧ ¬ Pr a ∧ dskF fs = true ∧ FlOk K H (fun _ p => ¬ Pr p) fl fs := by
  obtain ⟨b, C, dx, fl', fs, e, i, hC, h1, h2, h3, h4, h5⟩ : objIs mg K H Pr v (a : Int) c (fl.map fE) := of_ob1 h rfl
  have : b = a := Int.ofNat_inj.mp i.symm
  subst this
  rw [fE_map_inj h4]
  exact ⟨C, dx, fs, e, hC, h1, h2, h3, h5⟩
end
structure Dk where
  cls : Str
  fl : Fls
abbrev Sto := Addr → Option Dk
/-- whose list, of which field -/
abbrev Owr := Addr → Option (Addr × Str)
/-- what belongs to the objects -/
def Pst (S : Sto) (w : Owr) (a : Addr) : Prop := S a ≠ none ∨ w a ≠ none
structure StOk (mg : Str → Option Value) (K : PySem.W.Frag) (S : Sto) (w : Owr) (H : Hp) : Prop where
  ins : ∀ a k, S a = some k → ∃ (C dx : Addr) (fs : List (Str × V)), mg k.cls = some (.ref C) ∧ H a = some (.ins C dx fs) ∧ dskF fs = true ∧ FlOk K H (fun f p => w p = some (a, f)) k.fl fs
  lst : ∀ p, w p ≠ none → ∃ xs, H p = some (.lst xs)
section
variable [Nm] {mg : Str → Option Value} {K : PySem.W.Frag} {S S' S2 : Sto} {w w' w2 : Owr} {H H' H2 : Hp} {B : Addr → Prop}
theorem StOk.mb (h : StOk mg K S w H) {a : Addr} (p : Pst S w a) : ∃ o, H a = some o ∧ Mb o := by
  rcases p with p | p
  · cases e : S a with
    | none => exact absurd e p
    | some k =>
      obtain ⟨C, dx, fs, _, h1, h2, _⟩ := h.ins a k e
      exact ⟨_, h1, mb_ins h2⟩
  · obtain ⟨xs, e⟩ := h.lst a p
    exact ⟨_, e, mb_lst⟩
/-- what belongs to the objects stays as it is -/
theorem StOk.keep (h : StOk mg K S w H) (l : ∀ a o, H a = some o → Pst S w a → H' a = some o) (f : ∀ a o u, H a = some (.frz o u) → H' a = some (.frz o u)) : StOk mg K S w H' := by
  refine ⟨fun a k e => ?_, fun p e => ?_⟩
  · obtain ⟨C, dx, fs, hC, h1, h2, h3⟩ := h.ins a k e
    exact ⟨C, dx, fs, hC, l _ _ h1 (.inl (by rw [e]; exact fun z => nomatch z)), h2, h3.to (fun f p vs e z => ⟨l _ _ e (.inr (by rw [z]; exact fun z => nomatch z)), z⟩) f⟩
  · obtain ⟨xs, h1⟩ := h.lst p e
    exact ⟨xs, l _ _ h1 (.inr e)⟩
theorem StOk.same (h : StOk mg K S w H) (s : Same H H') : StOk mg K S w H' := h.keep (fun a o e p => by
  obtain ⟨u, e1, m⟩ := h.mb p
  rw [e] at e1
  cases e1
  exact s.all a o e (no_mb m)) fun a o u e => s.all a _ e no_frz
/-- from one store to another -/
structure Chg (mg : Str → Option Value) (K : PySem.W.Frag) (S : Sto) (w : Owr) (H : Hp) (S' : Sto) (w' : Owr) (H' : Hp) : Prop where
  kf : Kf (Pst S w) H H'
  tab : TabOk H → TabOk H'
  old : ∀ a, Pst S w a → Pst S' w' a
  new : ∀ a, Pst S' w' a → Pst S w a ∨ Nn H a
  st : StOk mg K S' w' H'
theorem Chg.of (h : StOk mg K S w H) (s : Same H H') : Chg mg K S w H S w H' := ⟨.of s, s.tab, fun _ z => z, fun _ z => .inl z, h.same s⟩
theorem Chg.refl (h : StOk mg K S w H) : Chg mg K S w H S w H := .of h (.refl H)
theorem Chg.nn {a : Addr} (c : Chg mg K S w H S' w' H') (n : Nn H' a) (p : ¬ Pst S w a) : Nn H a := fun o e => Classical.byContradiction fun z => z (n o (c.kf.all a o e p z))
theorem Chg.trans (a : Chg mg K S w H S' w' H') (b : Chg mg K S' w' H' S2 w2 H2) : Chg mg K S w H S2 w2 H2 := by
  refine ⟨⟨fun x o e n z => ?_, a.kf.mem.trans b.kf.mem⟩, fun t => b.tab (a.tab t), fun x p => b.old x (a.old x p), fun x p => ?_, b.st⟩
  · refine b.kf.all x o (a.kf.all x o e n z) (fun p => ?_) z
    rcases a.new x p with q | q
    · exact n q
    · exact z (q o e)
  · by_cases q : Pst S w x
    · exact .inl q
    · rcases b.new x p with r | r
      · exact a.new x r
      · exact .inr (a.nn r q)
theorem Chg.same (c : Chg mg K S w H S' w' H') (s : Same H' H2) : Chg mg K S w H S' w' H2 := c.trans (.of c.st s)
/-- what else is kept apart -/
def PB (B : Addr → Prop) (S : Sto) (w : Owr) : Addr → Prop := fun a => B a ∨ Pst S w a
structure DomS (mg : Str → Option Value) (K : PySem.W.Frag) (B : Addr → Prop) (S : Sto) (w : Owr) (H : Hp) : Prop where
  st : StOk mg K S w H
  has : ∀ a, B a → ∃ o, H a = some o ∧ Mb o
  tab : TabOk H
  dis : ∀ a, B a → ¬ Pst S w a
theorem DomS.dom (h : DomS mg K B S w H) : Dom H (PB B S w) := ⟨fun a p => p.elim (h.has a) h.st.mb, h.tab⟩
theorem DomS.dom0 (h : DomS mg K B S w H) : Dom H B := ⟨h.has, h.tab⟩
theorem DomS.chg (h : DomS mg K B S w H) (c : Chg mg K S w H S' w' H') : DomS mg K B S' w' H' := by
  refine ⟨c.st, fun a b => ?_, c.tab h.tab, fun a b p => ?_⟩
  · obtain ⟨o, e, m⟩ := h.has a b
    exact ⟨o, c.kf.all a o e (h.dis a b) (no_mb m), m⟩
  · rcases c.new a p with q | q
    · exact h.dis a b q
    · obtain ⟨o, e, m⟩ := h.has a b
      exact no_mb m (q o e)
theorem DomS.same (h : DomS mg K B S w H) (s : Same H H') : DomS mg K B S w H' := h.chg (.of h.st s)
theorem Chg.pb (c : Chg mg K S w H S' w' H') : ∀ a, PB B S' w' a → PB B S w a ∨ Nn H a := fun a p => by
  rcases p with p | p
  · exact .inl (.inl p)
  · exact (c.new a p).imp .inr id
theorem Chg.kfB (c : Chg mg K S w H S' w' H') : Kf (PB B S' w') H H' := ⟨fun a o e n z => c.kf.all a o e (fun p => n (.inr (c.old a p))) z, c.kf.mem⟩
variable {O : Ob}
theorem Dv.chg {v : V} {d : D} (h : Dv O K H (PB B S w) v d) (hd : DomS mg K B S w H) (c : Chg mg K S w H S' w' H') : Dv O K H' (PB B S' w') v d := h.kf c.pb c.kfB hd.dom
theorem DvAll.chg {v : List V} {d : List D} (h : DvAll O K H (PB B S w) v d) (hd : DomS mg K B S w H) (c : Chg mg K S w H S' w' H') : DvAll O K H' (PB B S' w') v d := h.kf c.pb c.kfB hd.dom
theorem Rs.chg {ρ : Rho} {σ : L2.St} (h : Rs O K (PB B S w) ρ σ H) (hd : DomS mg K B S w H) (c : Chg mg K S w H S' w' H') : Rs O K (PB B S' w') ρ σ H' := h.kf c.pb c.kfB hd.dom
end
def rsvD (S : Sto) : D → D
  | .dict [(.none, .list [.int i])] => match S i.toNat with
    | some k => objD i.toNat k.cls k.fl
    | none => .dict [(.none, .list [.int i])]
  | d => d
theorem rsvD_id {S : Sto} {a : Addr} {k : Dk} (e : S a = some k) : rsvD S (idD a) = objD a k.cls k.fl := by
  show (match S (a : Int).toNat with | some k => objD (a : Int).toNat k.cls k.fl | none => _) = _
  rw [Int.toNat_natCast, e]
def rsv (S : Sto) (ρ : Rho) : Rho := ρ.map fun o => o.map (rsvD S)
section
variable [Nm] {P : Program} {wd : World} {mg : Str → Option Value} {K : PySem.W.Frag} {S : Sto} {w : Owr} {H : Hp} {B : Addr → Prop} {v : V} {d : D}
theorem Dv.rsv (h : DomS mg K B S w H) (hv : Dv (obT P wd mg) K H (PB B S w) v d) : Dv (obT P wd mg) K H B v (rsvD S d) := by
  unfold rsvD
  split
  · rename_i i
    obtain ⟨a, rfl, rfl⟩ : idIs v i := of_ob1 hv rfl
    rw [Int.toNat_natCast]
    cases e : S a with
    | none => exact dv_id
    | some k =>
      obtain ⟨C, dx, fs, hC, h1, h2, h3⟩ := h.st.ins a k e
      exact .obj (show objIs mg K H B (.ref a) (a : Int) k.cls (k.fl.map fE) from ⟨a, C, dx, k.fl, fs, rfl, rfl, hC, h1, fun z => h.dis a z (.inl (by rw [e]; exact fun z => nomatch z)), h2, rfl, h3.to (fun f p vs e z => ⟨e, fun b => h.dis p b (.inr (by rw [z]; exact fun z => nomatch z))⟩) fun _ _ _ e => e⟩)
  · exact hv.less fun a z => .inl z
theorem Rs.rsv {ρ : Rho} {σ : L2.St} (h : DomS mg K B S w H) (hr : Rs (obT P wd mg) K (PB B S w) ρ σ H) : Rs (obT P wd mg) K B (rsv S ρ) σ H := by
  refine ⟨by rw [hr.len]; simp [DL.rsv], fun i d e => ?_⟩
  unfold DL.rsv at e
  rw [List.getElem?_map] at e
  cases q : ρ[i]? with
  | none =>
    rw [q] at e
    cases e
  | some o =>
    rw [q] at e
    cases o with
    | none => cases e
    | some d' =>
      cases e
      obtain ⟨v, e1, h1⟩ := hr.get i d' q
      exact ⟨v, e1, h1.rsv h⟩
end
abbrev WS (α : Type) := (α → Sto → Prop) → (Str → Sto → Prop) → Prop
abbrev OX [Nm] (X : Cx) : Ob := obT X.prog X.w X.mg
section
variable [Nm]
def VOkS (X : Cx) (B : Addr → Prop) (S : Sto) (w : Owr) (H : Hp) (Qd : D → Sto → Prop) (Q : VK) : Prop := ∀ v d S' w' H', Chg X.mg X.K S w H S' w' H' → Dv (OX X) X.K H' (PB B S' w') v d → Qd d S' → Q v H'
def XOkS (X : Cx) (E : XK) (S : Sto) (w : Owr) (H : Hp) (Ed : Str → Sto → Prop) : Prop := ∀ c a S' w' H', Chg X.mg X.K S w H S' w' H' → X.mg c = some (.ref a) → Ed c S' → E (.ref a) none H'
def ME (X : Cx) (E : XK) (e : Expr) (f : Rho → Sto → WS D) : Prop := ∃ t, PE X e t ∧ ∀ (B : Addr → Prop) (ρ : Rho) (σ : L2.St) (S : Sto) (w : Owr) (H : Hp) (Qd : D → Sto → Prop) (Ed : Str → Sto → Prop) (Q : VK),
  DomS X.mg X.K B S w H → Rs (OX X) X.K (PB B S w) ρ σ H → f ρ S Qd Ed → VOkS X B S w H Qd Q → XOkS X E S w H Ed → t σ H Q
def MT (X : Cx) (E : XK) (e : Expr) (f : Rho → Sto → WS Bool) : Prop := ∃ t, PT X e t ∧ ∀ (B : Addr → Prop) (ρ : Rho) (σ : L2.St) (S : Sto) (w : Owr) (H : Hp) (Qd : Bool → Sto → Prop) (Ed : Str → Sto → Prop) (Q : Bool → Hp → Prop),
  DomS X.mg X.K B S w H → Rs (OX X) X.K (PB B S w) ρ σ H → f ρ S Qd Ed → (∀ b S' w' H', Chg X.mg X.K S w H S' w' H' → Qd b S' → Q b H') → XOkS X E S w H Ed → t σ H Q
def MW (X : Cx) (E : XK) (e : Expr) (f : Rho → Sto → WS Bool) : Prop := ∃ t, PW X e t ∧ ∀ (B : Addr → Prop) (ρ : Rho) (σ : L2.St) (S : Sto) (w : Owr) (H : Hp) (Qd : Bool → Sto → Prop) (Ed : Str → Sto → Prop) (Q : Bool → Hp → Prop),
  DomS X.mg X.K B S w H → Rs (OX X) X.K (PB B S w) ρ σ H → f ρ S Qd Ed → (∀ b S' w' H', Chg X.mg X.K S w H S' w' H' → Qd b S' → Q b H') → XOkS X E S w H Ed → t σ H Q
variable {X : Cx} {E : XK} {e a b : Expr} {pos : Pos} {fa fb : Rho → Sto → WS D} {S S' : Sto} {w w' : Owr} {H H' : Hp} {B : Addr → Prop}
theorem XOkS.chg {Ed : Str → Sto → Prop} (h : XOkS X E S w H Ed) (c : Chg X.mg X.K S w H S' w' H') : XOkS X E S' w' H' Ed := fun x a S2 w2 H2 c2 m z => h x a S2 w2 H2 (c.trans c2) m z
theorem VOkS.chg {Qd : D → Sto → Prop} {Q : VK} (h : VOkS X B S w H Qd Q) (c : Chg X.mg X.K S w H S' w' H') : VOkS X B S' w' H' Qd Q := fun v d S2 w2 H2 c2 m z => h v d S2 w2 H2 (c.trans c2) m z
theorem XOkS.x {Ed : Str → Sto → Prop} (h : XOkS X E S w H Ed) (st : StOk X.mg X.K S w H) : XOk X E H (fun c => Ed c S) := fun c a H' s m z => h c a S w H' (.of st s) m z
def mC (f : Rho → WD D) : Rho → Sto → WS D := fun ρ S Q Ed => f ρ (fun d => Q d S) (fun c => Ed c S)
def mR (f : Rho → WD D) : Rho → Sto → WS D := fun ρ S Q Ed => f (rsv S ρ) (fun d => pureD d = true ∧ Q d S) (fun c => Ed c S)
def tR (f : Rho → WD Bool) : Rho → Sto → WS Bool := fun ρ S Q Ed => f (rsv S ρ) (fun b => Q b S) (fun c => Ed c S)
theorem me_cl {f : Rho → WD D} (h : DE (OX X) X E e f) : ME X E e (mC f) := by
  obtain ⟨t, h1, h2⟩ := h
  exact ⟨t, h1, fun B ρ σ S w H Qd Ed Q hd hr hf hQ hE => h2 (PB B S w) ρ σ H _ _ Q hd.dom hr hf (fun v d H' s h q => hQ v d S w H' (.of hd.st s) h q) (hE.x hd.st)⟩
theorem me_rd {f : Rho → WD D} (h : DE (OX X) X E e f) : ME X E e (mR f) := by
  obtain ⟨t, h1, h2⟩ := h
  exact ⟨t, h1, fun B ρ σ S w H Qd Ed Q hd hr hf hQ hE => h2 B _ σ H _ _ Q hd.dom0 (hr.rsv hd) hf (fun v d H' s h q => hQ v d S w H' (.of hd.st s) (h.pure q.1) q.2) (hE.x hd.st)⟩
theorem mt_rd {f : Rho → WD Bool} (h : DT (OX X) X E e f) : MT X E e (tR f) := by
  obtain ⟨t, h1, h2⟩ := h
  exact ⟨t, h1, fun B ρ σ S w H Qd Ed Q hd hr hf hQ hE => h2 B _ σ H _ _ Q hd.dom0 (hr.rsv hd) hf (fun b H' s q => hQ b S w H' (.of hd.st s) q) (hE.x hd.st)⟩
def mOp (g : D → D → WD D) (fa fb : Rho → Sto → WS D) : Rho → Sto → WS D := fun ρ S Q Ed => fa ρ S (fun x S1 => fb ρ S1 (fun y S2 => g (rsvD S2 x) (rsvD S2 y) (fun d => pureD d = true ∧ Q d S2) (fun c => Ed c S2)) Ed) Ed
theorem opM {r : R2} {g : D → D → WD D} (hg : OpD (OX X) X r g) {ta tb : TE}
    (ha : ∀ (B : Addr → Prop) (ρ : Rho) (σ : L2.St) (S : Sto) (w : Owr) (H : Hp) (Qd : D → Sto → Prop) (Ed : Str → Sto → Prop) (Q : VK), DomS X.mg X.K B S w H → Rs (OX X) X.K (PB B S w) ρ σ H → fa ρ S Qd Ed → VOkS X B S w H Qd Q → XOkS X E S w H Ed → ta σ H Q)
    (hb : ∀ (B : Addr → Prop) (ρ : Rho) (σ : L2.St) (S : Sto) (w : Owr) (H : Hp) (Qd : D → Sto → Prop) (Ed : Str → Sto → Prop) (Q : VK), DomS X.mg X.K B S w H → Rs (OX X) X.K (PB B S w) ρ σ H → fb ρ S Qd Ed → VOkS X B S w H Qd Q → XOkS X E S w H Ed → tb σ H Q)
    (B : Addr → Prop) (ρ : Rho) (σ : L2.St) (S : Sto) (w : Owr) (H : Hp) (Qd : D → Sto → Prop) (Ed : Str → Sto → Prop) (Q : VK) (hd : DomS X.mg X.K B S w H) (hr : Rs (OX X) X.K (PB B S w) ρ σ H) (hf : mOp g fa fb ρ S Qd Ed) (hQ : VOkS X B S w H Qd Q) (hE : XOkS X E S w H Ed) : tOp r ta tb σ H Q :=
  ha B ρ σ S w H _ _ _ hd hr hf (fun x d S1 w1 H1 c1 h1 q1 => hb B ρ σ S1 w1 H1 _ _ _ (hd.chg c1) (hr.chg hd c1) q1 (fun y e S2 w2 H2 c2 h2 q2 =>
    hg B H2 x y _ _ _ _ Q ((hd.chg c1).chg c2).dom0 ((h1.chg (hd.chg c1) c2).rsv ((hd.chg c1).chg c2)) (h2.rsv ((hd.chg c1).chg c2)) q2 fun v d' H3 s3 h3 q3 => hQ v d' S2 w2 H3 ((c1.trans c2).same s3) (h3.pure q3.1) q3.2) (hE.chg c1)) hE
theorem me_cmp {op : CmpOp} {r : R2} {g : D → D → WD D} (ho : OpR X (compareOp op) r) (hg : OpD (OX X) X r g) (ha : ME X E a fa) (hb : ME X E b fb) (hm : behindInMarks op b = false) : ME X E (.Compare a [op] [b] pos) (mOp g fa fb) := by
  obtain ⟨ta, a1, a2⟩ := ha
  obtain ⟨tb, b1, b2⟩ := hb
  exact ⟨_, pe_cmpR ho a1 b1 hm, opM hg a2 b2⟩
def isBS (Q : Bool → Sto → Prop) : D → Sto → Prop := fun d S => isB (fun b => Q b S) d
def mB1 (f : Rho → Sto → WS D) : Rho → Sto → WS Bool := fun ρ S Q Ed => f ρ S (isBS Q) Ed
theorem mt_cmp {op : CmpOp} {r : R2} {g : D → D → WD D} (ho : OpR X (compareOp op) r) (hg : OpD (OX X) X r g) (ha : ME X E a fa) (hb : ME X E b fb) (hm : behindInMarks op b = false) : MT X E (.Compare a [op] [b] pos) (mB1 (mOp g fa fb)) := by
  obtain ⟨ta, a1, a2⟩ := ha
  obtain ⟨tb, b1, b2⟩ := hb
  refine ⟨_, pt_cmpR ho a1 b1 hm, fun B ρ σ S w H Qd Ed Q hd hr hf hQ hE => opM hg a2 b2 B ρ σ S w H _ _ _ hd hr hf (fun v d S' w' H' c h q => ?_) hE⟩
  obtain ⟨b, e, q⟩ := bool_of h q
  exact ⟨b, e, hQ b S' w' H' c q⟩
theorem mt_val (ha : ME X E a fa) (he : ∀ whole, isTrue a X.env whole = (do let v ← whole; standAt a.pos; holding [v] (truthy v)) := by intro _; rfl) : MT X E a (mB1 fa) := by
  obtain ⟨ta, a1, a2⟩ := ha
  refine ⟨_, pt_val a1 he, fun B ρ σ S w H Qd Ed Q hd hr hf hQ hE => a2 B ρ σ S w H _ _ _ hd hr hf (fun v d S' w' H' c h q => ?_) hE⟩
  obtain ⟨b, e, q⟩ := bool_of h q
  exact ⟨b, e, hQ b S' w' H' c q⟩
variable {ga gb : Rho → Sto → WS Bool} {rest : List Expr}
def mAndT (f g : Rho → Sto → WS Bool) : Rho → Sto → WS Bool := fun ρ S Q Ed => f ρ S (fun b S1 => if b = true then g ρ S1 Q Ed else Q false S1) Ed
def mOrT (f g : Rho → Sto → WS Bool) : Rho → Sto → WS Bool := fun ρ S Q Ed => f ρ S (fun b S1 => if b = true then Q true S1 else g ρ S1 Q Ed) Ed
def mNotT (f : Rho → Sto → WS Bool) : Rho → Sto → WS Bool := fun ρ S Q Ed => f ρ S (fun b S1 => Q (!b) S1) Ed
theorem mw_or1 (h : MT X E a ga) : MW X E (.BoolOp .Or [a] pos) ga := let ⟨t, h1, h2⟩ := h; ⟨t, pw_or1 h1, h2⟩
theorem mw_or (h : MT X E a ga) (k : MW X E (.BoolOp .Or (b :: rest) pos) gb) : MW X E (.BoolOp .Or (a :: b :: rest) pos) (mOrT ga gb) := by
  obtain ⟨t, h1, h2⟩ := h
  obtain ⟨u, k1, k2⟩ := k
  refine ⟨_, pw_or h1 k1, fun B ρ σ S w H Qd Ed Q hd hr hf hQ hE => h2 B ρ σ S w H _ _ _ hd hr hf (fun b S1 w1 H1 c1 q1 => ?_) hE⟩
  cases b with
  | false => exact k2 B ρ σ S1 w1 H1 _ _ Q (hd.chg c1) (hr.chg hd c1) q1 (fun b S2 w2 H2 c2 q2 => hQ b S2 w2 H2 (c1.trans c2) q2) (hE.chg c1)
  | true => exact hQ true S1 w1 H1 c1 q1
theorem MW.mt (h : MW X E a ga) : MT X E a ga := let ⟨t, h1, h2⟩ := h; ⟨t, h1.pt, h2⟩
theorem mt_not (h : MT X E a ga) : MT X E (.UnaryOp .Not a pos) (mNotT ga) := by
  obtain ⟨t, h1, h2⟩ := h
  exact ⟨_, pt_not h1, fun B ρ σ S w H Qd Ed Q hd hr hf hQ hE => h2 B ρ σ S w H _ _ _ hd hr hf (fun b S1 w1 H1 c1 q1 => hQ _ S1 w1 H1 c1 q1) hE⟩
def mAnd (f g : Rho → Sto → WS D) : Rho → Sto → WS D := fun ρ S Q Ed => f ρ S (fun d S1 => isB (fun b => if b = true then g ρ S1 Q Ed else Q (.bool false) S1) d) Ed
theorem me_one {op} (h : ME X E a fa) : ME X E (.BoolOp op [a] pos) fa := let ⟨t, h1, h2⟩ := h; ⟨t, pe_one h1, h2⟩
theorem me_and (ha : ME X E a fa) (hb : ME X E (.BoolOp .And (b :: rest) pos) fb) : ME X E (.BoolOp .And (a :: b :: rest) pos) (mAnd fa fb) := by
  obtain ⟨ta, a1, a2⟩ := ha
  obtain ⟨tb, b1, b2⟩ := hb
  refine ⟨_, pe_and a1 b1, fun B ρ σ S w H Qd Ed Q hd hr hf hQ hE => a2 B ρ σ S w H _ _ _ hd hr hf (fun v d S1 w1 H1 c1 h q => ?_) hE⟩
  obtain ⟨b, rfl, q⟩ := bool_of h q
  refine ⟨b, rfl, ?_⟩
  cases b with
  | true => exact b2 B ρ σ S1 w1 H1 _ _ Q (hd.chg c1) (hr.chg hd c1) q (fun v d S2 w2 H2 c2 h2 q2 => hQ v d S2 w2 H2 (c1.trans c2) h2 q2) (hE.chg c1)
  | false => exact hQ _ _ S1 w1 H1 c1 (.bl false) q
def MA (X : Cx) (E : XK) (es : List Expr) (f : Rho → Sto → WS (List D)) : Prop := ∃ t, PA X es t ∧ ∀ (B : Addr → Prop) (ρ : Rho) (σ : L2.St) (S : Sto) (w : Owr) (H : Hp) (Qd : List D → Sto → Prop) (Ed : Str → Sto → Prop) (Q : List V → Hp → Prop),
  DomS X.mg X.K B S w H → Rs (OX X) X.K (PB B S w) ρ σ H → f ρ S Qd Ed → (∀ vs ds S' w' H', Chg X.mg X.K S w H S' w' H' → DvAll (OX X) X.K H' (PB B S' w') vs ds → ds.length = es.length → Qd ds S' → Q vs H') → XOkS X E S w H Ed → t σ H Q
def mNil : Rho → Sto → WS (List D) := fun _ S Q _ => Q [] S
def mCons (f : Rho → Sto → WS D) (g : Rho → Sto → WS (List D)) : Rho → Sto → WS (List D) := fun ρ S Q Ed => f ρ S (fun d S1 => g ρ S1 (fun ds S2 => Q (d :: ds) S2) Ed) Ed
theorem ma_nil : MA X E [] mNil := ⟨_, pa_nil, fun B ρ σ S w H Qd Ed Q hd hr hf hQ hE => hQ [] [] S w H (.refl hd.st) .nil rfl hf⟩
theorem ma_cons {es : List Expr} {g : Rho → Sto → WS (List D)} (ha : ME X E e fa) (hr : MA X E es g) (hs : starEach (e :: es) X.env = (false, eval e X.env) :: starEach es X.env := by rfl) : MA X E (e :: es) (mCons fa g) := by
  obtain ⟨ta, a1, a2⟩ := ha
  obtain ⟨tb, b1, b2⟩ := hr
  refine ⟨_, pa_cons a1 b1 hs, fun B ρ σ S w H Qd Ed Q hd hr hf hQ hE => a2 B ρ σ S w H _ _ _ hd hr hf (fun v d S1 w1 H1 c1 h q => ?_) hE⟩
  exact b2 B ρ σ S1 w1 H1 _ _ _ (hd.chg c1) (hr.chg hd c1) q (fun vs ds S2 w2 H2 c2 h2 l2 q2 => hQ _ _ S2 w2 H2 (c1.trans c2) (.cons (h.chg (hd.chg c1) c2) h2) (congrArg (· + 1) l2) q2) (hE.chg c1)
end
end DL
namespace DL
open PySem PySem.Spec PyProof.Rows L2
structure KSS where
  nx : Env → Sto → Prop
  rt : D → Sto → Prop
  bk : Env → Sto → Prop := fun _ _ => False
  ct : Env → Sto → Prop := fun _ _ => False
  ex : Str → Sto → Prop := fun _ _ => False
abbrev FSS := Env → Sto → KSS → Prop
structure RgS [Nm] (O : Ob) (mg : Str → Option Value) (K : PySem.W.Frag) (S0 : Sto) (w0 : Owr) (H0 : Hp) (P0 : Addr → Prop) (Γ : Env) (σ : L2.St) (S : Sto) (w : Owr) (H : Hp) (own : Nat → Option Addr) : Prop where
  chg : Chg mg K S0 w0 H0 S w H
  inj : ∀ i j a, own i = some a → own j = some a → i = j
  fresh : ∀ i a, own i = some a → Nn H0 a ∧ ¬ Pst S w a ∧ ∃ o, H a = some o ∧ Mb o
  rs : Rs O K (PB (Pw P0 own) S w) (clean Γ) σ H
  ow : ∀ (i : Nat) c, Γ[i]? = some (some (.own c)) → ∃ p, own i = some p ∧ σ[i]? = some (some (.ref p)) ∧ OwnOk O K H (PB (Pw P0 own) S w) p c
section
variable [Nm] {O : Ob} {mg : Str → Option Value} {K : PySem.W.Frag} {S0 S S' : Sto} {w0 w w' : Owr} {H0 H H' : Hp} {P0 : Addr → Prop} {Γ Γ' : Env} {σ σ' : L2.St} {own own' : Nat → Option Addr}
theorem RgS.nP (r : RgS O mg K S0 w0 H0 P0 Γ σ S w H own) (hd : DomS mg K P0 S0 w0 H0) {a : Addr} (p : P0 a) : ¬ ∃ i, own i = some a := fun ⟨i, e⟩ => by
  obtain ⟨o, e1, m⟩ := hd.has a p
  exact no_mb m ((r.fresh i a e).1 _ e1)
theorem RgS.dom1 (r : RgS O mg K S0 w0 H0 P0 Γ σ S w H own) (hd : DomS mg K P0 S0 w0 H0) : DomS mg K P0 S w H := hd.chg r.chg
theorem RgS.domS (r : RgS O mg K S0 w0 H0 P0 Γ σ S w H own) (hd : DomS mg K P0 S0 w0 H0) : DomS mg K (Pw P0 own) S w H := by
  have h1 := r.dom1 hd
  refine ⟨h1.st, fun a z => ?_, h1.tab, fun a z => ?_⟩
  · rcases z with z | ⟨i, z⟩
    · exact h1.has a z
    · exact (r.fresh i a z).2.2
  · rcases z with z | ⟨i, z⟩
    · exact h1.dis a z
    · exact (r.fresh i a z).2.1
theorem RgS.full (r : RgS O mg K S0 w0 H0 P0 Γ σ S w H own) (hd : DomS mg K P0 S0 w0 H0) : Rs O K (PB P0 S w) (full Γ) σ H := by
  have sub : ∀ a, PB P0 S w a → PB (Pw P0 own) S w a := fun a z => z.imp .inl id
  refine ⟨by rw [r.rs.len]; simp [clean, DL.full], fun i d e => ?_⟩
  unfold DL.full at e
  rw [List.getElem?_map] at e
  cases q : Γ[i]? with
  | none =>
    rw [q] at e
    cases e
  | some o =>
    rw [q] at e
    cases o with
    | none => cases e
    | some t =>
      cases t with
      | val d' =>
        have e' : d' = d := by
          injection e with e
          injection e
        subst e'
        obtain ⟨v, e1, h1⟩ := r.rs.get i d' (by unfold clean; rw [List.getElem?_map, q]; rfl)
        exact ⟨v, e1, h1.less sub⟩
      | own c =>
        cases e
        obtain ⟨p, e1, e2, e3⟩ := r.ow i c q
        refine ⟨.ref p, e2, (e3.less sub).dv fun z => ?_⟩
        rcases z with z | z
        · exact r.nP hd z ⟨i, e1⟩
        · exact (r.fresh i p e1).2.1 z
theorem RgS.eff (r : RgS O mg K S0 w0 H0 P0 Γ σ S w H own) (hd : DomS mg K P0 S0 w0 H0) (c : Chg mg K S w H S' w' H') : RgS O mg K S0 w0 H0 P0 Γ σ S' w' H' own := by
  have kp : ∀ i a, own i = some a → ∀ o, H a = some o → Mb o → H' a = some o := fun i a e o eo m => c.kf.all a o eo (r.fresh i a e).2.1 (no_mb m)
  refine ⟨r.chg.trans c, r.inj, fun i a e => ?_, r.rs.chg (r.domS hd) c, fun i x e => ?_⟩
  · obtain ⟨f1, f2, o, f3, m⟩ := r.fresh i a e
    refine ⟨f1, fun p => ?_, o, kp i a e o f3 m, m⟩
    rcases c.new a p with q | q
    · exact f2 q
    · exact no_mb m (q o f3)
  · obtain ⟨p, e1, e2, e3⟩ := r.ow i x e
    exact ⟨p, e1, e2, e3.to (fun h => h.chg (r.domS hd) c) (kp i p e1)⟩
theorem RgS.step (r : RgS O mg K S0 w0 H0 P0 Γ σ S w H own) (hd : DomS mg K P0 S0 w0 H0) (s : Same H H') : RgS O mg K S0 w0 H0 P0 Γ σ S w H' own := r.eff hd (.of r.chg.st s)
theorem RgS.set (h : RgS O mg K S0 w0 H0 P0 Γ σ S w H own) {i : Nat} {v : V} {d : D} (hv : Dv O K H (PB (Pw P0 own) S w) v d) : RgS O mg K S0 w0 H0 P0 (Γ.set i (some (.val d))) (σ.set i (some v)) S w H own := by
  refine ⟨h.chg, h.inj, h.fresh, by rw [clean_set]; exact h.rs.set hv, fun j xs e => ?_⟩
  by_cases hj : i = j
  · subst hj
    have hl : i < Γ.length := by
      have := (List.getElem?_eq_some_iff.mp e).1
      rw [List.length_set] at this
      exact this
    rw [List.getElem?_set_self hl] at e
    cases e
  · rw [List.getElem?_set_ne hj] at e
    obtain ⟨p, e1, e2, e3⟩ := h.ow j xs e
    exact ⟨p, e1, by rw [List.getElem?_set_ne hj]; exact e2, e3⟩
theorem RgS.many : ∀ {a : List (Nat × V)} {b : List (Nat × D)} {Γ : Env} {σ : L2.St}, Bnd O K H (PB (Pw P0 own) S w) a b → RgS O mg K S0 w0 H0 P0 Γ σ S w H own → RgS O mg K S0 w0 H0 P0 (setV Γ b) (setAll σ a) S w H own
  | _, _, _, _, .nil, h => h
  | (i, v) :: a, (_, d) :: b, Γ, σ, .cons hv r, h => by
    have := RgS.many (Γ := Γ.set i (some (.val d))) (σ := σ.set i (some v)) r (h.set hv)
    exact this
theorem froz_keeps {a : Addr} {o : HO} (mb : ∀ i a, own i = some a → ∃ o, H a = some o ∧ Mb o) (e : H a = some o) (nu : ¬ Mb o) : froz own H a = some o := froz_of e fun ⟨i, z⟩ => by
  obtain ⟨u, e2, m⟩ := mb i a z
  rw [e] at e2
  cases e2
  exact nu m
theorem froz_mem (mb : ∀ i a, own i = some a → ∃ o, H a = some o ∧ Mb o) : MemK H (froz own H) := .of (fun a p es i e => froz_keeps mb e fun z => no_mb z sf_memo) fun a o u e => froz_keeps mb e not_mb_frz
theorem froz_tab (mb : ∀ i a, own i = some a → ∃ o, H a = some o ∧ Mb o) (t : TabOk H) : TabOk (froz own H) := fun a e => by
  obtain ⟨ps, h1, h2, h3⟩ := t a e
  refine ⟨ps, froz_keeps mb h1 fun z => no_mb z (.inl ⟨_, rfl⟩), h2, fun pos cv hc => ?_⟩
  obtain ⟨c, e1, e2⟩ := h3 pos cv hc
  exact ⟨c, e1, froz_keeps mb e2 not_mb_code⟩
theorem RgS.mb (r : RgS O mg K S0 w0 H0 P0 Γ σ S w H own) : ∀ i a, own i = some a → ∃ o, H a = some o ∧ Mb o := fun i a e => (r.fresh i a e).2.2
theorem pw_pb {a : Addr} : Pw (PB P0 S w) own a ↔ PB (Pw P0 own) S w a := ⟨fun z => by
  rcases z with (z | z) | z
  · exact .inl (.inl z)
  · exact .inr z
  · exact .inl (.inr z), fun z => by
  rcases z with (z | z) | z
  · exact .inl (.inl z)
  · exact .inr z
  · exact .inl (.inr z)⟩
theorem Rs.less {ρ : Rho} {P P' : Addr → Prop} (h : Rs O K P ρ σ H) (q : ∀ a, P' a → P a) : Rs O K P' ρ σ H := ⟨h.len, fun i d e =>
  let ⟨v, e1, h1⟩ := h.get i d e
  ⟨v, e1, h1.less q⟩⟩
theorem RgS.toRg (r : RgS O mg K S0 w0 H0 P0 Γ σ S w H own) : Rg O K (froz own H) (PB P0 S w) Γ σ H own :=
  ⟨.of fun a o e => (of_froz e).1, r.inj, fun i a e => ⟨fun o q => absurd ⟨i, e⟩ (of_froz q).2, r.mb i a e⟩, r.rs.less fun a z => pw_pb.mp z, fun i c e =>
    let ⟨p, e1, e2, e3⟩ := r.ow i c e
    ⟨p, e1, e2, e3.less fun a z => pw_pb.mp z⟩⟩
theorem RgS.domF (r : RgS O mg K S0 w0 H0 P0 Γ σ S w H own) (hd : DomS mg K P0 S0 w0 H0) : Dom (froz own H) (PB P0 S w) := by
  have h1 := r.dom1 hd
  refine ⟨fun a z => ?_, froz_tab r.mb h1.tab⟩
  rcases z with z | z
  · obtain ⟨o, e, m⟩ := h1.has a z
    exact ⟨o, froz_of e (r.nP hd z), m⟩
  · obtain ⟨o, e, m⟩ := h1.st.mb z
    exact ⟨o, froz_of e fun ⟨i, q⟩ => (r.fresh i a q).2.1 z, m⟩
theorem RgS.chgF (r : RgS O mg K S0 w0 H0 P0 Γ σ S w H own) (s : Same (froz own H) H') : Chg mg K S0 w0 H0 S w H' := by
  refine ⟨⟨fun a o e n z => ?_, (r.chg.kf.mem.trans (froz_mem r.mb)).trans s.mem⟩, fun t => s.tab (froz_tab r.mb (r.chg.tab t)), r.chg.old, r.chg.new, r.chg.st.keep (fun a o e p => ?_) fun a o u e => s.all a _ (froz_keeps r.mb e not_mb_frz) no_frz⟩
  · exact s.all a o (froz_of (r.chg.kf.all a o e n z) fun ⟨i, q⟩ => z ((r.fresh i a q).1 o e)) z
  · obtain ⟨u, e1, m⟩ := r.chg.st.mb p
    rw [e] at e1
    cases e1
    exact s.all a o (froz_of e fun ⟨i, q⟩ => (r.fresh i a q).2.1 p) (no_mb m)
theorem RgS.froz0 (r : RgS O mg K S0 w0 H0 P0 Γ σ S w H own) : Chg mg K S0 w0 H0 S w (froz own H) := r.chgF (.refl _)
theorem RgS.deep (r : RgS O mg K S0 w0 H0 P0 Γ σ S w H own) : RgS O mg K S w (froz own H) P0 Γ σ S w H own :=
  ⟨.of r.froz0.st (.of fun a o e => (of_froz e).1), r.inj, fun i a e => ⟨fun o q => absurd ⟨i, e⟩ (of_froz q).2, (r.fresh i a e).2⟩, r.rs, r.ow⟩
theorem RgS.back {S1 : Sto} {w1 : Owr} {H1 : Hp} (c : Chg mg K S0 w0 H0 S1 w1 H1) (r : RgS O mg K S1 w1 H1 P0 Γ σ S w H own) : RgS O mg K S0 w0 H0 P0 Γ σ S w H own :=
  ⟨c.trans r.chg, r.inj, fun i a e =>
    let ⟨f1, f2, f3⟩ := r.fresh i a e
    ⟨c.nn f1 fun p => f2 (r.chg.old a (c.old a p)), f2, f3⟩, r.rs, r.ow⟩
theorem RgS.ofRg (r : RgS O mg K S0 w0 H0 P0 Γ σ S w H own) (r' : Rg O K (froz own H) (PB P0 S w) Γ' σ' H' own') : RgS O mg K S0 w0 H0 P0 Γ' σ' S w H' own' := by
  refine ⟨r.chgF r'.same, r'.inj, fun i a e => ?_, r'.rs.less fun a z => pw_pb.mpr z, fun i c e => ?_⟩
  · obtain ⟨f1, f2⟩ := r'.fresh i a e
    rcases froz_none f1 with ⟨j, q⟩ | q
    · exact ⟨(r.fresh j a q).1, (r.fresh j a q).2.1, f2⟩
    · have np : ¬ Pst S w a := fun p => by
        obtain ⟨o, e1, m⟩ := r.chg.st.mb p
        exact no_mb m (q o e1)
      exact ⟨r.chg.nn q fun p => np (r.chg.old a p), np, f2⟩
  · obtain ⟨p, e1, e2, e3⟩ := r'.ow i c e
    exact ⟨p, e1, e2, e3.less fun a z => pw_pb.mpr z⟩
end
section
variable [Nm]
structure LkS (X : Cx) (E : XK) (S0 : Sto) (w0 : Owr) (H0 : Hp) (P0 : Addr → Prop) (k : KSS) (D : Ends) : Prop where
  nx : ∀ Γ σ S w H own, RgS (OX X) X.mg X.K S0 w0 H0 P0 Γ σ S w H own → k.nx Γ S → D.nx σ H
  rt : ∀ v d S w H, Chg X.mg X.K S0 w0 H0 S w H → Dv (OX X) X.K H (PB P0 S w) v d → k.rt d S → D.rt v H
  bk : ∀ Γ σ S w H own, RgS (OX X) X.mg X.K S0 w0 H0 P0 Γ σ S w H own → k.bk Γ S → D.bk σ H
  ct : ∀ Γ σ S w H own, RgS (OX X) X.mg X.K S0 w0 H0 P0 Γ σ S w H own → k.ct Γ S → D.ct σ H
  ex : XOkS X E S0 w0 H0 k.ex
def MS (X : Cx) (E : XK) (st : Stmt) (F : FSS) : Prop := ∃ t, PS X st t ∧ ∀ S0 w0 H0 P0 Γ σ S w H own k D, DomS X.mg X.K P0 S0 w0 H0 → RgS (OX X) X.mg X.K S0 w0 H0 P0 Γ σ S w H own → F Γ S k → LkS X E S0 w0 H0 P0 k D → t D σ H
def MSs (X : Cx) (E : XK) (st : List Stmt) (F : FSS) : Prop := ∃ t, PSs X st t ∧ ∀ S0 w0 H0 P0 Γ σ S w H own k D, DomS X.mg X.K P0 S0 w0 H0 → RgS (OX X) X.mg X.K S0 w0 H0 P0 Γ σ S w H own → F Γ S k → LkS X E S0 w0 H0 P0 k D → t D σ H
variable {X : Cx} {E : XK} {pos : Pos} {e : Expr} {st : Stmt} {rest : List Stmt} {F G : FSS}
def kAt (k : KSS) (S : Sto) : KS := { nx := fun Γ => k.nx Γ S, rt := fun d => k.rt d S, bk := fun Γ => k.bk Γ S, ct := fun Γ => k.ct Γ S, ex := fun c => k.ex c S }
/-- a statement that looks at no object -/
def sC (F : FS) : FSS := fun Γ S k => F Γ (kAt k S)
theorem ms_cl {F : FS} (h : DS (OX X) X E st F) : MS X E st (sC F) := by
  obtain ⟨t, h1, h2⟩ := h
  exact ⟨t, h1, fun S0 w0 H0 P0 Γ σ S w H own k D hd r hf l => h2 _ _ Γ σ H own (kAt k S) D (r.domF hd) r.toRg hf
    ⟨fun Γ' σ' H' own' r' q => l.nx _ _ S w H' own' (r.ofRg r') q, fun v d H' s h q => l.rt v d S w H' (r.chgF s) h q, fun Γ' σ' H' own' r' q => l.bk _ _ S w H' own' (r.ofRg r') q, fun Γ' σ' H' own' r' q => l.ct _ _ S w H' own' (r.ofRg r') q, fun c a H' s m z => l.ex c a S w H' (r.chgF s) m z⟩⟩
def mNext : FSS := fun Γ S k => k.nx Γ S
def mSeq (F G : FSS) : FSS := fun Γ S k => F Γ S { k with nx := fun Γ' S' => G Γ' S' k }
theorem mss_nil : MSs X E [] mNext := ⟨_, pss_nil, fun S0 w0 H0 P0 Γ σ S w H own k D hd r hf l => l.nx _ _ _ _ _ _ r hf⟩
theorem mss_one (h : MS X E st F) : MSs X E [st] F := let ⟨t, h1, h2⟩ := h; ⟨t, pss_one h1, h2⟩
theorem mss_cons (h : MS X E st F) (k : MSs X E rest G) : MSs X E (st :: rest) (mSeq F G) := by
  obtain ⟨t, h1, h2⟩ := h
  obtain ⟨u, k1, k2⟩ := k
  exact ⟨_, pss_cons h1 k1, fun S0 w0 H0 P0 Γ σ S w H own k D hd r hf l => h2 S0 w0 H0 P0 Γ σ S w H own _ _ hd r hf ⟨fun Γ' σ' S' w' H' own' r' q => k2 S0 w0 H0 P0 Γ' σ' S' w' H' own' k D hd r' q l, l.rt, l.bk, l.ct, l.ex⟩⟩
/-- return e -/
def mRet (f : Rho → Sto → WS D) : FSS := fun Γ S k => f (full Γ) S k.rt k.ex
theorem ms_ret {f : Rho → Sto → WS D} (h : ME X E e f) : MS X E (.Return (some e) pos) (mRet f) := by
  obtain ⟨t, h1, h2⟩ := h
  exact ⟨_, ps_ret h1, fun S0 w0 H0 P0 Γ σ S w H own k D hd r hf l => h2 P0 _ σ S w H _ _ _ (r.dom1 hd) (r.full hd) hf (fun v d S' w' H' c h q => l.rt v d S' w' H' (r.chg.trans c) h q) (l.ex.chg r.chg)⟩
/-- e -/
def mDrop (f : Rho → Sto → WS D) : FSS := fun Γ S k => f (full Γ) S (fun _ S' => k.nx Γ S') k.ex
theorem ms_expr {f : Rho → Sto → WS D} (h : ME X E e f) (hs : swapsWith e none pos.line X.env = pure false := by rfl) : MS X E (.Expr e pos) (mDrop f) := by
  obtain ⟨t, h1, h2⟩ := h
  exact ⟨_, ps_expr h1 hs, fun S0 w0 H0 P0 Γ σ S w H own k D hd r hf l => h2 P0 _ σ S w H _ _ _ (r.dom1 hd) (r.full hd) hf (fun v d S' w' H' c h q => l.nx _ _ _ _ _ _ (r.eff hd c) q) (l.ex.chg r.chg)⟩
/-- if -/
def mIf (c : Rho → Sto → WS Bool) (F G : FSS) : FSS := fun Γ S k => c (full Γ) S (fun b S' => if b = true then F Γ S' k else G Γ S' k) k.ex
theorem ms_if {c : Expr} {fc : Rho → Sto → WS Bool} {sa sb : List Stmt} (h : MT X E c fc) (ha : MSs X E sa F) (hb : MSs X E sb G) : MS X E (.If c sa sb pos) (mIf fc F G) := by
  obtain ⟨t, h1, h2⟩ := h
  obtain ⟨ta, a1, a2⟩ := ha
  obtain ⟨tb, b1, b2⟩ := hb
  refine ⟨_, ps_if h1 a1 b1, fun S0 w0 H0 P0 Γ σ S w H own k D hd r hf l => h2 P0 _ σ S w H _ _ _ (r.dom1 hd) (r.full hd) hf (fun b S' w' H' c q => ?_) (l.ex.chg r.chg)⟩
  cases b with
  | true => exact a2 S0 w0 H0 P0 Γ σ S' w' H' own k D hd (r.eff hd c) q l
  | false => exact b2 S0 w0 H0 P0 Γ σ S' w' H' own k D hd (r.eff hd c) q l
/-- x = e: plain all through, or an object -/
def pureI : D → Prop
  | .dict [(.none, .list [.int _])] => True
  | d => pureD d = true
theorem Dv.pureI {P : Program} {wd : World} {mg : Str → Option Value} {K : PySem.W.Frag} {H : Hp} {Pr Pr' : Addr → Prop} {v : V} {d : D} (h : Dv (obT P wd mg) K H Pr v d) (q : pureI d) : Dv (obT P wd mg) K H Pr' v d := by
  unfold DL.pureI at q
  split at q
  · rename_i i
    obtain ⟨a, rfl, rfl⟩ : idIs v i := of_ob1 h rfl
    exact dv_id
  · exact h.pure q
def mSet (i : Nat) (f : Rho → Sto → WS D) : FSS := fun Γ S k => f (full Γ) S (fun d S' => pureI d ∧ k.nx (Γ.set i (some (.val d))) S') k.ex
/-- a target of several names -/
def mTgt (T : Tg) (f : Rho → Sto → WS D) : FSS := fun Γ S k => f (full Γ) S (fun d S' => pureD d = true ∧ orStuck (bindT T d) fun l => k.nx (setV Γ l) S') k.ex
def mForL (T : Tg) (F : FSS) (k : KSS) : List D → Env → Sto → Prop
  | [], Γ, S => k.nx Γ S
  | x :: xs, Γ, S => orStuck (bindT T x) fun l => F (setV Γ l) S { k with nx := mForL T F k xs, ct := mForL T F k xs, bk := k.nx }
def mFor (fi : Rho → WD (List D)) (T : Tg) (F : FSS) : FSS := fun Γ S k => fi (clean Γ) (fun xs => mForL T F k xs Γ S) (fun c => k.ex c S)
theorem ms_for {tg iter : Expr} {body : List Stmt} {fi : Rho → WD (List D)} {T : Tg} (hp : PassesOwn (model X.prog X.w) X.A X.env X.xe) (hc : X.calm = true) (hi : DI (OX X) X E tg iter fi) (hg : DG (OX X) X tg T) (hb : MSs X E body F)
    (hs : ∀ x, foldedSetIterable iter X.env x = pure x := by intro _; rfl) : MS X E (.For tg iter body [] pos) (mFor fi T F) := by
  obtain ⟨wi, i1, i2⟩ := hi
  obtain ⟨g, g1, g2⟩ := hg
  obtain ⟨tb, b1, b2⟩ := hb
  refine ⟨_, ps_for hp hc i1 g1 b1 hs, fun S0 w0 H0 P0 Γ σ S w H own k D hd r hf l => ?_⟩
  have dS := r.domS hd
  refine i2 (PB (Pw P0 own) S w) _ σ H _ _ _ dS.dom r.rs hf (fun J xs H1 s1 dv q => ?_) (fun c a H' s m z => l.ex c a S w H' (r.chg.same s) m z)
  have r1 := r.step hd s1
  have c01 := r1.froz0
  have hd1 := hd.chg c01
  refine ⟨fun i m σ2 H2 => m = xs.length - i ∧ i ≤ xs.length ∧ ∃ Γ2 S2 w2 own2, RgS (OX X) X.mg X.K S w (froz own H1) P0 Γ2 σ2 S2 w2 H2 own2 ∧ mForL T F k (xs.drop i) Γ2 S2,
    ⟨xs.length, by simp, Nat.zero_le _, Γ, S, w, own, r1.deep, q⟩, ?_⟩
  rintro i m σ2 H2 ⟨rfl, hi, Γ2, S2, w2, own2, r2, lp⟩
  have pp : ∀ a, PB (Pw P0 own) S w a → PB (Pw P0 own) S w a ∨ PB (Pw P0 own2) S2 w2 a := fun a z => .inl z
  have hp : ∀ a, (PB (Pw P0 own) S w a ∨ PB (Pw P0 own2) S2 w2 a) → PB (Pw P0 own) S w a ∨ Nn H1 a := fun a z => by
    rcases z with z | (z | ⟨j, z⟩) | z
    · exact .inl z
    · exact .inl (.inl (.inl z))
    · rcases froz_none (r2.fresh j a z).1 with u | u
      · exact .inl (.inl (.inr u))
      · exact .inr u
    · rcases r2.chg.new a z with u | u
      · exact .inl (.inr u)
      · rcases froz_none u with u | u
        · exact .inl (.inl (.inr u))
        · exact .inr u
  have kf : Kf (fun a => PB (Pw P0 own) S w a ∨ PB (Pw P0 own2) S2 w2 a) H1 H2 := ⟨fun a o e n s => r2.chg.kf.all a o (froz_of e fun z => n (.inl (.inl (.inr z)))) (fun z => n (.inl (.inr z))) s, (froz_mem r1.mb).trans r2.chg.kf.mem⟩
  have dr := dv _ H2 pp hp kf
  by_cases hlt : i < xs.length
  · refine .inr ⟨dr.go i hlt, fun σ' H' => ∃ Γ' S' w' own', RgS (OX X) X.mg X.K S w (froz own H1) P0 Γ' σ' S' w' H' own' ∧ mForL T F k (xs.drop (i + 1)) Γ' S', fun σ' H' h => ⟨xs.length - (i + 1), by omega, rfl, hlt, h⟩, fun x H3 y => ?_⟩
    obtain ⟨d, ed⟩ := get_lt hlt
    obtain ⟨s3, hx⟩ := dr.yld i x H3 d y ed
    obtain ⟨hi', ed'⟩ := List.getElem?_eq_some_iff.mp ed
    rw [List.drop_eq_getElem_cons hi', ed'] at lp
    obtain ⟨lb, eb, q2⟩ := of_orStuck lp
    refine g2 (PB (Pw P0 own2) S2 w2) σ2 H3 x d lb _ (hx.less fun a z => .inr z) eb fun a ha => b2 S w _ P0 _ _ S2 w2 H3 own2 _ _ hd1 (RgS.many ha (r2.step hd1 s3)) q2 ?_
    exact ⟨fun Γ' σ' S' w' H' own' r' q' => ⟨Γ', S', w', own', r', q'⟩, fun v d S' w' H' c h q' => l.rt v d S' w' H' (c01.trans c) h q', fun Γ' σ' S' w' H' own' r' q' => l.nx _ _ _ _ _ _ (r'.back c01) q', fun Γ' σ' S' w' H' own' r' q' => ⟨Γ', S', w', own', r', q'⟩, l.ex.chg c01⟩
  · have e : i = xs.length := by omega
    subst e
    rw [List.drop_length] at lp
    exact .inl ⟨dr.stop _ (Nat.le_refl _), l.nx _ _ _ _ _ _ (r2.back c01) lp⟩
def fnS (n : Nat) (F : FSS) : List D → Sto → WS D := fun ds S Q E => F (startE n ds) S { nx := fun _ S' => Q .none S', rt := Q, ex := E }
theorem start_rgS {O : Ob} {mg : Str → Option Value} {K : PySem.W.Frag} {S : Sto} {w : Owr} {H : Hp} {B : Addr → Prop} {N : List Str} {vs : List V} {ds : List D} (st : StOk mg K S w H) (h : DvAll O K H (PB B S w) vs ds) : RgS O mg K S w H B (startE N.length ds) (start N vs) S w H (fun _ => none) := by
  have r := start_rg (N := N) h
  refine ⟨.refl st, fun _ _ _ e => (nomatch e), fun _ _ e => (nomatch e), r.rs.less fun a z => ?_, fun i c e => ?_⟩
  · rcases z with (z | ⟨_, z⟩) | z
    · exact .inl (.inl z)
    · cases z
    · exact .inl (.inr z)
  · obtain ⟨p, e1, _⟩ := r.ow i c e
    cases e1
def spS (X0 : Ob) (mg : Str → Option Value) (K : PySem.W.Frag) (F : List D → Sto → WS D) (n : Nat) : Sp := fun vs H Q E' => ∃ (B : Addr → Prop) (S : Sto) (w : Owr) (ds : List D) (Qd : D → Sto → Prop) (Ed : Str → Sto → Prop), DomS mg K B S w H ∧ DvAll X0 K H (PB B S w) vs ds ∧ ds.length = n ∧ F ds S Qd Ed ∧
  (∀ v d S' w' H', Chg mg K S w H S' w' H' → Dv X0 K H' (PB B S' w') v d → Qd d S' → Q v H') ∧ ∀ c a S' w' H', Chg mg K S w H S' w' H' → mg c = some (.ref a) → Ed c S' → E' (.ref a) none H'
/-- a call by name -/
def mCb (F : List D → Sto → WS D) (fa : Rho → Sto → WS (List D)) : Rho → Sto → WS D := fun ρ S Q Ed => fa ρ S (fun ds S' => F ds S' Q Ed) Ed
end
end DL
namespace DL
open PySem PySem.Spec PyProof.Rows L2
def dskNames : List Str := ["way", "tables", "past", "future", "ways", "sight", "left_along", "noted"]
/-- what is known of such a class -/
structure OcK (K : PySem.W.Frag) (C : Addr) : Prop where
  cl : Cls K C
  na : ∀ f ∈ dskNames, NoAttr K C f
  ca : PySem.W.findIn K (.ref C) "__class__" = some (some (.builtin "object.__class__"))
  cn : PySem.W.specialIn K (.builtin "object.__class__") "__get__" = some (some (.builtin "getset_descriptor.__get__"))
  ct : PySem.W.takesIn K (.builtin "object.__class__") = some true
  cm : PySem.W.mroIn K C (.type "object") = some true
  ne : PySem.W.findIn K (.ref C) "__ne__" = some (some (.builtin "object.__ne__"))
  is1 : PySem.W.kitOne K (.ref C) (.ref C) = some true
  is0 : PySem.W.kitOne K (.type "tuple") (.ref C) = some false
  nf1 : PySem.W.notFirst K C (.ref C) = true
  nf0 : PySem.W.notFirst K C (.type "tuple") = true
structure OcT (K : PySem.W.Frag) (mg : Str → Option Value) (c : Str) : Prop where
  ex : ∃ C, mg c = some (.ref C) ∧ OcK K C
def fldQ (Q : D → Prop) : Option Fld → Prop
  | some (.val d) => Q d
  | some (.lst xs) => Q (.list xs)
  | none => False
def objQ (Q : Addr → Str → Fls → Prop) (d : D) : Prop := ∃ a c fl, d = objD a c fl ∧ Q a c fl
theorem objQ_o (Q : Addr → Str → Fls → Prop) (a : Addr) (c : Str) (fl : Fls) : objQ Q (objD a c fl) = Q a c fl := propext ⟨fun ⟨a', c', fl', e, q⟩ => by
  injection e with e
  injection e with e _
  injection e with _ e
  injection e with e
  injection e with e1 e
  injection e with e2 e
  injection e with e3 _
  injection e1 with e1
  injection e2 with e2
  injection e3 with e3
  have e1 := Int.ofNat_inj.mp e1
  have e3 := fE_map_inj e3
  subst e1 e2 e3
  exact q, fun q => ⟨a, c, fl, rfl, q⟩⟩
theorem FlOk.look {K : PySem.W.Frag} {H : Hp} {Z : Str → Addr → Prop} {f : Str} {fl : Fls} {fs : List (Str × V)} (h : FlOk K H Z fl fs) : (∀ d, fl.lookup f = some (.val d) → ∃ v, fs.lookup f = some v ∧ Pv K H v d) ∧ ∀ xs, fl.lookup f = some (.lst xs) → ∃ p vs, fs.lookup f = some (.ref p) ∧ H p = some (.lst vs) ∧ Z f p ∧ PvAll K H vs xs := by
  induction h with
  | nil => exact ⟨fun _ e => (nomatch e), fun _ e => (nomatch e)⟩
  | @val g v d fl fs h r ih =>
    by_cases q : f = g
    · subst q
      simp only [List.lookup_cons, beq_self_eq_true]
      exact ⟨fun d' e => (by cases e; exact ⟨v, rfl, h⟩), fun xs e => (by cases e)⟩
    · have q' : (f == g) = false := beq_eq_false_iff_ne.mpr q
      simp only [List.lookup_cons, q']
      exact ih
  | @lst g p vs xs fl fs h z a r ih =>
    by_cases q : f = g
    · subst q
      simp only [List.lookup_cons, beq_self_eq_true]
      exact ⟨fun d' e => (by cases e), fun xs e => (by cases e; exact ⟨p, vs, rfl, h, z, a⟩)⟩
    · have q' : (f == g) = false := beq_eq_false_iff_ne.mpr q
      simp only [List.lookup_cons, q']
      exact ih
theorem dskF_none {fs : List (Str × V)} {m : Str} (h : dskF fs = true) (n : m ∉ dskNames) : fs.lookup m = none := by
  have key : ∀ (l : List Str), (∀ x ∈ l, x ∈ dskNames) → List.isPrefixOf (fs.map (·.1)) l = true → fs.lookup m = none := fun l hl hp => by
    rw [List.isPrefixOf_iff_prefix] at hp
    rw [List.lookup_eq_none_iff]
    intro x hx
    have : x.1 ∈ l := hp.subset (List.mem_map.mpr ⟨x, hx, rfl⟩)
    refine bne_iff_ne.mpr fun e => ?_
    exact n (e ▸ hl _ this)
  unfold dskF at h
  rcases Bool.or_eq_true_iff.mp h with h | h
  · exact key _ (by decide +kernel) h
  · exact key _ (by decide +kernel) h
section
variable [Nm] {X : Cx} {E : XK} {e : Expr} {fo : Rho → WD D} {pos : Pos}
def eFld (c f : Str) (fo : Rho → WD D) : Rho → WD D := fun ρ Q Ed => fo ρ (objQ fun _ c' fl => c' = c ∧ fldQ Q (fl.lookup f)) Ed
theorem de_fldO {c f : Str} (T : OcT X.K X.mg c) (h : DE (OX X) X E e fo) (hf : f ∈ dskNames := by decide +kernel) (hb : attributeBase e f X.env (eval e X.env) = eval e X.env := by rfl) : DE (OX X) X E (.Attribute e f pos) (eFld c f fo) := by
  obtain ⟨C, hC, k⟩ := T.ex
  obtain ⟨t, h1, h2⟩ := h
  refine ⟨_, pe_fld h1 hb, fun P ρ σ H Qd Ed Q hd hr hf' hQ hE => h2 P ρ σ H _ Ed _ hd hr hf' (fun v d H1 s1 hv q => ?_) hE⟩
  obtain ⟨a, c', fl, rfl, rfl, q⟩ := q
  obtain ⟨C', dx, fs, rfl, hC', g1, g2, g3, g4⟩ := of_obj hv
  rw [hC] at hC'
  cases hC'
  cases el : fl.lookup f with
  | none =>
    rw [el] at q
    exact q.elim
  | some x =>
    rw [el] at q
    cases x with
    | val d =>
      obtain ⟨v, e1, hv⟩ := (g4.look (f := f)).1 d el
      exact ⟨a, C, dx, fs, v, rfl, g1, k.cl, k.na f hf, e1, hQ _ _ H1 s1 hv.dv q⟩
    | lst xs =>
      obtain ⟨p, vs, e1, hp, np, hv⟩ := (g4.look (f := f)).2 xs el
      exact ⟨a, C, dx, fs, .ref p, rfl, g1, k.cl, k.na f hf, e1, hQ _ _ H1 s1 (.lst hp np hv.dv) q⟩
end
abbrev FnO (K : PySem.W.Frag) (mg : Str → Option Value) (c q x : Str) (st : Stmt) : Prop := ∃ (C f : Addr) (fd : FuncData), mg c = some (.ref C) ∧ Cls K C ∧ Meth K C x f ∧ FunD K x q (defArgs st) (defBody st) (defScope st) [] [] f fd
def BnO (q x : Str) (st : Stmt) (ps : List Str) : Prop := ∀ (kV doc pm : Value) (an : Option Addr) (cdv ct : Value) (us : List Value), us.length = ps.length → bindArgs (PySem.W.fnOf x q (defArgs st) (defBody st) (defScope st) .none kV doc pm an cdv ct) ⟨us, []⟩ = pure (ps.zip us)
structure CalO [Nm] (O : Ob) (P : Program) (w : World) (K : PySem.W.Frag) (mg : Str → Option Value) (base : Heap) (c x : Str) (k : Nat) (ps : List Str) (F : List D → WD D) : Prop where
  ex : ∃ (C f : Addr) (fd : FuncData), mg c = some (.ref C) ∧ Cls K C ∧ Meth K C x f ∧ Binds K fd ps [] ∧ FnOk P w K mg base (L2.CX P w) k f fd ps (spD O K mg F ps.length)
structure CalZ [Nm] (O : Ob) (P : Program) (w : World) (K : PySem.W.Frag) (mg : Str → Option Value) (base : Heap) (c x : Str) (k : Nat) (ps : List Str) (F : List D → Sto → WS D) : Prop where
  ex : ∃ (C f : Addr) (fd : FuncData), mg c = some (.ref C) ∧ Cls K C ∧ Meth K C x f ∧ Binds K fd ps [] ∧ FnOk P w K mg base (L2.CX P w) k f fd ps (spS O mg K F ps.length) ∧ ∃ oc od osl, K.lookup f = some ⟨oc, od, .func fd, osl⟩
section
variable [Nm] {P : Program} {w : World} {K : PySem.W.Frag} {mg : Str → Option Value} {base : Heap} {X : Cx} {E : XK}
theorem calO_of {c q x : Str} {st : Stmt} {N ps : List Str} {k : Nat} {F : FS} (h : FnO K mg c q x st) (S : FnScope N ps (defScope st)) (hb : BnO q x st ps)
    (hbody : ∀ (f : Addr) (cdv : Value) (A : Around) (outer : List PySem.Env) (s : Shared) (H : Hp) (E : XK), Room k (A.deeper (PyProof.Rows.envOfC q (defScope st) s.heap.objs.size f cdv)) → Air (cxOf (L2.CX P w) P w K mg base N q (defScope st) f cdv A outer s H E) E → DSs (obT P w mg) (cxOf (L2.CX P w) P w K mg base N q (defScope st) f cdv A outer s H E) E (defBody st) F) :
    CalO (obT P w mg) P w K mg base c x (k + 1) ps (fn0 N.length F) := by
  obtain ⟨C, f, fd, hm, hc, hM, hF⟩ := h
  refine ⟨C, f, fd, hm, hc, hM, hF.bindsN hb, ?_⟩
  refine hF.ok S (fun vs H Q E h => ?_) (fun cdv A outer s H vs Q E hr h => ?_)
  · obtain ⟨P, ds, Qd, Ed, _, h1, h2, _⟩ := h
    rw [h1.length, h2]
  · obtain ⟨P', ds, Qd, Ed, hd, h1, h2, hf, hQ, hE⟩ := h
    obtain ⟨t, t1, t2⟩ := hbody f cdv A outer s H E hr air_cx
    exact ⟨t, t1, t2 H P' _ _ H _ { nx := fun _ => Qd .none, rt := Qd, ex := Ed } _ hd (start_rg h1) hf ⟨fun Γ σ H' own r q => hQ _ _ H' r.same .non q, fun v d H' s h q => hQ v d H' s h q, fun _ _ _ _ _ q => q.elim, fun _ _ _ _ _ q => q.elim, hE⟩⟩
theorem calZ_of {c q x : Str} {st : Stmt} {N ps : List Str} {k : Nat} {F : FSS} (h : FnO K mg c q x st) (S : FnScope N ps (defScope st)) (hb : BnO q x st ps)
    (hbody : ∀ (f : Addr) (cdv : Value) (A : Around) (outer : List PySem.Env) (s : Shared) (H : Hp) (E : XK), Room k (A.deeper (PyProof.Rows.envOfC q (defScope st) s.heap.objs.size f cdv)) → Air (cxOf (L2.CX P w) P w K mg base N q (defScope st) f cdv A outer s H E) E → MSs (cxOf (L2.CX P w) P w K mg base N q (defScope st) f cdv A outer s H E) E (defBody st) F) :
    CalZ (obT P w mg) P w K mg base c x (k + 1) ps (fnS N.length F) := by
  obtain ⟨C, f, fd, hm, hc, hM, hF⟩ := h
  refine ⟨C, f, fd, hm, hc, hM, hF.bindsN hb, ?_, fun_lk hF⟩
  refine hF.ok S (fun vs H Q E h => ?_) (fun cdv A outer s H vs Q E hr h => ?_)
  · obtain ⟨B, S, w, ds, Qd, Ed, _, h1, h2, _⟩ := h
    rw [h1.length, h2]
  · obtain ⟨B, S, w, ds, Qd, Ed, hd, h1, h2, hf, hQ, hE⟩ := h
    obtain ⟨t, t1, t2⟩ := hbody f cdv A outer s H E hr air_cx
    exact ⟨t, t1, t2 S w H B _ _ S w H _ { nx := fun _ S' => Qd .none S', rt := Qd, ex := Ed } _ hd (start_rgS hd.st h1) hf ⟨fun Γ σ S' w' H' own r q => hQ _ _ S' w' H' r.chg .non q, fun v d S' w' H' c h q => hQ v d S' w' H' c h q, fun _ _ _ _ _ _ _ q => q.elim, fun _ _ _ _ _ _ _ q => q.elim, hE⟩⟩
def eMethO (c : Str) (F : List D → WD D) (fo : Rho → WD D) (fa : Rho → WD (List D)) : Rho → WD D := fun ρ Q Ed => fo ρ (fun s => objQ (fun a c' fl => c' = c ∧ fa ρ (fun ds => F (s :: ds) Q Ed) Ed) s) Ed
variable {c x : Str} {k : Nat} {ps : List Str} {F : List D → WD D} {G : List D → Sto → WS D} {o e : Expr} {es : List Expr} {fo : Rho → WD D} {fa : Rho → WD (List D)} {ga : Rho → Sto → WS (List D)} {p apos pos : Pos}
def eMethO0 (c : Str) (F : List D → WD D) (fo : Rho → WD D) : Rho → WD D := fun ρ Q Ed => fo ρ (fun s => objQ (fun a c' fl => c' = c ∧ F [s] Q Ed) s) Ed
theorem de_methO0 {pl : Sem Bool} (M : CalO (OX X) X.prog X.w X.K X.mg X.base c x k ps F) {j : Nat} (hr : Room j X.A) (hx : Passes (L2.CX X.prog X.w) X E) (ho : DE (OX X) X E o fo) (hk : k ≤ j := by decide) (hl : ps.length = 1 := by rfl) (hn : x ∉ dskNames := by decide +kernel)
    (ht : eval (.Call (.Attribute o x apos) [] [] pos) X.env = (do
      let ov ← eval o X.env
      standAt apos.atName
      let (f, first) ← holding [ov] (getMethod ov x pl)
      callWith pos f first (backTo pos (starEach [] X.env)) (backToKw pos (keywordEach [] X.env))) := by rfl) :
    DE (OX X) X E (.Call (.Attribute o x apos) [] [] pos) (eMethO0 c F fo) := by
  obtain ⟨C, f, fd, hm, hc, hM, hb, hF⟩ := M
  obtain ⟨to, o1, o2⟩ := ho
  refine ⟨_, pe_meth0 o1 hc hM hF (hr.mono hk) hb (.nil : Vals [] []) hx ht, fun P ρ σ H Qd Ed Q hd hr hf hQ hE => o2 P ρ σ H _ Ed _ hd hr hf (fun v d H1 s1 hv q => ?_) hE⟩
  obtain ⟨a, c', fl, rfl, rfl, q⟩ := q
  obtain ⟨C', dx, fs, rfl, hC', g1, g2, g3, g4⟩ := of_obj hv
  rw [hm] at hC'
  cases hC'
  refine ⟨a, dx, fs, rfl, g1, dskF_none g3 hn, ?_⟩
  show spD _ X.K X.mg F ps.length [.ref a] H1 Q E
  exact ⟨P, [_], Qd, Ed, hd.same s1, .cons hv .nil, hl.symm, q, fun v d H3 s3 h3 q3 => hQ v d H3 (s1.trans s3) h3 q3, fun c a H3 s3 m z => hE c a H3 (s1.trans s3) m z⟩
def idQ (Q : Addr → Prop) (d : D) : Prop := ∃ a, d = idD a ∧ Q a
theorem idQ_i (Q : Addr → Prop) (a : Addr) : idQ Q (idD a) = Q a := propext ⟨fun ⟨a', e, q⟩ => by
  injection e with e
  injection e with e _
  injection e with _ e
  injection e with e
  injection e with e _
  injection e with e
  have e := Int.ofNat_inj.mp e
  subst e
  exact q, fun q => ⟨a, rfl, q⟩⟩
/-- the object at a is of the class c -/
def atC (S : Sto) (a : Addr) (c : Str) : Prop := ∃ k, S a = some k ∧ k.cls = c
def mMeth (c : Str) (G : List D → Sto → WS D) (fo : Rho → WD D) (ga : Rho → Sto → WS (List D)) : Rho → Sto → WS D := fun ρ S Q Ed => fo ρ (idQ fun a => atC S a c ∧ ga ρ S (fun ds S' => G (idD a :: ds) S' Q Ed) Ed) (fun x => Ed x S)
theorem me_meth {pl : Sem Bool} (M : CalZ (OX X) X.prog X.w X.K X.mg X.base c x k ps G) {j : Nat} (hr : Room j X.A) (hx : Passes (L2.CX X.prog X.w) X E) (ho : DE (OX X) X E o fo) (ha : MA X E (e :: es) ga) (hk : k ≤ j := by decide) (hl : ps.length = (e :: es).length + 1 := by rfl) (hn : x ∉ dskNames := by decide +kernel)
    (hst : starEach (e :: es) X.env = (false, eval e X.env) :: starEach es X.env := by rfl) (hpl : (backTo pos (starEach es X.env)).any (·.1) = false := by rfl)
    (ht : eval (.Call (.Attribute o x apos) (e :: es) [] pos) X.env = (do
      let ov ← eval o X.env
      standAt apos.atName
      let (f, first) ← holding [ov] (getMethod ov x pl)
      callWith pos f first (backTo pos (starEach (e :: es) X.env)) (backToKw pos (keywordEach [] X.env))) := by rfl) :
    ME X E (.Call (.Attribute o x apos) (e :: es) [] pos) (mMeth c G fo ga) := by
  obtain ⟨C, f, fd, hm, hc, hM, hb, hF, _⟩ := M
  obtain ⟨to, o1, o2⟩ := ho
  obtain ⟨ta, a1, a2⟩ := ha
  refine ⟨_, pe_meth o1 hc hM hF (hr.mono hk) hb (.nil : Vals [] []) hx a1 hst hpl ht, fun B ρ σ S w H Qd Ed Q hd hr hf hQ hE => o2 (PB B S w) ρ σ H _ _ _ hd.dom hr hf (fun v d H1 s1 hv q => ?_) (hE.x hd.st)⟩
  obtain ⟨a, rfl, ⟨kk, eS, ec⟩, q⟩ := q
  have ev := of_id hv
  subst ev
  have c1 : Chg X.mg X.K S w H S w H1 := .of hd.st s1
  obtain ⟨C', dx, fs, hC', g1, g2, g3⟩ := c1.st.ins a kk eS
  rw [ec, hm] at hC'
  cases hC'
  refine ⟨a, dx, fs, rfl, g1, dskF_none g2 hn, a2 B ρ σ S w H1 _ _ _ (hd.chg c1) (hr.chg hd c1) q (fun vs ds S2 w2 H2 c2 h2 l2 q2 => ?_) (hE.chg c1)⟩
  show spS _ X.mg X.K G ps.length (.ref a :: (vs ++ [])) H2 Q E
  rw [List.append_nil]
  have c12 := c1.trans c2
  exact ⟨B, S2, w2, _ :: ds, Qd, Ed, hd.chg c12, .cons dv_id h2, by rw [hl, ← l2]; rfl, q2, fun v d S3 w3 H3 c3 h3 q3 => hQ v d S3 w3 H3 (c12.trans c3) h3 q3, fun c a S3 w3 H3 c3 m z => hE c a S3 w3 H3 (c12.trans c3) m z⟩
def mMeth0 (c : Str) (G : List D → Sto → WS D) (fo : Rho → WD D) : Rho → Sto → WS D := fun ρ S Q Ed => fo ρ (idQ fun a => atC S a c ∧ G [idD a] S Q Ed) (fun x => Ed x S)
theorem me_meth0 {pl : Sem Bool} (M : CalZ (OX X) X.prog X.w X.K X.mg X.base c x k ps G) {j : Nat} (hr : Room j X.A) (hx : Passes (L2.CX X.prog X.w) X E) (ho : DE (OX X) X E o fo) (hk : k ≤ j := by decide) (hl : ps.length = 1 := by rfl) (hn : x ∉ dskNames := by decide +kernel)
    (ht : eval (.Call (.Attribute o x apos) [] [] pos) X.env = (do
      let ov ← eval o X.env
      standAt apos.atName
      let (f, first) ← holding [ov] (getMethod ov x pl)
      callWith pos f first (backTo pos (starEach [] X.env)) (backToKw pos (keywordEach [] X.env))) := by rfl) :
    ME X E (.Call (.Attribute o x apos) [] [] pos) (mMeth0 c G fo) := by
  obtain ⟨C, f, fd, hm, hc, hM, hb, hF, _⟩ := M
  obtain ⟨to, o1, o2⟩ := ho
  refine ⟨_, pe_meth0 o1 hc hM hF (hr.mono hk) hb (.nil : Vals [] []) hx ht, fun B ρ σ S w H Qd Ed Q hd hr hf hQ hE => o2 (PB B S w) ρ σ H _ _ _ hd.dom hr hf (fun v d H1 s1 hv q => ?_) (hE.x hd.st)⟩
  obtain ⟨a, rfl, ⟨kk, eS, ec⟩, q⟩ := q
  have ev := of_id hv
  subst ev
  have c1 : Chg X.mg X.K S w H S w H1 := .of hd.st s1
  obtain ⟨C', dx, fs, hC', g1, g2, g3⟩ := c1.st.ins a kk eS
  rw [ec, hm] at hC'
  cases hC'
  refine ⟨a, dx, fs, rfl, g1, dskF_none g2 hn, ?_⟩
  show spS _ X.mg X.K G ps.length [.ref a] H1 Q E
  exact ⟨B, S, w, [_], Qd, Ed, hd.chg c1, .cons dv_id .nil, hl.symm, q, fun v d S3 w3 H3 c3 h3 q3 => hQ v d S3 w3 H3 (c1.trans c3) h3 q3, fun c a S3 w3 H3 c3 m z => hE c a S3 w3 H3 (c1.trans c3) m z⟩
end
end DL
namespace DL
open PySem PySem.Spec PyProof.Rows L2
def dskN (l : List Str) : Bool := List.isPrefixOf l (["way", "tables", "past", "future"] : List Str) || List.isPrefixOf l (["ways", "sight", "left_along", "noted"] : List Str)
theorem dskN_nodup {l : List Str} (h : dskN l = true) : l.Nodup := by
  have key : ∀ (m : List Str), m.Nodup → List.isPrefixOf l m = true → l.Nodup := fun m hm hp => (List.isPrefixOf_iff_prefix.mp hp).sublist.nodup hm
  unfold dskN at h
  rcases Bool.or_eq_true_iff.mp h with h | h
  · exact key _ (by decide +kernel) h
  · exact key _ (by decide +kernel) h
theorem FlOk.names {K : PySem.W.Frag} {H : Hp} {Z : Str → Addr → Prop} {fl : Fls} {fs : List (Str × V)} (h : FlOk K H Z fl fs) : fl.map (·.1) = fs.map (·.1) := by
  induction h with
  | nil => rfl
  | val _ _ ih => rw [List.map_cons, List.map_cons, ih]
  | lst _ _ _ _ ih => rw [List.map_cons, List.map_cons, ih]
def putFl (f : Str) (y : Fld) : Fls → Fls
  | [] => [(f, y)]
  | (g, x) :: r => if g = f then (g, y) :: r else (g, x) :: putFl f y r
def stoPut (S : Sto) (a : Addr) (f : Str) (y : Fld) : Sto := fun b => if b = a then (S a).map fun k => ⟨k.cls, putFl f y k.fl⟩ else S b
def wSet (w : Owr) (p : Addr) (z : Addr × Str) : Owr := fun q => if q = p then some z else w q
theorem FlOk.putV {K : PySem.W.Frag} {H : Hp} {Z : Str → Addr → Prop} {f : Str} {v : V} {d : D} (hv : Pv K H v d) {fl : Fls} {fs : List (Str × V)} (h : FlOk K H Z fl fs) : FlOk K H Z (putFl f (.val d) fl) (putF f v fs) := by
  induction h with
  | nil => exact .val hv .nil
  | @val g v' d' fl fs h r ih =>
    unfold putFl putF
    by_cases q : g = f
    · rw [if_pos q, if_pos q]
      exact .val hv r
    · rw [if_neg q, if_neg q]
      exact .val h ih
  | @lst g p vs xs fl fs h z a r ih =>
    unfold putFl putF
    by_cases q : g = f
    · rw [if_pos q, if_pos q]
      exact .val hv r
    · rw [if_neg q, if_neg q]
      exact .lst h z a ih
theorem FlOk.putL {K : PySem.W.Frag} {H : Hp} {Z : Str → Addr → Prop} {f : Str} {p : Addr} {vs : List V} {xs : List D} (hp : H p = some (.lst vs)) (hz : Z f p) (hv : PvAll K H vs xs) {fl : Fls} {fs : List (Str × V)} (h : FlOk K H Z fl fs) : FlOk K H Z (putFl f (.lst xs) fl) (putF f (.ref p) fs) := by
  induction h with
  | nil => exact .lst hp hz hv .nil
  | @val g v' d' fl fs h r ih =>
    unfold putFl putF
    by_cases q : g = f
    · rw [if_pos q, if_pos q]
      exact .lst hp (by rw [q]; exact hz) hv r
    · rw [if_neg q, if_neg q]
      exact .val h ih
  | @lst g p' vs xs fl fs h z a r ih =>
    unfold putFl putF
    by_cases q : g = f
    · rw [if_pos q, if_pos q]
      exact .lst hp (by rw [q]; exact hz) hv r
    · rw [if_neg q, if_neg q]
      exact .lst h z a ih
/-- fields that are not f are not at p -/
theorem FlOk.off {K : PySem.W.Frag} {H : Hp} {Z : Str → Addr → Prop} {f : Str} {p : Addr} {o : HO} (zf : ∀ g, Z g p → g = f) (fr : ∀ a o' u, H a = some (.frz o' u) → upd H p o a = some (.frz o' u)) {fl : Fls} {fs : List (Str × V)} (h : FlOk K H Z fl fs) (n : f ∉ fl.map (·.1)) : FlOk K (upd H p o) Z fl fs := by
  induction h with
  | nil => exact .nil
  | @val g v' d' fl fs h r ih => exact .val (h.frz fr) (ih fun z => n (List.mem_cons_of_mem _ z))
  | @lst g p' vs xs fl fs h z a r ih =>
    have : p' ≠ p := fun e => n (by
      rw [e] at z
      rw [zf g z]
      exact List.mem_cons_self)
    exact .lst (by rw [upd_ne this]; exact h) z (a.frz fr) (ih fun z => n (List.mem_cons_of_mem _ z))
theorem FlOk.updL {K : PySem.W.Frag} {H : Hp} {Z : Str → Addr → Prop} {f : Str} {p : Addr} {vs' : List V} {xs' : List D} {xs0 : List D} (zf : ∀ g, Z g p → g = f) (hz : Z f p) (fr : ∀ a o' u, H a = some (.frz o' u) → upd H p (.lst vs') a = some (.frz o' u)) (hv : PvAll K (upd H p (.lst vs')) vs' xs') {fl : Fls} {fs : List (Str × V)} (h : FlOk K H Z fl fs)
    (nd : (fl.map (·.1)).Nodup) (l1 : fl.lookup f = some (.lst xs0)) (l2 : fs.lookup f = some (.ref p)) : FlOk K (upd H p (.lst vs')) Z (putFl f (.lst xs') fl) fs := by
  induction h with
  | nil => cases l1
  | @val g v' d' fl fs h r ih =>
    rw [List.map_cons, List.nodup_cons] at nd
    by_cases q : f = g
    · subst q
      simp only [List.lookup_cons, beq_self_eq_true] at l1
      cases l1
    · have q' : (f == g) = false := beq_eq_false_iff_ne.mpr q
      simp only [List.lookup_cons, q'] at l1 l2
      unfold putFl
      rw [if_neg (fun z => q z.symm)]
      exact .val (h.frz fr) (ih nd.2 l1 l2)
  | @lst g p' vs xs fl fs h z a r ih =>
    rw [List.map_cons, List.nodup_cons] at nd
    unfold putFl
    by_cases q : f = g
    · subst q
      simp only [List.lookup_cons, beq_self_eq_true, Option.some.injEq, V.ref.injEq] at l2
      subst l2
      rw [if_pos rfl]
      exact .lst upd_same hz hv (r.off zf fr nd.1)
    · have q' : (f == g) = false := beq_eq_false_iff_ne.mpr q
      simp only [List.lookup_cons, q'] at l1 l2
      rw [if_neg (fun z => q z.symm)]
      have : p' ≠ p := fun e => q (by rw [e] at z; exact (zf g z).symm)
      exact .lst (by rw [upd_ne this]; exact h) z (a.frz fr) (ih nd.2 l1 l2)
theorem Same.frzO [Nm] {H H' : Hp} (s : Same H H') : ∀ a o u, H a = some (.frz o u) → H' a = some (.frz o u) := fun a _ _ e => s.all a _ e no_frz
section
variable [Nm] {mg : Str → Option Value} {K : PySem.W.Frag} {S : Sto} {w : Owr} {H H' : Hp} {a p : Addr} {f : Str}
theorem frz_upd {o o' : HO} (e : H a = some o) (n : ∀ u z, o ≠ .frz u z) : ∀ b u z, H b = some (.frz u z) → upd H a o' b = some (.frz u z) := fun b u z eb => by
  rw [upd_ne fun q => by subst q; rw [e] at eb; cases eb; exact n _ _ rfl]
  exact eb
/-- the object at a is written -/
theorem Chg.put {k k' : Dk} {C dx : Addr} {fs fs' : List (Str × V)} (st : StOk mg K S w H) (tb : True) (eS : S a = some k) (eH : H a = some (.ins C dx fs)) (hC : mg k'.cls = some (.ref C)) (hd : dskF fs = true) (hd' : dskF fs' = true) (h : FlOk K H (fun f p => w p = some (a, f)) k'.fl fs') :
    Chg mg K S w H (fun b => if b = a then some k' else S b) w (upd H a (.ins C dx fs')) := by
  have mb : Mb (.ins C dx fs) := mb_ins hd
  have fr : ∀ b u z, H b = some (.frz u z) → upd H a (.ins C dx fs') b = some (.frz u z) := frz_upd eH fun _ _ z => nomatch z
  have pa : Pst S w a := .inl (by rw [eS]; exact fun z => nomatch z)
  have nl : ∀ {q : Addr} {xs : List V}, H q = some (.lst xs) → q ≠ a := fun e z => by
    subst z
    rw [eH] at e
    cases e
  refine ⟨⟨fun b o e n z => ?_, .upd eH mb⟩, fun t => t.upd eH mb, fun b z => ?_, fun b z => ?_, ⟨fun b kb e => ?_, fun q e => ?_⟩⟩
  · rw [upd_ne fun q => n (by rw [q]; exact pa)]
    exact e
  · by_cases q : b = a
    · exact .inl (by show (if b = a then some k' else S b) ≠ none; rw [if_pos q]; exact fun z => nomatch z)
    · exact z.imp (fun z => by show (if b = a then some k' else S b) ≠ none; rw [if_neg q]; exact z) id
  · refine .inl ?_
    by_cases q : b = a
    · rw [q]
      exact pa
    · exact z.imp (fun z => by have z : (if b = a then some k' else S b) ≠ none := z; rw [if_neg q] at z; exact z) id
  · have e : (if b = a then some k' else S b) = some kb := e
    by_cases q : b = a
    · subst q
      rw [if_pos rfl] at e
      cases e
      exact ⟨C, dx, fs', hC, upd_same, hd', h.to (fun f p vs e z => ⟨by rw [upd_ne (nl e)]; exact e, z⟩) fr⟩
    · rw [if_neg q] at e
      obtain ⟨C', dx', fs'', h1, h2, h3, h4⟩ := st.ins b kb e
      exact ⟨C', dx', fs'', h1, by rw [upd_ne q]; exact h2, h3, h4.to (fun f p vs e z => ⟨by rw [upd_ne (nl e)]; exact e, z⟩) fr⟩
  · obtain ⟨xs, e1⟩ := st.lst q e
    exact ⟨xs, by rw [upd_ne (nl e1)]; exact e1⟩
/-- a new list becomes the object's -/
theorem Chg.own {vs : List V} (st : StOk mg K S w H) (s : Same H H') (n : Nn H p) (e : H' p = some (.lst vs)) (z : Addr × Str) : Chg mg K S w H S (wSet w p z) H' := by
  have np : ¬ Pst S w p := fun q => by
    obtain ⟨o, e1, m⟩ := st.mb q
    exact no_mb m (n o e1)
  have st' := st.same s
  have ne : ∀ {q : Addr}, w q ≠ none → q ≠ p := fun h z => np (by rw [← z]; exact .inr h)
  refine ⟨.of s, s.tab, fun b h => h.imp id fun h => ?_, fun b h => ?_, ⟨fun b kb eb => ?_, fun q h => ?_⟩⟩
  · unfold wSet
    rw [if_neg (ne h)]
    exact h
  · rcases h with h | h
    · exact .inl (.inl h)
    · unfold wSet at h
      by_cases q : b = p
      · exact .inr (by rw [q]; exact n)
      · rw [if_neg q] at h
        exact .inl (.inr h)
  · obtain ⟨C, dx, fs, h1, h2, h3, h4⟩ := st'.ins b kb eb
    refine ⟨C, dx, fs, h1, h2, h3, h4.to (fun f q vs e z => ⟨e, ?_⟩) fun _ _ _ e => e⟩
    unfold wSet
    rw [if_neg (ne (by rw [z]; exact fun z => nomatch z))]
    exact z
  · unfold wSet at h
    by_cases q' : q = p
    · exact ⟨vs, by rw [q']; exact e⟩
    · rw [if_neg q'] at h
      exact st'.lst q h
/-- a list of the object is written -/
theorem Chg.lst {k : Dk} {xs0 xs' : List D} {vs0 vs' : List V} {C dx : Addr} {fs : List (Str × V)} (st : StOk mg K S w H) (eS : S a = some k) (hC : mg k.cls = some (.ref C)) (eH : H a = some (.ins C dx fs)) (hd : dskF fs = true) (h : FlOk K H (fun f p => w p = some (a, f)) k.fl fs) (l1 : k.fl.lookup f = some (.lst xs0)) (l2 : fs.lookup f = some (.ref p)) (hp : H p = some (.lst vs0)) (hw : w p = some (a, f))
    (hv : PvAll K H vs' xs') : Chg mg K S w H (stoPut S a f (.lst xs')) w (upd H p (.lst vs')) := by
  have fr : ∀ b u z, H b = some (.frz u z) → upd H p (.lst vs') b = some (.frz u z) := frz_upd hp fun _ _ z => nomatch z
  have pp : Pst S w p := .inr (by rw [hw]; exact fun z => nomatch z)
  have ni : ∀ {q : Addr} {C dx : Addr} {fs : List (Str × V)}, H q = some (.ins C dx fs) → q ≠ p := fun e z => by
    subst z
    rw [hp] at e
    cases e
  have zf : ∀ b g, w p = some (b, g) → b = a ∧ g = f := fun b g e => by
    rw [hw] at e
    cases e
    exact ⟨rfl, rfl⟩
  refine ⟨⟨fun b o e n z => ?_, .upd hp mb_lst⟩, fun t => t.upd hp mb_lst, fun b z => ?_, fun b z => ?_, ⟨fun b kb e => ?_, fun q e => ?_⟩⟩
  · rw [upd_ne fun q => n (by rw [q]; exact pp)]
    exact e
  · refine z.imp (fun z => ?_) id
    unfold stoPut
    by_cases q : b = a
    · rw [if_pos q, eS]
      exact fun z => nomatch z
    · rw [if_neg q]
      exact z
  · refine .inl (z.imp (fun z => ?_) id)
    unfold stoPut at z
    by_cases q : b = a
    · subst q
      rw [eS]
      exact fun z => nomatch z
    · rw [if_neg q] at z
      exact z
  · unfold stoPut at e
    by_cases q : b = a
    · subst q
      rw [if_pos rfl, eS] at e
      cases e
      refine ⟨C, dx, fs, hC, by rw [upd_ne (ni eH)]; exact eH, hd, h.updL (fun g e => (zf _ g e).2) hw fr (hv.frz fr) ?_ l1 l2⟩
      rw [h.names]
      exact dskN_nodup hd
    · rw [if_neg q] at e
      obtain ⟨C', dx', fs'', h1, h2, h3, h4⟩ := st.ins b kb e
      refine ⟨C', dx', fs'', h1, by rw [upd_ne (ni h2)]; exact h2, h3, h4.to (fun g q' vs e z => ⟨?_, z⟩) fr⟩
      rw [upd_ne fun u => q (by subst u; exact (zf _ g z).1)]
      exact e
  · obtain ⟨xs, e1⟩ := st.lst q e
    by_cases q' : q = p
    · exact ⟨vs', by rw [q', upd_same]⟩
    · exact ⟨xs, by rw [upd_ne q']; exact e1⟩
/-- a new object -/
def stoNew (S : Sto) (a : Addr) (c : Str) : Sto := fun b => if b = a then some ⟨c, []⟩ else S b
theorem Chg.made {c : Str} {C x dx : Addr} (st : StOk mg K S w H) (hC : mg c = some (.ref C)) (nx : H x = none) (nd : H dx = none) (ne : dx ≠ x) : Chg mg K S w H (stoNew S x c) w (upd (upd H dx (.own x)) x (.ins C dx [])) := by
  have kp : ∀ b o, H b = some o → upd (upd H dx (.own x)) x (.ins C dx []) b = some o := fun b o e => by
    rw [upd_ne (ne_of_none e nx), upd_ne (ne_of_none e nd)]
    exact e
  have s : Same H (upd (upd H dx (.own x)) x (.ins C dx [])) := .of kp
  have nS : ∀ b, S b ≠ none → b ≠ x := fun b h z => by
    subst z
    obtain ⟨o, e, _⟩ := st.mb (.inl h : Pst S w b)
    rw [nx] at e
    cases e
  refine ⟨.of s, s.tab, fun b z => z.imp (fun z => ?_) id, fun b z => ?_, ⟨fun b kb e => ?_, fun q e => ?_⟩⟩
  · unfold stoNew
    rw [if_neg (nS b z)]
    exact z
  · rcases z with z | z
    · unfold stoNew at z
      by_cases q : b = x
      · exact .inr (by rw [q]; exact DL.nn nx)
      · rw [if_neg q] at z
        exact .inl (.inl z)
    · exact .inl (.inr z)
  · unfold stoNew at e
    by_cases q : b = x
    · subst q
      rw [if_pos rfl] at e
      cases e
      exact ⟨C, dx, [], hC, upd_same, rfl, .nil⟩
    · rw [if_neg q] at e
      exact (st.same s).ins b kb e
  · exact (st.same s).lst q e
end
def putOk (S : Sto) (a : Addr) (f : Str) (y : Fld) (Q : Sto → Prop) : Prop := ∃ k, S a = some k ∧ dskN ((putFl f y k.fl).map (·.1)) = true ∧ k.fl.length < 900 ∧ Q (stoPut S a f y)
def atF (S : Sto) (a : Addr) (c f : Str) (Q : List D → Prop) : Prop := ∃ k xs, S a = some k ∧ k.cls = c ∧ k.fl.lookup f = some (.lst xs) ∧ Q xs
section
variable [Nm] {X : Cx} {E : XK} {o e : Expr} {pos pos' : Pos} {fo : Rho → WD D}
theorem stoPut_eq {S : Sto} {a : Addr} {k : Dk} {f : Str} {y : Fld} (e : S a = some k) : stoPut S a f y = fun b => if b = a then some ⟨k.cls, putFl f y k.fl⟩ else S b := by
  funext b
  unfold stoPut
  rw [e]
  rfl
/-- o.f = e, plain -/
def mFldV (c f : Str) (fo fe : Rho → WD D) : FSS := fun Γ S k => fe (rsv S (full Γ)) (fun d => pureD d = true ∧ fo (full Γ) (idQ fun a => atC S a c ∧ putOk S a f (.val d) fun S' => k.nx Γ S') (fun x => k.ex x S)) (fun x => k.ex x S)
theorem ms_fldV {c f : Str} {fe : Rho → WD D} (T : OcT X.K X.mg c) (ho : DE (OX X) X E o fo) (he : DE (OX X) X E e fe) (hf : f ∈ dskNames := by decide +kernel) (hs : swapsWith e (some (.Attribute o f pos')) pos.line X.env = pure false := by rfl) : MS X E (.Assign [.Attribute o f pos'] e pos) (mFldV c f fo fe) := by
  obtain ⟨C, hC, kk⟩ := T.ex
  obtain ⟨to, o1, o2⟩ := ho
  obtain ⟨te, e1, e2⟩ := he
  refine ⟨_, ps_fld o1 e1 hs, fun S0 w0 H0 P0 Γ σ S w H own k D hd r hf' l => ?_⟩
  have d1 := r.dom1 hd
  refine e2 P0 _ σ H _ _ _ d1.dom0 ((r.full hd).rsv d1) hf' (fun v d H1 s1 hv q => ?_) (fun x a H' s m z => l.ex x a S w H' (r.chg.same s) m z)
  have r1 := r.step hd s1
  refine o2 (PB P0 S w) _ σ H1 _ _ _ (r1.dom1 hd).dom (r1.full hd) q.2 (fun v2 d2 H2 s2 hv2 q2 => ?_) (fun x a H' s m z => l.ex x a S w H' (r1.chg.same s) m z)
  have r2 := r1.step hd s2
  obtain ⟨a, rfl, ⟨k1, ek1, ec1⟩, k2, ek, hn, hl, q2⟩ := q2
  rw [ek] at ek1
  cases ek1
  have ev := of_id hv2
  subst ev
  obtain ⟨C', dx, fs, hC', g1, g2, g3⟩ := r2.chg.st.ins a k1 ek
  have hC1 := hC'
  rw [ec1, hC] at hC'
  cases hC'
  have pv := (hv.pv q.1).frz s2.frzO
  have g4 := g3.putV (f := f) pv
  have ln : fs.length = k1.fl.length := by
    have := congrArg List.length g3.names
    rw [List.length_map, List.length_map] at this
    exact this.symm
  refine ⟨a, C, dx, fs, rfl, g1, kk.cl, kk.na f hf, by omega, ?_⟩
  have c := Chg.put (k' := ⟨k1.cls, putFl f (.val d) k1.fl⟩) r2.chg.st trivial ek g1 hC1 g2 (by
    show dskN _ = true
    rw [← g4.names]
    exact hn) g4
  rw [stoPut_eq ek] at q2
  exact l.nx _ _ _ _ _ _ (r2.eff hd c) q2
/-- o.f = a new list -/
def mFldL (c f : Str) (fo : Rho → WD D) (fe : Rho → WD (List D)) : FSS := fun Γ S k => fe (rsv S (full Γ)) (fun xs => pureD.pureAll xs = true ∧ fo (full Γ) (idQ fun a => atC S a c ∧ putOk S a f (.lst xs) fun S' => k.nx Γ S') (fun x => k.ex x S)) (fun x => k.ex x S)
theorem ms_fldL {c f : Str} {fe : Rho → WD (List D)} (T : OcT X.K X.mg c) (ho : DE (OX X) X E o fo) (he : DF (OX X) X E e fe) (hf : f ∈ dskNames := by decide +kernel) (hs : swapsWith e (some (.Attribute o f pos')) pos.line X.env = pure false := by rfl) : MS X E (.Assign [.Attribute o f pos'] e pos) (mFldL c f fo fe) := by
  obtain ⟨C, hC, kk⟩ := T.ex
  obtain ⟨to, o1, o2⟩ := ho
  obtain ⟨te, e1, e2⟩ := he
  refine ⟨_, ps_fld o1 e1 hs, fun S0 w0 H0 P0 Γ σ S w H own k D hd r hf' l => ?_⟩
  have d1 := r.dom1 hd
  refine e2 P0 _ σ H _ _ _ d1.dom0 ((r.full hd).rsv d1) hf' (fun p vs ds H1 s1 np hp hv q => ?_) (fun x a H' s m z => l.ex x a S w H' (r.chg.same s) m z)
  have r1 := r.step hd s1
  refine o2 (PB P0 S w) _ σ H1 _ _ _ (r1.dom1 hd).dom (r1.full hd) q.2 (fun v2 d2 H2 s2 hv2 q2 => ?_) (fun x a H' s m z => l.ex x a S w H' (r1.chg.same s) m z)
  obtain ⟨a, rfl, ⟨k1, ek1, ec1⟩, k2, ek, hn, hl, q2⟩ := q2
  rw [ek] at ek1
  cases ek1
  have ev := of_id hv2
  subst ev
  have hp2 := s2.all _ _ hp no_lst
  have c1 := Chg.own r.chg.st (s1.trans s2) np hp2 (a, f)
  have r2 := r.eff hd c1
  obtain ⟨C', dx, fs, hC', g1, g2, g3⟩ := r2.chg.st.ins a k1 ek
  have hC1 := hC'
  rw [ec1, hC] at hC'
  cases hC'
  have pv := (hv.pv q.1).frz s2.frzO
  have g4 := g3.putL (f := f) hp2 (by show wSet w p (a, f) p = _; unfold wSet; rw [if_pos rfl]) pv
  have ln : fs.length = k1.fl.length := by
    have := congrArg List.length g3.names
    rw [List.length_map, List.length_map] at this
    exact this.symm
  refine ⟨a, C, dx, fs, rfl, g1, kk.cl, kk.na f hf, by omega, ?_⟩
  have c := Chg.put (k' := ⟨k1.cls, putFl f (.lst ds) k1.fl⟩) r2.chg.st trivial ek g1 hC1 g2 (by
    show dskN _ = true
    rw [← g4.names]
    exact hn) g4
  rw [stoPut_eq ek] at q2
  exact l.nx _ _ _ _ _ _ (r2.eff hd c) q2
/-- the list of a field is at hand -/
theorem field_at {Γ : DL.Env} {σ : L2.St} {S0 S : Sto} {w0 w : Owr} {H0 H : Hp} {P0 : Addr → Prop} {own : Nat → Option Addr} {a : Addr} {c f : Str} {xs : List D} {k : Dk} {C : Addr} (st : StOk X.mg X.K S w H) (hC : X.mg c = some (.ref C)) (ek : S a = some k) (ec : k.cls = c) (el : k.fl.lookup f = some (.lst xs)) :
    ∃ dx fs p vs, X.mg k.cls = some (.ref C) ∧ H a = some (.ins C dx fs) ∧ dskF fs = true ∧ FlOk X.K H (fun f p => w p = some (a, f)) k.fl fs ∧ fs.lookup f = some (.ref p) ∧ H p = some (.lst vs) ∧ w p = some (a, f) ∧ PvAll X.K H vs xs := by
  obtain ⟨C', dx, fs, hC', g1, g2, g3⟩ := st.ins a k ek
  have hC1 := hC'
  rw [ec, hC] at hC'
  cases hC'
  obtain ⟨p, vs, l2, hp, hw, hv⟩ := g3.look.2 xs el
  exact ⟨dx, fs, p, vs, hC1, g1, g2, g3, l2, hp, hw, hv⟩
/-- o.f.append(e) -/
def mFApp (c f : Str) (fo fe : Rho → WD D) : FSS := fun Γ S k => fo (full Γ) (idQ fun a => atF S a c f fun xs => fe (rsv S (full Γ)) (fun d => pureD d = true ∧ xs.length < 1000000 ∧ k.nx Γ (stoPut S a f (.lst (xs ++ [d])))) (fun x => k.ex x S)) (fun x => k.ex x S)
theorem PvAll.append {K : PySem.W.Frag} {H : Hp} : ∀ {vs ws : List V} {ds es : List D}, PvAll K H vs ds → PvAll K H ws es → PvAll K H (vs ++ ws) (ds ++ es)
  | _, _, _, _, .nil, s => s
  | _, _, _, _, .cons h r, s => .cons h (r.append s)
theorem PvAll.length {K : PySem.W.Frag} {H : Hp} : ∀ {vs : List V} {ds : List D}, PvAll K H vs ds → vs.length = ds.length
  | _, _, .nil => rfl
  | _, _, .cons _ r => congrArg (· + 1) r.length
theorem PvAll.get {K : PySem.W.Frag} {H : Hp} : ∀ {vs : List V} {ds : List D} {i : Nat} {d : D}, PvAll K H vs ds → ds[i]? = some d → ∃ v, vs[i]? = some v ∧ Pv K H v d
  | _, _, _, _, .nil, e => by simp at e
  | _, _, 0, _, .cons h _, e => by
    simp at e
    subst e
    exact ⟨_, rfl, h⟩
  | _, _, i + 1, _, .cons _ r, e => by
    obtain ⟨v, e1, h1⟩ := r.get (i := i) (by simpa using e)
    exact ⟨v, by simpa using e1, h1⟩
theorem PvAll.take {K : PySem.W.Frag} {H : Hp} : ∀ {vs : List V} {ds : List D} (n : Nat), PvAll K H vs ds → PvAll K H (vs.take n) (ds.take n)
  | _, _, 0, _ => by simpa using PvAll.nil
  | _, _, _ + 1, .nil => .nil
  | _, _, n + 1, .cons h r => .cons h (r.take n)
theorem ms_fapp {c f : Str} {fe : Rho → WD D} {p1 apos cpos : Pos} (T : OcT X.K X.mg c) (ho : DE (OX X) X E o fo) (he : DE (OX X) X E e fe) (hf : f ∈ dskNames := by decide +kernel) (hb : attributeBase o f X.env (eval o X.env) = eval o X.env := by rfl)
    (hse : starEach [e] X.env = (false, eval e X.env) :: starEach [] X.env := by rfl)
    (hbase : attributeBase (.Attribute o f p1) "append" X.env (eval (.Attribute o f p1) X.env) = eval (.Attribute o f p1) X.env := by rfl)
    (hfew : ((backTo cpos (starEach [e] X.env)).all (fun x => !x.1) && (backToKw cpos (keywordEach [] X.env)).all (fun x => x.1.isSome) && decide ([e].length + ([] : List Keyword).length + (if ([] : List Keyword).isEmpty then 0 else 1) < 30)) = true := by rfl)
    (hline : (apos.endLine == cpos.line) = true := by rfl) (hs : swapsWith (.Call (.Attribute (.Attribute o f p1) "append" apos) [e] [] cpos) none pos.line X.env = pure false := by rfl) :
    MS X E (.Expr (.Call (.Attribute (.Attribute o f p1) "append" apos) [e] [] cpos) pos) (mFApp c f fo fe) := by
  obtain ⟨C, hC, kk⟩ := T.ex
  obtain ⟨to, o1, o2⟩ := ho
  obtain ⟨te, e1, e2⟩ := he
  have pA : PA X [e] (tCons te tNil) := pa_cons e1 pa_nil hse
  refine ⟨_, ps_expr (pe_bm PySem.F.plainAttrs_list PySem.F.slot_list_append PySem.F.type_list_append mt_append (pe_fld o1 hb) pA hbase hfew hline hse) hs, fun S0 w0 H0 P0 Γ σ S w H own k D hd r hf' l => ?_⟩
  have d1 := r.dom1 hd
  refine o2 (PB P0 S w) _ σ H _ _ _ d1.dom (r.full hd) hf' (fun v d H1 s1 hv q => ?_) (fun x a H' s m z => l.ex x a S w H' (r.chg.same s) m z)
  have r1 := r.step hd s1
  obtain ⟨a, rfl, k1, xs, ek, ec, el, q⟩ := q
  have ev := of_id hv
  subst ev
  obtain ⟨dx, fs, p, vs, hC1, g1, g2, g3, l2, hp, hw, hx⟩ := field_at (Γ := Γ) (σ := σ) (S0 := S) (w0 := w) (H0 := H) (P0 := P0) (own := own) r1.chg.st hC ek ec el
  refine ⟨a, C, dx, fs, .ref p, rfl, g1, kk.cl, kk.na f hf, l2, .inl ⟨rfl, vs, .inl (.inl hp)⟩, ?_⟩
  have d2 := r1.dom1 hd
  refine e2 P0 _ σ H1 _ _ _ d2.dom0 ((r1.full hd).rsv d2) q (fun v2 d' H2 s2 hv2 q2 => ?_) (fun x a H' s m z => l.ex x a S w H' (r1.chg.same s) m z)
  have r2 := r1.step hd s2
  obtain ⟨dx2, fs2, p2, vs2, hC2, g12, g22, g32, l22, hp2, hw2, hx2⟩ := field_at (Γ := Γ) (σ := σ) (S0 := S) (w0 := w) (H0 := H) (P0 := P0) (own := own) r2.chg.st hC ek ec el
  have e1 := s2.all _ _ g1 no_ins
  rw [g12] at e1
  cases e1
  rw [l2] at l22
  cases l22
  refine ⟨p, vs2, v2, rfl, rfl, hp2, ?_, ?_⟩
  · rw [hx2.length]
    exact Nat.lt_trans q2.2.1 (by decide)
  · exact l.nx _ _ _ _ _ _ (r2.eff hd (Chg.lst r2.chg.st ek hC2 g12 g22 g32 el l2 hp2 hw2 (hx2.append (.cons (hv2.pv q2.1) .nil)))) q2.2.2
/-- o.f.pop() -/
def mFPop (c f : Str) (fo : Rho → WD D) : Rho → Sto → WS D := fun ρ S Q Ed => fo ρ (idQ fun a => atF S a c f fun xs => orStuck (xs[xs.length - 1]?) fun d => Q d (stoPut S a f (.lst xs.dropLast))) (fun x => Ed x S)
theorem me_fpop {c f : Str} {p1 apos cpos : Pos} (T : OcT X.K X.mg c) (ho : DE (OX X) X E o fo) (hf : f ∈ dskNames := by decide +kernel) (hb : attributeBase o f X.env (eval o X.env) = eval o X.env := by rfl)
    (hbase : attributeBase (.Attribute o f p1) "pop" X.env (eval (.Attribute o f p1) X.env) = eval (.Attribute o f p1) X.env := by rfl) (hline : (apos.endLine == cpos.line) = true := by rfl) :
    ME X E (.Call (.Attribute (.Attribute o f p1) "pop" apos) [] [] cpos) (mFPop c f fo) := by
  obtain ⟨C, hC, kk⟩ := T.ex
  obtain ⟨to, o1, o2⟩ := ho
  refine ⟨_, pe_bm0 PySem.F.plainAttrs_list PySem.F.slot_list_pop PySem.F.type_list_pop mt_pop (pe_fld o1 hb) hbase hline, fun B ρ σ S w H Qd Ed Q hd hr hf' hQ hE => o2 (PB B S w) ρ σ H _ _ _ hd.dom hr hf' (fun v d H1 s1 hv q => ?_) (hE.x hd.st)⟩
  obtain ⟨a, rfl, k1, xs, ek, ec, el, q⟩ := q
  obtain ⟨d, ed, q⟩ := of_orStuck q
  have ev := of_id hv
  subst ev
  have c1 : Chg X.mg X.K S w H S w H1 := .of hd.st s1
  obtain ⟨dx, fs, p, vs, hC1, g1, g2, g3, l2, hp, hw, hx⟩ := field_at (Γ := []) (σ := σ) (S0 := S) (w0 := w) (H0 := H) (P0 := B) (own := fun _ => none) c1.st hC ek ec el
  obtain ⟨y, ey, hy⟩ := hx.get ed
  have ez : vs.dropLast = vs.take (vs.length - 1) := List.dropLast_eq_take
  have cl := Chg.lst c1.st ek hC1 g1 g2 g3 el l2 hp hw (vs' := vs.dropLast) (xs' := xs.dropLast) (by
    rw [List.dropLast_eq_take, List.dropLast_eq_take, hx.length]
    exact hx.take _)
  refine ⟨a, C, dx, fs, .ref p, rfl, g1, kk.cl, kk.na f hf, l2, .inl ⟨rfl, vs, .inl (.inl hp)⟩, p, vs, y, rfl, rfl, hp, by rw [hx.length]; exact ey, hQ y d _ w _ (c1.trans cl) ?_ q⟩
  exact (hy.frz (frz_upd hp fun _ _ z => nomatch z)).dv
theorem lookup_put (f g : Str) (y : Fld) : ∀ fl : Fls, (putFl f y fl).lookup g = if g = f then some y else fl.lookup g
  | [] => by
    unfold putFl
    by_cases h : g = f
    · subst h
      simp
    · have h' : (g == f) = false := beq_eq_false_iff_ne.mpr h
      simp [List.lookup_cons, h', h]
  | (k, x) :: r => by
    unfold putFl
    by_cases q : k = f
    · subst q
      rw [if_pos rfl]
      by_cases h : g = k
      · subst h
        simp
      · have h' : (g == k) = false := beq_eq_false_iff_ne.mpr h
        simp [List.lookup_cons, h', h]
    · rw [if_neg q]
      by_cases h : g = k
      · subst h
        simp [List.lookup_cons, q]
      · have h' : (g == k) = false := beq_eq_false_iff_ne.mpr h
        simp only [List.lookup_cons, h']
        exact lookup_put f g y r
/-- o.f.append(o.g.pop()) -/
def mFAppPop (c f g : Str) (fo : Rho → WD D) : FSS := fun Γ S k => fo (full Γ) (idQ fun a => atF S a c f fun xs => fo (full Γ) (idQ fun b => b = a ∧ atF S a c g fun ys => orStuck (ys[ys.length - 1]?) fun d => xs.length < 1000000 ∧ k.nx Γ (stoPut (stoPut S a g (.lst ys.dropLast)) a f (.lst (xs ++ [d])))) (fun x => k.ex x S)) (fun x => k.ex x S)
theorem ms_fappPop {c f g : Str} {p1 p2 apos cpos apos2 cpos2 : Pos} {o' : Expr} (T : OcT X.K X.mg c) (ho : DE (OX X) X E o fo) (ho' : DE (OX X) X E o' fo) (hfg : f ≠ g := by decide +kernel) (hf : f ∈ dskNames := by decide +kernel) (hg : g ∈ dskNames := by decide +kernel) (hb : attributeBase o f X.env (eval o X.env) = eval o X.env := by rfl) (hb' : attributeBase o' g X.env (eval o' X.env) = eval o' X.env := by rfl)
    (hbase' : attributeBase (.Attribute o' g p2) "pop" X.env (eval (.Attribute o' g p2) X.env) = eval (.Attribute o' g p2) X.env := by rfl) (hline' : (apos2.endLine == cpos2.line) = true := by rfl)
    (hse : starEach [.Call (.Attribute (.Attribute o' g p2) "pop" apos2) [] [] cpos2] X.env = (false, eval (.Call (.Attribute (.Attribute o' g p2) "pop" apos2) [] [] cpos2) X.env) :: starEach [] X.env := by rfl)
    (hbase : attributeBase (.Attribute o f p1) "append" X.env (eval (.Attribute o f p1) X.env) = eval (.Attribute o f p1) X.env := by rfl)
    (hfew : ((backTo cpos (starEach [.Call (.Attribute (.Attribute o' g p2) "pop" apos2) [] [] cpos2] X.env)).all (fun x => !x.1) && (backToKw cpos (keywordEach [] X.env)).all (fun x => x.1.isSome) && decide ([Expr.Call (.Attribute (.Attribute o' g p2) "pop" apos2) [] [] cpos2].length + ([] : List Keyword).length + (if ([] : List Keyword).isEmpty then 0 else 1) < 30)) = true := by rfl)
    (hline : (apos.endLine == cpos.line) = true := by rfl) (hs : swapsWith (.Call (.Attribute (.Attribute o f p1) "append" apos) [.Call (.Attribute (.Attribute o' g p2) "pop" apos2) [] [] cpos2] [] cpos) none pos.line X.env = pure false := by rfl) :
    MS X E (.Expr (.Call (.Attribute (.Attribute o f p1) "append" apos) [.Call (.Attribute (.Attribute o' g p2) "pop" apos2) [] [] cpos2] [] cpos) pos) (mFAppPop c f g fo) := by
  obtain ⟨C, hC, kk⟩ := T.ex
  obtain ⟨to, o1, o2⟩ := ho
  obtain ⟨to', o1', o2'⟩ := ho'
  have pP := pe_bm0 PySem.F.plainAttrs_list PySem.F.slot_list_pop PySem.F.type_list_pop mt_pop (pe_fld o1' hb') hbase' hline'
  have pA := pa_cons pP pa_nil hse
  refine ⟨_, ps_expr (pe_bm PySem.F.plainAttrs_list PySem.F.slot_list_append PySem.F.type_list_append mt_append (pe_fld o1 hb) pA hbase hfew hline hse) hs, fun S0 w0 H0 P0 Γ σ S w H own k D hd r hf' l => ?_⟩
  refine o2 (PB P0 S w) _ σ H _ _ _ (r.dom1 hd).dom (r.full hd) hf' (fun v d H1 s1 hv q => ?_) (fun x a H' s m z => l.ex x a S w H' (r.chg.same s) m z)
  have r1 := r.step hd s1
  obtain ⟨a, rfl, k1, xs, ek, ec, el, q⟩ := q
  have ev := of_id hv
  subst ev
  obtain ⟨dx, fs, p, vs, hC1, g1, g2, g3, l2, hp, hw, hx⟩ := field_at (Γ := Γ) (σ := σ) (S0 := S) (w0 := w) (H0 := H) (P0 := P0) (own := own) r1.chg.st hC ek ec el
  refine ⟨a, C, dx, fs, .ref p, rfl, g1, kk.cl, kk.na f hf, l2, .inl ⟨rfl, vs, .inl (.inl hp)⟩, ?_⟩
  refine o2' (PB P0 S w) _ σ H1 _ _ _ (r1.dom1 hd).dom (r1.full hd) q (fun v2 d2 H2 s2 hv2 q2 => ?_) (fun x a H' s m z => l.ex x a S w H' (r1.chg.same s) m z)
  have r2 := r1.step hd s2
  obtain ⟨b, rfl, rfl, k2, ys, ek2, ec2, el2, q2⟩ := q2
  rw [ek] at ek2
  cases ek2
  obtain ⟨d, ed, lx, q2⟩ := of_orStuck q2
  have ev := of_id hv2
  subst ev
  obtain ⟨dx2, fs2, p2, vs2, hC2, g12, g22, g32, l22, hp2, hw2, hx2⟩ := field_at (Γ := Γ) (σ := σ) (S0 := S) (w0 := w) (H0 := H) (P0 := P0) (own := own) r2.chg.st hC ek ec el2
  have e1 := s2.all _ _ g1 no_ins
  rw [g12] at e1
  cases e1
  obtain ⟨y, ey, hy⟩ := hx2.get ed
  have cl := Chg.lst r2.chg.st ek hC2 g12 g22 g32 el2 l22 hp2 hw2 (vs' := vs2.dropLast) (xs' := ys.dropLast) (by
    rw [List.dropLast_eq_take, List.dropLast_eq_take, hx2.length]
    exact hx2.take _)
  refine ⟨b, C, dx, fs, .ref p2, rfl, g12, kk.cl, kk.na g hg, l22, .inl ⟨rfl, vs2, .inl (.inl hp2)⟩, p2, vs2, y, rfl, rfl, hp2, by rw [hx2.length]; exact ey, ?_⟩
  have r3 := r2.eff hd cl
  have ek3 : stoPut S b g (.lst ys.dropLast) b = some ⟨k1.cls, putFl g (.lst ys.dropLast) k1.fl⟩ := by
    rw [stoPut_eq ek]
    exact if_pos rfl
  have el3 : (putFl g (.lst ys.dropLast) k1.fl).lookup f = some (.lst xs) := by
    rw [lookup_put, if_neg hfg]
    exact el
  obtain ⟨dx3, fs3, p3, vs3, hC3, g13, g23, g33, l23, hp3, hw3, hx3⟩ := field_at (Γ := Γ) (σ := σ) (S0 := S) (w0 := w) (H0 := H) (P0 := P0) (own := own) r3.chg.st hC ek3 ec el3
  have hne : b ≠ p2 := fun z => by
    rw [z, hp2] at g12
    cases g12
  rw [upd_ne hne, g12] at g13
  cases g13
  rw [l2] at l23
  cases l23
  refine ⟨p, vs3, y, rfl, rfl, hp3, ?_, ?_⟩
  · rw [hx3.length]
    exact Nat.lt_trans lx (by decide)
  · exact l.nx _ _ _ _ _ _ (r3.eff hd (Chg.lst r3.chg.st ek3 hC3 (by rw [upd_ne hne]; exact g12) g23 g33 el3 l2 hp3 hw3 (hx3.append (.cons (hy.frz (frz_upd hp2 fun _ _ z => nomatch z)) .nil)))) q2
end
end DL
namespace DL
open PySem PySem.Spec PyProof.Rows L2
section
variable {X : Cx} {pins : List (Addr × Obj)} {σ : L2.St} {H : Hp} {s : Shared}
/-- the callee runs below the running body -/
theorem run_fnA {CX : CXT} {k : Nat} {f : Addr} {fd : FuncData} {ps : List Str} {sp : Sp} {E : XK} {A : Around} {Q : VK} {us : List Value} {vs : List V} (F : FnOk X.prog X.w X.K X.mg X.base CX k f fd ps sp) (hr : Room k A) (e0 : Env0 X.prog X.w X.K X.mg X.base A X.stack s H) (hb : Binds X.K fd ps []) (hx : Passes CX X E) (I : Inv X pins σ H s) (r : Vals vs us) (h : sp vs H Q E) :
    wpAny (model X.prog X.w) A (call (.ref f) us) (EP X pins σ Q) X.xe s := by
  have hl : (us ++ []).length = ps.length := by
    rw [List.append_nil, ← r.length]
    exact F.len _ _ _ _ h
  have hb2 := hb s us I.kIn hl
  rw [List.append_nil] at hb2
  refine wpAny_call (codeAny_mono (F.run A X.stack s H ⟨us, []⟩ us vs Q E hr e0 hb2 r h) fun r s' hq => ?_)
  cases r with
  | error e => exact hx pins σ H s e s' I hq
  | ok fl =>
    cases fl with
    | ret u => exact I.after hq
    | next => exact False.elim hq
    | brk => exact False.elim hq
    | cont => exact False.elim hq
/-- an instance of the class at C; what stands on the right of == -/
def insAt (H : Hp) (C : Addr) (x : V) : Prop := ∃ (a dx : Addr) (fs : List (Str × V)), x = .ref a ∧ H a = some (.ins C dx fs)
theorem insAt.inst {C : Addr} {x : V} {v : Value} (I : Inv X pins σ H s) (h : insAt H C x) (r : RelV x v) : ∃ (a dx : Addr) (od : Obj), v = .ref a ∧ PySem.W.InstAt s.heap a (PySem.W.instObj C dx) C (some od) := by
  obtain ⟨a, dx, fs, rfl, e⟩ := h
  cases r
  obtain ⟨mA, J, _⟩ := ins_get I.hok e
  obtain ⟨od, J, _⟩ := J.look
  exact ⟨a, dx, od, rfl, J⟩
end
section
variable {X : Cx} {CX : CXT} {k : Nat} {C f : Addr} {fd : FuncData} {ps : List Str} {sp : Sp} {E : XK}
/-- len(x) -/
def rLenO (C : Addr) (sp : Sp) (E : XK) : List V → Hp → VK → Prop := fun xs H Q => ∃ x, xs = [x] ∧ insAt H C x ∧ sp [x] H (fun z H' => ∃ n : Int, z = .int n ∧ (0 ≤ n ∧ n < 2 ^ 63) ∧ Q (.int n) H') E
theorem call_lenO (M : Meth X.K C "__len__" f) (F : FnOk X.prog X.w X.K X.mg X.base CX k f fd ps sp) (hb : Binds X.K fd ps []) (hr : Room (k + 1) X.A) (hx : Passes CX X E) : CallR X (.builtin "len") (rLenO C sp E) := by
  intro pins s σ H xs us Q I r h
  obtain ⟨x, rfl, hi, q⟩ := h
  obtain ⟨u, rfl, ru⟩ := vals1 r
  obtain ⟨a, dx, od, rfl, J⟩ := hi.inst I ru
  obtain ⟨m, hF⟩ := I.fr
  refine PySem.W.len_K hF I.ok.mod.kin J M.at_ M.fn (wpAny_mono (run_fnA F hr.in1 I.env0.in1 hb hx I (.cons ru .nil) q) (fun w s' z => ?_) fun _ _ x => x)
  obtain ⟨z', H', I', rz, n, rfl, hn, qz⟩ := z
  obtain ⟨t, rfl⟩ := rz
  exact ⟨hn, .int n, H', I'.tok _, ⟨_, rfl⟩, qz⟩
end
section
variable [Nm] {X : Cx} {E : XK} {c x : Str} {k : Nat} {ps : List Str} {F : List D → WD D} {e : Expr} {es : List Expr} {fo : Rho → WD D} {p p1 p2 pos : Pos}
theorem insAt_of {P : Program} {w : World} {mg : Str → Option Value} {K : PySem.W.Frag} {H : Hp} {Pr : Addr → Prop} {v : V} {a : Addr} {fl : Fls} {C : Addr} (h : Dv (obT P w mg) K H Pr v (objD a c fl)) (hC : mg c = some (.ref C)) : insAt H C v := by
  obtain ⟨C', dx, fs, rfl, hC', g1, g2, g3, g4⟩ := of_obj h
  rw [hC] at hC'
  cases hC'
  exact ⟨a, dx, fs, rfl, g1⟩
/-- what may stand on the right of == -/
def rgtQ (c : Str) (Q : Prop) : D → Prop
  | .tuple _ => Q
  | d => objQ (fun _ c' _ => c' = c ∧ Q) d
def eqOD (c : Str) (F : List D → WD D) (neg : Bool) : D → D → WD D := fun x y Q _ => objQ (fun _ c' _ => c' = c ∧ rgtQ c (F [x, y] (fun d => isB (fun b => Q (.bool (b != neg))) d) (fun _ => False)) y) x
/-- len(o) -/
def lenO (c : Str) (F : List D → WD D) : D → WD D := fun s Q _ => objQ (fun _ c' _ => c' = c ∧ F [s] (fun d => match d with
  | .int n => (0 ≤ n ∧ n < 2 ^ 63) ∧ Q (.int n)
  | _ => False) (fun _ => False)) s
theorem de_lenO (M : CalO (OX X) X.prog X.w X.K X.mg X.base c "__len__" k ps F) {j : Nat} (hr : Room j X.A) (hx : Passes (L2.CX X.prog X.w) X E) (ha : DE (OX X) X E e fo) (hg : Gl X "len") (hm : X.mg "len" = none) (hk : k + 1 ≤ j := by decide) (hl : ps.length = 1 := by rfl) (hv : bootBuiltins "len" = some (.builtin "len") := by decide +kernel)
    (he : starEach [e] X.env = (false, eval e X.env) :: starEach [] X.env := by rfl) : DE (OX X) X E (.Call (.Name "len" p) [e] [] pos) (eUn1 (lenO c F) fo) := by
  obtain ⟨C, f, fd, hC, hc, hM, hb, hF⟩ := M
  obtain ⟨ta, a1, a2⟩ := ha
  refine ⟨_, pe_callB (call_lenO hM hF hb (hr.mono hk) hx) hg hm hv (pa_cons a1 pa_nil he) (by decide) (by decide) he rfl, fun P ρ σ H Qd Ed Q hd hr hf hQ hE => a2 P ρ σ H _ Ed _ hd hr hf (fun v d H1 s1 h1 q1 => ?_) hE⟩
  obtain ⟨a, c', fl, rfl, rfl, q⟩ := q1
  refine ⟨v, rfl, insAt_of h1 hC, P, [_], _, fun _ => False, hd.same s1, .cons h1 .nil, hl.symm, q, fun v d H3 s3 h3 q3 => ?_, fun _ _ _ _ _ z => z.elim⟩
  cases h3 with
  | int n => exact ⟨n, rfl, q3.1, hQ _ _ H3 (s1.trans s3) (.int n) q3.2⟩
  | _ => exact q3.elim
/-- str(o) -/
def strO (c : Str) (F : List D → WD D) : D → WD D := fun s Q _ => objQ (fun _ c' _ => c' = c ∧ F [s] (fun d => match d with
  | .str t => Q (.str t)
  | _ => False) (fun _ => False)) s
/-- isinstance(o, C) -/
def isOD (c : Str) : D → WD D
  | .tuple _ => fun Q _ => Q (.bool false)
  | d => fun Q _ => objQ (fun _ c' _ => c' = c ∧ Q (.bool true)) d
structure CalJ (P : Program) (w : World) (K : PySem.W.Frag) (mg : Str → Option Value) (base : Heap) (c : Str) (k : Nat) (ps : List Str) (G : List D → Sto → WS D) : Prop where
  ex : ∃ (C f : Addr) (fd : FuncData), mg c = some (.ref C) ∧ Mk K C f ∧ Binds K fd ps [] ∧ FnOk P w K mg base (L2.CX P w) k f fd ps (spS (obT P w mg) mg K G ps.length)
abbrev FnJ (K : PySem.W.Frag) (mg : Str → Option Value) (c q : Str) (st : Stmt) : Prop := ∃ (C f : Addr) (fd : FuncData), mg c = some (.ref C) ∧ Mk K C f ∧ FunD K "__init__" q (defArgs st) (defBody st) (defScope st) [] [] f fd
theorem calJ_of {P : Program} {w : World} {K : PySem.W.Frag} {mg : Str → Option Value} {base : Heap} {q : Str} {st : Stmt} {N : List Str} {F : FSS} (h : FnJ K mg c q st) (S : FnScope N ps (defScope st)) (hb : BnO q "__init__" st ps)
    (hbody : ∀ (f : Addr) (cdv : Value) (A : Around) (outer : List PySem.Env) (s : Shared) (H : Hp) (E : XK), Room k (A.deeper (PyProof.Rows.envOfC q (defScope st) s.heap.objs.size f cdv)) → Air (cxOf (L2.CX P w) P w K mg base N q (defScope st) f cdv A outer s H E) E → MSs (cxOf (L2.CX P w) P w K mg base N q (defScope st) f cdv A outer s H E) E (defBody st) F) :
    CalJ P w K mg base c (k + 1) ps (fnS N.length F) := by
  obtain ⟨C, f, fd, hm, hc, hF⟩ := h
  refine ⟨C, f, fd, hm, hc, hF.bindsN hb, ?_⟩
  refine hF.ok S (fun vs H Q E h => ?_) (fun cdv A outer s H vs Q E hr h => ?_)
  · obtain ⟨B, S, w, ds, Qd, Ed, _, h1, h2, _⟩ := h
    rw [h1.length, h2]
  · obtain ⟨B, S, w, ds, Qd, Ed, hd, h1, h2, hf, hQ, hE⟩ := h
    obtain ⟨t, t1, t2⟩ := hbody f cdv A outer s H E hr air_cx
    exact ⟨t, t1, t2 S w H B _ _ S w H _ { nx := fun _ S' => Qd .none S', rt := Qd, ex := Ed } _ hd (start_rgS hd.st h1) hf ⟨fun Γ σ S' w' H' own r q => hQ _ _ S' w' H' r.chg .non q, fun v d S' w' H' c h q => hQ v d S' w' H' c h q, fun _ _ _ _ _ _ _ q => q.elim, fun _ _ _ _ _ _ _ q => q.elim, hE⟩⟩
def noneQ (Q : Prop) : D → Prop
  | .none => Q
  | _ => False
def mMake (c : Str) (G : List D → Sto → WS D) (ga : Rho → Sto → WS (List D)) : Rho → Sto → WS D := fun ρ S Q Ed => ga ρ S (fun ds S1 => ∀ a, S1 a = none → G (idD a :: ds) (stoNew S1 a c) (fun d S2 => noneQ (Q (idD a) S2) d) Ed) Ed
theorem me_make {j : Nat} {G : List D → Sto → WS D} {ga : Rho → Sto → WS (List D)} (M : CalJ X.prog X.w X.K X.mg X.base c k ps G) (hr : Room j X.A) (hx : Passes (L2.CX X.prog X.w) X E) (ha : MA X E (e :: es) ga) (hk : k + 1 ≤ j := by decide) (hl : ps.length = (e :: es).length + 1 := by rfl) (hg : Gl X c := by rfl) (hdb : (c == ("__debug__" : Str)) = false := by decide)
    (he : starEach (e :: es) X.env = (false, eval e X.env) :: starEach es X.env := by rfl) (hpl : (backTo pos (starEach es X.env)).any (·.1) = false := by rfl) :
    ME X E (.Call (.Name c p) (e :: es) [] pos) (mMake c G ga) := by
  obtain ⟨C, f, fd, hm, hMk, hB, hF⟩ := M
  obtain ⟨ta, a1, a2⟩ := ha
  refine ⟨_, pe_make hMk hF (hr.mono hk) hg hm hB (.nil : Vals [] []) hx a1 hdb he hpl, fun B ρ σ S w H Qd Ed Q hd hr hf hQ hE => a2 B ρ σ S w H _ _ _ hd hr hf (fun vs ds S1 w1 H1 c1 h1 l1 q1 => ?_) hE⟩
  intro x dx nx nd ne
  have hd1 := hd.chg c1
  have c2 := Chg.made (c := c) hd1.st hm nx nd ne
  have nS : S1 x = none := by
    cases z : S1 x with
    | none => rfl
    | some k =>
      obtain ⟨o, e, _⟩ := hd1.st.mb (.inl (by rw [z]; exact fun z => nomatch z) : Pst S1 w1 x)
      rw [nx] at e
      cases e
  show spS _ X.mg X.K G ps.length (.ref x :: (vs ++ [])) _ _ E
  rw [List.append_nil]
  refine ⟨B, _, w1, idD x :: ds, _, Ed, hd1.chg c2, .cons dv_id (h1.chg hd1 c2), by rw [hl, ← l1]; rfl, q1 x nS, fun v d S3 w3 H3 c3 h3 q3 => ?_, fun c a S3 w3 H3 c3 m z => hE c a S3 w3 H3 ((c1.trans c2).trans c3) m z⟩
  cases h3 with
  | non => exact ⟨rfl, hQ _ _ S3 w3 H3 ((c1.trans c2).trans c3) dv_id q3⟩
  | _ => exact q3.elim
end
end DL
namespace DL
open PySem PySem.Spec PyProof.Rows L2
section
variable [Nm] {X : Cx} {E : XK} {pos : Pos} {e a b : Expr}
def mSetC (i : Nat) (f : Rho → Sto → WS D) : FSS := fun Γ S k => f (clean Γ) S (fun d S' => k.nx (Γ.set i (some (.val d))) S') k.ex
theorem ms_setC (i : Nat) {x : Str} {pos' : Pos} {f : Rho → Sto → WS D} (hN : X.N.Nodup) (h : ME X E e f) (hi : X.N[i]? = some x := by rfl) (hx : Loc X.env.scope x := by first | exact Or.inl rfl | exact Or.inr rfl) (hs : swapsWith e (some (.Name x pos')) pos.line X.env = pure false := by rfl)
    (hf : X.fn x = true ∨ X.env.scope.names.lookup x = some .local := by first | exact .inl rfl | exact .inr rfl | assumption) : MS X E (.Assign [.Name x pos'] e pos) (mSetC i f) := by
  obtain ⟨t, h1, h2⟩ := h
  exact ⟨_, ps_set (i := i) hN hi hx h1 hs hf, fun S0 w0 H0 P0 Γ σ S w H own k D hd r hf l => h2 (Pw P0 own) _ σ S w H _ _ _ (r.domS hd) r.rs hf (fun v d S' w' H' c h q => l.nx _ _ _ _ _ _ ((r.eff hd c).set h) q) (l.ex.chg r.chg)⟩
def mTgtC (T : Tg) (f : Rho → Sto → WS D) : FSS := fun Γ S k => f (clean Γ) S (fun d S' => orStuck (bindT T d) fun l => k.nx (setV Γ l) S') k.ex
theorem ms_tgtC {tg : Expr} {T : Tg} {f : Rho → Sto → WS D} (h : ME X E e f) (hg : DG (OX X) X tg T) (hs : swapsWithSole [tg] e pos.line X.env = pure false := by rfl) (hw : swappedStores [tg] e X.env = pure none := by rfl) (h1 : (assignEach [tg] X.env).map (·.2) = [assign tg X.env] := by rfl) : MS X E (.Assign [tg] e pos) (mTgtC T f) := by
  obtain ⟨t, a1, a2⟩ := h
  obtain ⟨g, b1, b2⟩ := hg
  refine ⟨_, ps_asg a1 b1 hs hw h1, fun S0 w0 H0 P0 Γ σ S w H own k D hd r hf l => a2 (Pw P0 own) _ σ S w H _ _ _ (r.domS hd) r.rs hf (fun v d S' w' H' c h q => ?_) (l.ex.chg r.chg)⟩
  obtain ⟨lb, e1, q2⟩ := of_orStuck q
  exact b2 _ σ H' v d lb _ h e1 fun a ha => l.nx _ _ _ _ _ _ (RgS.many ha (r.eff hd c)) q2
/-- a new tuple -/
def mTup (f : Rho → Sto → WS (List D)) : Rho → Sto → WS D := fun ρ S Q Ed => f ρ S (fun ds S' => ds.length ≤ 16777216 ∧ Q (.tuple ds) S') Ed
theorem me_tup {es : List Expr} {f : Rho → Sto → WS (List D)} {x1} (h : MA X E es f) : ME X E (.Tuple es x1 pos) (mTup f) := by
  obtain ⟨t, a1, a2⟩ := h
  refine ⟨_, pe_tupF a1, fun B ρ σ S w H Qd Ed Q hd hr hf hQ hE => a2 B ρ σ S w H _ _ _ hd hr hf (fun vs ds S' w' H' c h _ q => ⟨?_, fun p o n no => ?_⟩) hE⟩
  · rw [h.length]
    exact size_eq ▸ q.1
  · have s : Same H' (upd H' p (.frz o (.tup vs))) := same_new n
    exact hQ _ _ S' w' _ (c.same s) (.tup (.inl ⟨o, no, upd_same⟩) (h.same s)) q.2
/-- x, y = a, b -/
def mPar (i j : Nat) (f : Rho → Sto → WS (List D)) : FSS := fun Γ S k => f (clean Γ) S (fun ds S' => match ds with
  | [d, e] => k.nx ((Γ.set i (some (.val d))).set j (some (.val e))) S'
  | _ => False) k.ex
/-- e[i], e with effects -/
theorem me_idx1 {f : Rho → Sto → WS D} {g : D → D → WD D} {r : R2} {fb : Rho → WD D} (hr : IxR X r) (hg : OpD (OX X) X r g) (ha : ME X E a f) (hb : DE (OX X) X E b fb) (hs : PlainIx b) : ME X E (.Subscript a b pos) (mOp g f (mC fb)) := by
  obtain ⟨ta, a1, a2⟩ := ha
  obtain ⟨tb, b1, b2⟩ := me_cl hb
  exact ⟨_, pe_ix hr a1 b1 hs, opM hg a2 b2⟩
def unrD : D → D
  | .dict [(.none, .list [.int i, .str _, .list _])] => .dict [(.none, .list [.int i])]
  | d => d
def okE : Option Ent → Prop
  | none => True
  | some (.val (.dict [(.none, .list [.int _, .str _, .list _])])) => True
  | some (.val d) => pureI d
  | some (.own (.lst xs)) => pureD.pureAll xs = true
  | _ => False
def rsvE (S : Sto) : Option Ent → Option Ent
  | some (.val d) => some (.val (rsvD S d))
  | o => o
def unrE : Option Ent → Option Ent
  | some (.val d) => some (.val (unrD d))
  | o => o
def sRd (F : FS) : FSS := fun Γ S k => F (Γ.map (rsvE S)) { nx := fun Γ' => (∀ o ∈ Γ', okE o) ∧ k.nx (Γ'.map unrE) S, rt := fun d => pureD d = true ∧ k.rt d S, bk := fun Γ' => (∀ o ∈ Γ', okE o) ∧ k.bk (Γ'.map unrE) S, ct := fun Γ' => (∀ o ∈ Γ', okE o) ∧ k.ct (Γ'.map unrE) S, ex := fun c => k.ex c S }
theorem clean_rsv (S : Sto) (Γ : Env) : clean (Γ.map (rsvE S)) = rsv S (clean Γ) := by
  unfold clean rsv
  rw [List.map_map, List.map_map]
  refine List.map_congr_left fun o _ => ?_
  rcases o with _ | (d | c) <;> rfl
theorem unr_dv {P : Program} {wd : World} {mg : Str → Option Value} {K : PySem.W.Frag} {H : Hp} {Pr Pr' : Addr → Prop} {v : V} {d : D} (h : Dv (obT P wd mg) K H Pr v d) (q : okE (some (.val d))) : Dv (obT P wd mg) K H Pr' v (unrD d) := by
  unfold unrD
  split
  · rename_i i c fe
    obtain ⟨a, C, dx, fl, fs, rfl, rfl, _⟩ : objIs mg K H Pr v i c fe := of_ob1 h rfl
    exact dv_id
  · rename_i n
    have q : pureI d := by
      unfold okE at q
      split at q
      · trivial
      · rename_i e
        injection e with e
        injection e with e
        subst e
        exact absurd rfl (n _ _ _)
      · rename_i e
        injection e with e
        injection e with e
        subst e
        exact q
      · rename_i e
        injection e with e
        cases e
      · exact q.elim
    exact h.pureI q
theorem RgS.rd {S0 S : Sto} {w0 w : Owr} {H0 H : Hp} {P0 : Addr → Prop} {Γ : DL.Env} {σ : L2.St} {own : Nat → Option Addr} (r : RgS (OX X) X.mg X.K S0 w0 H0 P0 Γ σ S w H own) (hd : DomS X.mg X.K P0 S0 w0 H0) : Rg (OX X) X.K (froz own H) P0 (Γ.map (rsvE S)) σ H own := by
  refine ⟨.of fun a o e => (of_froz e).1, r.inj, fun i a e => ⟨fun o q => absurd ⟨i, e⟩ (of_froz q).2, r.mb i a e⟩, ?_, fun i c e => ?_⟩
  · rw [clean_rsv]
    exact r.rs.rsv (r.domS hd)
  · rw [List.getElem?_map] at e
    cases q : Γ[i]? with
    | none =>
      rw [q] at e
      cases e
    | some o =>
      rw [q] at e
      rcases o with _ | (d | c')
      · cases e
      · cases e
      · cases e
        obtain ⟨p, e1, e2, e3⟩ := r.ow i c q
        exact ⟨p, e1, e2, e3.less fun a z => .inl z⟩
theorem RgS.ofRd {S0 S : Sto} {w0 w : Owr} {H0 H H' : Hp} {P0 : Addr → Prop} {Γ Γ' : DL.Env} {σ σ' : L2.St} {own own' : Nat → Option Addr} (r : RgS (OX X) X.mg X.K S0 w0 H0 P0 Γ σ S w H own) (r' : Rg (OX X) X.K (froz own H) P0 Γ' σ' H' own') (ok : ∀ o ∈ Γ', okE o) : RgS (OX X) X.mg X.K S0 w0 H0 P0 (Γ'.map unrE) σ' S w H' own' := by
  refine ⟨r.chgF r'.same, r'.inj, fun i a e => ?_, ⟨by rw [r'.rs.len]; simp [clean], fun i d e => ?_⟩, fun i c e => ?_⟩
  · obtain ⟨f1, f2⟩ := r'.fresh i a e
    rcases froz_none f1 with ⟨j, q⟩ | q
    · exact ⟨(r.fresh j a q).1, (r.fresh j a q).2.1, f2⟩
    · have np : ¬ Pst S w a := fun p => by
        obtain ⟨o, e1, m⟩ := r.chg.st.mb p
        exact no_mb m (q o e1)
      exact ⟨r.chg.nn q fun p => np (r.chg.old a p), np, f2⟩
  · unfold clean at e
    rw [List.getElem?_map, List.getElem?_map] at e
    cases q : Γ'[i]? with
    | none =>
      rw [q] at e
      cases e
    | some o =>
      rw [q] at e
      rcases o with _ | (d' | c')
      · cases e
      · cases e
        obtain ⟨v, e1, h1⟩ := r'.rs.get i d' (by unfold clean; rw [List.getElem?_map, q]; rfl)
        exact ⟨v, e1, unr_dv h1 (ok _ (List.mem_of_getElem? q))⟩
      · cases e
  · rw [List.getElem?_map] at e
    cases q : Γ'[i]? with
    | none =>
      rw [q] at e
      cases e
    | some o =>
      rw [q] at e
      rcases o with _ | (d' | c')
      · cases e
      · cases e
      · cases e
        obtain ⟨p, e1, e2, e3⟩ := r'.ow i c q
        have k := ok _ (List.mem_of_getElem? q)
        cases c with
        | lst xs =>
          obtain ⟨vs, h1, h2⟩ := e3
          exact ⟨p, e1, e2, vs, h1, h2.pure k⟩
        | _ => exact k.elim
theorem RgS.domR {S0 S : Sto} {w0 w : Owr} {H0 H : Hp} {P0 : Addr → Prop} {Γ : DL.Env} {σ : L2.St} {own : Nat → Option Addr} (r : RgS (OX X) X.mg X.K S0 w0 H0 P0 Γ σ S w H own) (hd : DomS X.mg X.K P0 S0 w0 H0) : Dom (froz own H) P0 := by
  have h := r.domF hd
  exact ⟨fun a z => h.has a (.inl z), h.tab⟩
theorem ms_rd {st : Stmt} {F : FS} (h : DS (OX X) X E st F) : MS X E st (sRd F) := by
  obtain ⟨t, h1, h2⟩ := h
  exact ⟨t, h1, fun S0 w0 H0 P0 Γ σ S w H own k D hd r hf l => h2 _ P0 _ σ H own _ D (r.domR hd) (r.rd hd) hf
    ⟨fun Γ' σ' H' own' r' q => l.nx _ _ S w H' own' (r.ofRd r' q.1) q.2, fun v d H' s h q => l.rt v d S w H' (r.chgF s) (h.pure q.1) q.2, fun Γ' σ' H' own' r' q => l.bk _ _ S w H' own' (r.ofRd r' q.1) q.2, fun Γ' σ' H' own' r' q => l.ct _ _ S w H' own' (r.ofRd r' q.1) q.2, fun c a H' s m z => l.ex c a S w H' (r.chgF s) m z⟩⟩
end
section
variable [Nm] {X : Cx} {E : XK} {c x : Str} {k : Nat} {ps ks : List Str} {G : List D → Sto → WS D} {o : Expr} {kws : List Keyword} {fo : Rho → WD D} {fk : Rho → WD (List D)} {apos pos : Pos}
def mMethK (c : Str) (G : List D → Sto → WS D) (fo : Rho → WD D) (fk : Rho → WD (List D)) : Rho → Sto → WS D := fun ρ S Q Ed => fo ρ (idQ fun a => atC S a c ∧ fk ρ (fun ds => G (idD a :: ds) S Q Ed) (fun x => Ed x S)) (fun x => Ed x S)
end
section
variable [Nm]
def tME (P : Program) (wd : World) (mg : Str → Option Value) (K : PySem.W.Frag) (E : XK) (f : Rho → Sto → WS D) : TE := fun σ H Q => ∃ (B : Addr → Prop) (ρ : Rho) (S : Sto) (w : Owr) (Qd : D → Sto → Prop) (Ed : Str → Sto → Prop), DomS mg K B S w H ∧ Rs (obT P wd mg) K (PB B S w) ρ σ H ∧ f ρ S Qd Ed ∧
  (∀ v d S' w' H', Chg mg K S w H S' w' H' → Dv (obT P wd mg) K H' (PB B S' w') v d → Qd d S' → Q v H') ∧ ∀ c a S' w' H', Chg mg K S w H S' w' H' → mg c = some (.ref a) → Ed c S' → E (.ref a) none H'
theorem ME.pe {X : Cx} {E : XK} {e : Expr} {f : Rho → Sto → WS D} (h : ME X E e f) : PE X e (tME X.prog X.w X.mg X.K E f) := by
  obtain ⟨t, h1, h2⟩ := h
  exact ⟨fun pins s σ H Q I ⟨B, ρ, S, w, Qd, Ed, a, b, c, d, e⟩ => h1.run pins s σ H Q I (h2 B ρ σ S w H Qd Ed Q a b c d e)⟩
def TTrS (O : Ob) (mg : Str → Option Value) (K : PySem.W.Frag) : (XK → Hp → VK → Prop) → Hp → VK → Prop := fun tl H Q => ∃ (B : Addr → Prop) (S : Sto) (w : Owr) (Qd : D → Sto → Prop), DomS mg K B S w H ∧ (∀ v d S' w' H', Chg mg K S w H S' w' H' → Dv O K H' (PB B S' w') v d → Qd d S' → Q v H') ∧ ∀ (H' : Hp) (E' : XK) (Q' : VK), Same H H' →
  (∀ v H2 S2 w2 d, Chg mg K S w H' S2 w2 H2 → Dv O K H2 (PB B S2 w2) v d → Qd (.tuple [.str "returns", d]) S2 → Q' v H2) → (∀ n u C H2 S2 w2, Chg mg K S w H' S2 w2 H2 → mg n = some (.ref C) → resW n = some u → Qd (.tuple [.str u]) S2 → E' (.ref C) none H2) → tl E' H' Q'
theorem give_resS {X : Cx} {P : Program} {w : World} {N : List Str} {sc : Scope} {g : Addr} {cdg : Value} {q : Str} {s0 : Stmt} {rest : List Stmt} {G : FS} {ic ia ie : Nat} {pa p1 p2 p3 np pb pe p4 p5 p6 : Pos}
    (A : XcA X.K X.mg) (hge : sc.names.lookup ("SlotError" : Str) = some .globalImplicit) (nd : N.Nodup) (n0 : N[0]? = some ("call" : Str)) (nc : N[ic]? = some ("caught" : Str)) (na : N[ia]? = some ("answer" : Str)) (ne : N[ie]? = some ("e" : Str))
    (lc : sc.names.lookup ("caught" : Str) = some .local) (la : sc.names.lookup ("answer" : Str) = some .local) (le : sc.names.lookup ("e" : Str) = some .local) (i1 : 0 < ic) (i2 : ic < ia) (i3 : ic ≠ ie)
    (hs0 : ∀ s H, PS (cxOf C8.CX0 X.prog X.w X.K X.mg X.base N "_law_result" sc g cdg X.A X.stack s H C8.E0).nox s0 (tTwoN X.K ic ia))
    (hr : ∀ s H, DSs (obT P w X.mg) (cxOf C8.CX0 X.prog X.w X.K X.mg X.base N "_law_result" sc g cdg X.A X.stack s H C8.E0).nox E0 rest G)
    (hG0 : ∀ d (k : KS), k.rt (.tuple [.str "returns", d]) → G (((noneG N.length).set ic (some (.val .none))).set ia (some (.val d))) k)
    (hG1 : ∀ n w (k : KS), resW n = some w → k.rt (.tuple [.str w]) → G ((noneG N.length).set ic (some (.val (excD n)))) k) :
    LamX.GivesTo X N "_law_result" sc g cdg (s0 :: .Try [.Assign [.Name "answer" pa] (.Call (.Name "call" p1) [] [] p2) p3] [.ExceptHandler (some (.Name "SlotError" np)) (some "e") [.Assign [.Name "caught" pb] (.Name "e" pe) p4] p5] [] [] p6 :: rest) "call" q (TTrS (obT P w X.mg) X.mg X.K) := by
  intro f c' s H Q tl act hc ⟨B, S0, w0, Qd, hd, hQ, htl⟩
  obtain ⟨S, hS, hSub⟩ := A.slot
  obtain ⟨r0, r1, r2⟩ := hr s H
  have lic : ic < N.length := (List.getElem?_eq_some_iff.mp nc).1
  have lia : ia < N.length := (List.getElem?_eq_some_iff.mp na).1
  have lie : ie < N.length := (List.getElem?_eq_some_iff.mp ne).1
  have l0 : 0 < N.length := (List.getElem?_eq_some_iff.mp n0).1
  refine ⟨_, pss_cons (hs0 s H) (pss_cons (ps_try_keep (i := ie) (c := .ref S) (W0 := fun _ _ _ _ => False)
      (tb := fun W D σ H => ∃ Ech : XK, (∀ cls d σ' H', Ech cls d H' → W cls d σ' H') ∧ σ[0]? = some (some (.ref f)) ∧ H c' = some (LamX.CodeO c' q) ∧ tl Ech H (fun v H' => D.nx (σ.set ia (some v)) H'))
      (ts := fun a cls d D σ H => ∃ v, σ[ie]? = some (some v) ∧ D.nx (σ.set ic (some v)) H)
      rfl rfl rfl nd ne le ⟨hge, by decide, .inl hS⟩ takes0 (fun W pn xe tk _ => ?_) (fun a cls d pn => ?_)) r1), ?_⟩
  · refine ⟨fun pins s' σ H' D I h' => ?_⟩
    obtain ⟨Ech, hW, h1, h2, h3⟩ := h'
    have hp := act W pn xe Ech p1 p2 tk hW
    have hq := pss_one (ps_set (i := ia) (pos := p3) (pos' := pa) nd na (.inl la) hp rfl (.inl rfl))
    exact hq.run pins s' σ H' D I ⟨h1, h2, h3⟩
  · exact pss_one (ps_set (i := ic) nd nc (.inl lc) (pe_var (i := ie) ne (.inl le) (by decide) (by decide)) rfl (.inl rfl))
  · have lst : (L2.start N [V.ref f]).length = N.length := by simp [L2.start]; omega
    have e0 : (L2.start N [V.ref f])[0]? = some (some (.ref f)) := rfl
    generalize L2.start N [V.ref f] = σ0 at lst e0
    refine ⟨show 2 ≤ sizeLine from size_eq ▸ (by decide : 2 ≤ 16777216), fun p o np no => ?_⟩
    have s1 : Same H (upd H p (.frz o (.tup [.non, .non]))) := same_new np
    have sq : TqT X.K (upd H p (.frz o (.tup [.non, .non]))) p [.non, .non] := .inl ⟨o, no, upd_same⟩
    have hc1 : (upd H p (.frz o (.tup [.non, .non]))) c' = some (LamX.CodeO c' q) := s1.all _ _ hc no_code
    have tl1 := fun E' Q' => htl _ E' Q' s1
    generalize upd H p (.frz o (.tup [.non, .non])) = H1 at s1 sq hc1 tl1
    have c01 : Chg X.mg X.K S0 w0 H S0 w0 H1 := .of hd.st s1
    refine ⟨p, _, rfl, sq.sq, rfl, _, _, rfl, _, _, rfl, rfl, ?_⟩
    have lk : ∀ S2 w2 H2, Chg X.mg X.K S0 w0 H S2 w2 H2 → Lk (obT P w X.mg) (cxOf C8.CX0 X.prog X.w X.K X.mg X.base N "_law_result" sc g cdg X.A X.stack s H C8.E0).nox E0 H2 (PB B S2 w2) { nx := fun _ => False, rt := fun d => Qd d S2 } { nx := fun _ H' => Q .non H', rt := Q } := fun S2 w2 H2 c =>
      ⟨fun _ _ _ _ _ z => z.elim, fun v d H' s h q => hQ v d S2 w2 H' (c.same s) h q, fun _ _ _ _ _ z => z.elim, fun _ _ _ _ _ z => z.elim, fun _ _ _ _ _ z => z.elim⟩
    refine ⟨fun cls d H2 => ∃ n u C S2 w2, cls = .ref C ∧ d = none ∧ Chg X.mg X.K S0 w0 H1 S2 w2 H2 ∧ X.mg n = some (.ref C) ∧ resW n = some u ∧ Qd (.tuple [.str u]) S2, fun cls d σ' H2 h hl => ?_, ?_, hc1, tl1 _ _ (fun v H2 S2 w2 d c2 hv q => ?_) fun n u C H2 S2 w2 c2 hm hn q => ⟨n, u, C, S2, w2, rfl, rfl, c2, hm, hn, q⟩⟩
    · obtain ⟨n, u, C, S2, w2, rfl, rfl, c2, hm, hn, q⟩ := h
      have hl' : σ'.length = N.length := hl
      refine ⟨true, hSub n u C hn hm, fun z => (nomatch z), fun _ a na => ⟨.ref a, by rw [List.getElem?_set_self (by omega)], ?_⟩⟩
      have s3 : Same H2 (upd H2 a (ExcO a (.ref C) none)) := same_new na
      have c02 := c01.trans c2
      have c3 : Chg X.mg X.K S0 w0 H S2 w2 (upd H2 a (ExcO a (.ref C) none)) := c02.same s3
      have rg := noneG_rg (O := obT P w X.mg) (K := X.K) (P := PB B S2 w2) (σ := ((σ'.set ie (some (.ref a))).set ic (some (.ref a))).set ie none) (Same.refl (upd H2 a (ExcO a (.ref C) none)))
      have rg2 := rg.set (i := ic) (v := .ref a) (d := excD n) (dv_exc ⟨a, C, rfl, hm, upd_same, fun z => by
        rcases z with z | ⟨_, z⟩
        · exact (hd.chg c02).dom.new (nn na) z
        · cases z⟩)
      have el : (((σ'.set ie (some (V.ref a))).set ic (some (.ref a))).set ie none).length = N.length := by simp [hl']
      have es : (((σ'.set ie (some (V.ref a))).set ic (some (.ref a))).set ie none).set ic (some (.ref a)) = ((σ'.set ie (some (.ref a))).set ic (some (.ref a))).set ie none := by
        refine List.ext_getElem? fun m => ?_
        by_cases hm : ic = m
        · subst hm
          rw [List.getElem?_set_self (by simp; omega), List.getElem?_set_ne (Ne.symm i3), List.getElem?_set_self (by simp; omega)]
        · rw [List.getElem?_set_ne hm]
      rw [el, es] at rg2
      exact r2 _ (PB B S2 w2) _ _ _ _ _ _ (hd.chg c3).dom rg2 (hG1 n u _ hn q) (lk S2 w2 _ c3)
    · rw [List.getElem?_set_ne (by omega), List.getElem?_set_ne (by omega)]
      exact e0
    · have c02 := c01.trans c2
      have rg := noneG_rg (O := obT P w X.mg) (K := X.K) (P := PB B S2 w2) (σ := ((σ0.set ic (some .non)).set ia (some .non)).set ia (some v)) (Same.refl H2)
      have rg2 := (rg.set (i := ic) (v := .non) (d := .none) .non).set (i := ia) (v := v) (d := d) (hv.less fun a z => z.elim id fun ⟨_, z⟩ => nomatch z)
      have el : (((σ0.set ic (some V.non)).set ia (some .non)).set ia (some v)).length = N.length := by simp [lst]
      have es : ((((σ0.set ic (some V.non)).set ia (some .non)).set ia (some v)).set ic (some .non)).set ia (some v) = ((σ0.set ic (some .non)).set ia (some .non)).set ia (some v) := by
        refine List.ext_getElem? fun m => ?_
        by_cases h1 : ia = m
        · subst h1
          rw [List.getElem?_set_self (by simp; omega), List.getElem?_set_self (by simp; omega)]
        · rw [List.getElem?_set_ne h1]
          by_cases h2 : ic = m
          · subst h2
            rw [List.getElem?_set_self (by simp; omega), List.getElem?_set_ne h1, List.getElem?_set_ne h1, List.getElem?_set_self (by omega)]
          · rw [List.getElem?_set_ne h2]
      rw [el, es] at rg2
      exact r2 H2 (PB B S2 w2) _ _ _ _ _ _ (hd.chg c02).dom rg2 (hG0 d _ q) (lk S2 w2 H2 c02)
/-- what is known of _law_result's text -/
structure ResOkS (P : Program) (w : World) (K : PySem.W.Frag) (mg : Str → Option Value) (base : Heap) (st : Stmt) (Ng : List Str) : Prop where
  fn : FnT K mg "_law_result" st
  sc : FnScope Ng ["call"] (defScope st)
  bn : Bn "_law_result" st ["call"]
  n0 : Ng[0]? = some ("call" : Str)
  vis : Vis (defScope st) "call"
  give : ∀ (X : Cx) (k : Nat) (q : Str) (g : Addr) (cdg : Value), X.prog = P → X.w = w → X.K = K → X.mg = mg → X.base = base → Room (k + 2) X.A → LamX.GivesTo X Ng "_law_result" (defScope st) g cdg (defBody st) "call" q (TTrS (obT P w mg) mg K)
def mRes (f : Rho → Sto → WS D) : Rho → Sto → WS D := fun ρ S Q Ed => f ρ S (fun d S' => Q (.tuple [.str "returns", d]) S') (fun c S' => ∃ u, resW c = some u ∧ Q (.tuple [.str u]) S')
theorem me_res {X : Cx} {E : XK} {st : Stmt} {Ng : List Str} {k j : Nat} {x : Str} {params : Arguments} {body : Expr} {scope : Scope} {f : Rho → Sto → WS D} {p lpos pos : Pos} (R : ResOkS X.prog X.w X.K X.mg X.base st Ng) (tc : TabC X.mg X.base x X.env.code) (hr : Room j X.A)
    (hbody : ∀ (A : Around) (outer : List PySem.Env) (s : Shared) (H : Hp) (E : XK) (f' c' : Addr), Room k (A.deeper (LamX.lamEnv X scope s.heap.objs.size f' c')) → Air (LamX.lamCx X A outer s H E scope f' c') E → ME (LamX.lamCx X A outer s H E scope f' c') E body f)
    (hk : k + 2 ≤ j := by decide) (hq : X.env.qual = x ++ ".<locals>." := by rfl) (hg : Gl X "_law_result" := by rfl) (L : LamX.LamS X.env.scope scope := by exact LamX.lamS_by (by kernel_rfl)) (hdef : defaultsOf params X.env = ([], []) := by rfl)
    (hbind : ∀ (q : Str) (cl : List (Str × Addr)) (pm cv ctv : Value), bindArgs (PySem.W.kla_fn "<lambda>" q params body scope cl pm cv ctv) ⟨[], []⟩ = pure [] := by exact fun _ _ _ _ _ => rfl) :
    ME X E (.Call (.Name "_law_result" p) [.Lambda params body scope lpos] [] pos) (mRes f) := by
  obtain ⟨c, Q1, hc, TB, hin⟩ := tc
  obtain ⟨g, fd, hm, hF⟩ := R.fn
  have hb := hF.bindsN R.bn
  have hkp := hF.kp
  obtain ⟨oc, od, dV, kV, doc, pm, an, cdv, ct, osl, rfl, lk, hcd, _, _⟩ := hF.ex
  have hG := R.give X k (X.env.qual ++ "<lambda>") g cdv rfl rfl rfl rfl rfl (hr.mono hk)
  have hin' : (Q1, X.env.qual ++ "<lambda>") ∈ Nm.tabs := by
    rw [hq]
    exact hin
  refine ⟨_, LamX.pe_lamcall (T := Nm.tabs) (t := fun E => tME X.prog X.w X.mg X.K E f) hg hm hkp lk hcd hb R.sc R.n0 R.vis hG TB hc hin' (fun p hp e => Nm.uniq p hp _ hin' e) (hr.mono hk) L hdef hbind (fun A outer s H E f' c' hr' => (hbody A outer s H E f' c' hr' air_lam).pe),
    fun B ρ σ S w H Qd Ed Q hd hr hf hQ hE => ⟨hd.tab, fun H1 e1 t1 => ?_⟩⟩
  have s1 : Same H H1 := .ext e1 t1
  have c1 : Chg X.mg X.K S w H S w H1 := .of hd.st s1
  refine ⟨B, S, w, Qd, hd.chg c1, fun v d S2 w2 H2 c2 h q => hQ v d S2 w2 H2 (c1.trans c2) h q, fun H' E' Q' s2 h1 h2 => ?_⟩
  have c2 := c1.same s2
  exact ⟨B, ρ, S, w, _, _, hd.chg c2, hr.chg hd c2, hf, fun v d S3 w3 H3 c3 h q => h1 v H3 S3 w3 d c3 h q, fun c a S3 w3 H3 c3 m ⟨u, e, q⟩ => h2 c u a H3 S3 w3 c3 m e q⟩
theorem fnS_no {n : Nat} {F : FSS} {ds : List D} {S : Sto} (h : fnS n F ds S (fun d _ => d = .bool true) (fun _ _ => False)) : F (startE n ds) S { nx := fun _ _ => False, rt := fun d _ => d = .bool true, ex := fun _ _ => False } := by
  have e : (fun (_ : DL.Env) (_ : Sto) => (PyData.none = PyData.bool true)) = fun _ _ => False := by
    funext _ _
    exact propext (Iff.intro (fun z => by cases z) (fun z => False.elim z))
  have h' : F (startE n ds) S { nx := fun _ _ => PyData.none = PyData.bool true, rt := fun d _ => d = .bool true, ex := fun _ _ => False } := h
  rw [e] at h'
  exact h'
def noS : Sto := fun _ => none
theorem law_fnS {P : Program} {w : World} {K : PySem.W.Frag} {mg : Str → Option Value} {base : Heap} {x : Str} {st : Stmt} {N : List Str} {y : Str} {k : Nat} {F : FSS} {f : Addr} {fd : FuncData} (hm : mg x = some (.ref f)) (hF : FunD K x x (defArgs st) (defBody st) (defScope st) [] [] f fd) (S : FnScope N [y] (defScope st))
    (hbody : ∀ (cdv : Value) (A : Around) (outer : List PySem.Env) (s : Shared) (H : Hp) (E : XK), Room k (A.deeper (PyProof.Rows.envOfC x (defScope st) s.heap.objs.size f cdv)) → (TabF K mg base x → TabC mg base x cdv) → Air (cxOf (L2.CX P w) P w K mg base N x (defScope st) f cdv A outer s H E).nox E0 → MSs (cxOf (L2.CX P w) P w K mg base N x (defScope st) f cdv A outer s H E).nox E0 (defBody st) F)
    (hl : fnS N.length F [sD] noS (fun d _ => d = .bool true) (fun _ _ => False)) : FnOk P w K mg base (L2.CX P w) (k + 1) f fd [y] (spLaw K) := by
  refine okC hF S (fun vs H Q E h => ?_) (fun oc od osl cdv A outer s H vs Q E lk ec hr h => ?_)
  · obtain ⟨a, ns, rfl, _⟩ := h
    rfl
  · obtain ⟨a, ns, rfl, l, hs, ht, hQ⟩ := h
    obtain ⟨t, t1, t2⟩ := hbody cdv A outer s H E hr (fun tb => let ⟨c, Q1, e1, tB, m1⟩ := tb f oc od fd osl hm lk; ⟨c, Q1, ec.symm.trans e1, tB, m1⟩) Air.nox
    refine ⟨_, pss_see (PSs.nox t1), a, _, hs, fun H' q z => ?_⟩
    have ht' : TabOk H' := by
      rcases z with z | ⟨o, ys, e, z⟩
      · rw [z]
        exact ht
      · rw [z]
        exact ht.upd e mb_lst
    have hd : DomS mg K (fun _ => False) noS (fun _ => none) H' := ⟨⟨fun _ _ e => (nomatch e), fun _ e => absurd rfl e⟩, fun _ z => z.elim, ht', fun _ z => z.elim⟩
    have h1 : DvAll (obT P w mg) K H' (PB (fun _ => False) noS (fun _ => none)) [.ref a] [sD] := .cons (dv_script ⟨a, ns, rfl, q, l⟩) .nil
    refine t2 noS (fun _ => none) H' (fun _ => False) _ _ noS (fun _ => none) H' _ { nx := fun _ _ => False, rt := fun d _ => d = .bool true, ex := fun _ _ => False } _ hd (start_rgS hd.st h1) (fnS_no hl) ⟨fun _ _ _ _ _ _ _ q => q.elim, fun v d S' w' H' c h q => ?_, fun _ _ _ _ _ _ _ q => q.elim, fun _ _ _ _ _ _ _ q => q.elim, fun _ _ _ _ _ _ _ z => z.elim⟩
    subst q
    cases h
    exact hQ H'
end
end DL
namespace DL
open PySem PySem.Spec PyProof.Rows L2
def ocL : List Str := ["way", "tables", "past", "future", "ways", "sight", "left_along", "noted"]
def ocB (K : PySem.W.Frag) (x : Str) : Bool := (ocL.all fun f => decide (PySem.W.findIn K (.ref (He.ga K x)) f = some none)) && (decide (PySem.W.findIn K (.ref (He.ga K x)) "__class__" = some (some (.builtin "object.__class__"))) && (decide (PySem.W.specialIn K (.builtin "object.__class__") "__get__" = some (some (.builtin "getset_descriptor.__get__"))) && (decide (PySem.W.takesIn K (.builtin "object.__class__") = some true) && (decide (PySem.W.mroIn K (He.ga K x) (.type "object") = some true)
  && (decide (PySem.W.findIn K (.ref (He.ga K x)) "__ne__" = some (some (.builtin "object.__ne__"))) && (decide (PySem.W.kitOne K (.ref (He.ga K x)) (.ref (He.ga K x)) = some true) && (decide (PySem.W.kitOne K (.type "tuple") (.ref (He.ga K x)) = some false) && (PySem.W.notFirst K (He.ga K x) (.ref (He.ga K x)) && PySem.W.notFirst K (He.ga K x) (.type "tuple")))))))))
theorem ocB_ok {K : PySem.W.Frag} {mg : Str → Option Value} {x : Str} (h : ocB K x = true) (c : Cls K (He.ga K x)) (m : mg x = some (.ref (He.ga K x))) : OcT K mg x := by
  unfold ocB at h
  simp only [Bool.and_eq_true, decide_eq_true_eq, List.all_eq_true] at h
  obtain ⟨h0, h1, h2, h3, h4, h5, h6, h7, h8, h9⟩ := h
  exact ⟨_, m, ⟨c, fun f hf => h0 f hf, h1, h2, h3, h4, h5, h6, h7, h8, h9⟩⟩
section
variable (Γ : DL.Env) (S : Sto) (k : KSS) (ρ : Rho) (Q : D → Sto → Prop) (Ed : Str → Sto → Prop)
theorem mSeq_r (F G : FSS) : mSeq F G Γ S k = F Γ S { k with nx := fun Γ' S' => G Γ' S' k } := propext Iff.rfl
theorem mNext_r : mNext Γ S k = k.nx Γ S := propext Iff.rfl
theorem sC_r (F : FS) : sC F Γ S k = F Γ { nx := fun Γ => k.nx Γ S, rt := fun d => k.rt d S, bk := fun Γ => k.bk Γ S, ct := fun Γ => k.ct Γ S, ex := fun c => k.ex c S } := propext Iff.rfl
theorem sRd_r (F : FS) : sRd F Γ S k = F (Γ.map (rsvE S)) { nx := fun Γ' => (∀ o ∈ Γ', okE o) ∧ k.nx (Γ'.map unrE) S, rt := fun d => pureD d = true ∧ k.rt d S, bk := fun Γ' => (∀ o ∈ Γ', okE o) ∧ k.bk (Γ'.map unrE) S, ct := fun Γ' => (∀ o ∈ Γ', okE o) ∧ k.ct (Γ'.map unrE) S, ex := fun c => k.ex c S } := propext Iff.rfl
theorem mRet_r (f : Rho → Sto → WS D) : mRet f Γ S k = f (full Γ) S k.rt k.ex := propext Iff.rfl
theorem mDrop_r (f : Rho → Sto → WS D) : mDrop f Γ S k = f (full Γ) S (fun _ S' => k.nx Γ S') k.ex := propext Iff.rfl
theorem mIf_r (c : Rho → Sto → WS Bool) (F G : FSS) : mIf c F G Γ S k = c (full Γ) S (fun b S' => if b = true then F Γ S' k else G Γ S' k) k.ex := propext Iff.rfl
theorem mSet_r (i : Nat) (f : Rho → Sto → WS D) : mSet i f Γ S k = f (full Γ) S (fun d S' => pureI d ∧ k.nx (Γ.set i (some (.val d))) S') k.ex := propext Iff.rfl
theorem mSetC_r (i : Nat) (f : Rho → Sto → WS D) : mSetC i f Γ S k = f (clean Γ) S (fun d S' => k.nx (Γ.set i (some (.val d))) S') k.ex := propext Iff.rfl
theorem mTgt_r (T : Tg) (f : Rho → Sto → WS D) : mTgt T f Γ S k = f (full Γ) S (fun d S' => pureD d = true ∧ orStuck (bindT T d) fun l => k.nx (setV Γ l) S') k.ex := propext Iff.rfl
theorem mTgtC_r (T : Tg) (f : Rho → Sto → WS D) : mTgtC T f Γ S k = f (clean Γ) S (fun d S' => orStuck (bindT T d) fun l => k.nx (setV Γ l) S') k.ex := propext Iff.rfl
def mParK (Γ : DL.Env) (i j : Nat) (k : KSS) (S' : Sto) : List D → Prop
  | [d, e] => k.nx ((Γ.set i (some (.val d))).set j (some (.val e))) S'
  | _ => False
theorem mParK_2 (i j : Nat) (d e : D) : mParK Γ i j k S [d, e] = k.nx ((Γ.set i (some (.val d))).set j (some (.val e))) S := rfl
theorem mPar_k (i j : Nat) (f : Rho → Sto → WS (List D)) : mPar i j f Γ S k = f (clean Γ) S (fun ds S' => mParK Γ i j k S' ds) k.ex := by
  unfold mPar
  congr 1
theorem mFor_r (fi : Rho → WD (List D)) (T : Tg) (F : FSS) : mFor fi T F Γ S k = fi (clean Γ) (fun xs => mForL T F k xs Γ S) (fun c => k.ex c S) := propext Iff.rfl
theorem mC_r (f : Rho → WD D) : mC f ρ S Q Ed = f ρ (fun d => Q d S) (fun c => Ed c S) := propext Iff.rfl
theorem mR_r (f : Rho → WD D) : mR f ρ S Q Ed = f (rsv S ρ) (fun d => pureD d = true ∧ Q d S) (fun c => Ed c S) := propext Iff.rfl
theorem tR_r (f : Rho → WD Bool) (Qb : Bool → Sto → Prop) : tR f ρ S Qb Ed = f (rsv S ρ) (fun b => Qb b S) (fun c => Ed c S) := propext Iff.rfl
theorem mOp_r (g : D → D → WD D) (fa fb : Rho → Sto → WS D) : mOp g fa fb ρ S Q Ed = fa ρ S (fun x S1 => fb ρ S1 (fun y S2 => g (rsvD S2 x) (rsvD S2 y) (fun d => pureD d = true ∧ Q d S2) (fun c => Ed c S2)) Ed) Ed := propext Iff.rfl
theorem mB1_r (f : Rho → Sto → WS D) (Qb : Bool → Sto → Prop) : mB1 f ρ S Qb Ed = f ρ S (fun d S' => isB (fun b => Qb b S') d) Ed := propext Iff.rfl
theorem mAndT_r (f g : Rho → Sto → WS Bool) (Qb : Bool → Sto → Prop) : mAndT f g ρ S Qb Ed = f ρ S (fun b S1 => if b = true then g ρ S1 Qb Ed else Qb false S1) Ed := propext Iff.rfl
theorem mOrT_r (f g : Rho → Sto → WS Bool) (Qb : Bool → Sto → Prop) : mOrT f g ρ S Qb Ed = f ρ S (fun b S1 => if b = true then Qb true S1 else g ρ S1 Qb Ed) Ed := propext Iff.rfl
theorem mNotT_r (f : Rho → Sto → WS Bool) (Qb : Bool → Sto → Prop) : mNotT f ρ S Qb Ed = f ρ S (fun b S1 => Qb (!b) S1) Ed := propext Iff.rfl
theorem mAnd_r (f g : Rho → Sto → WS D) : mAnd f g ρ S Q Ed = f ρ S (fun d S1 => isB (fun b => if b = true then g ρ S1 Q Ed else Q (.bool false) S1) d) Ed := propext Iff.rfl
theorem mNil_r (Ql : List D → Sto → Prop) : mNil ρ S Ql Ed = Ql [] S := propext Iff.rfl
theorem mCons_r (f : Rho → Sto → WS D) (g : Rho → Sto → WS (List D)) (Ql : List D → Sto → Prop) : mCons f g ρ S Ql Ed = f ρ S (fun d S1 => g ρ S1 (fun ds S2 => Ql (d :: ds) S2) Ed) Ed := propext Iff.rfl
theorem mCb_r (F : List D → Sto → WS D) (fa : Rho → Sto → WS (List D)) : mCb F fa ρ S Q Ed = fa ρ S (fun ds S' => F ds S' Q Ed) Ed := propext Iff.rfl
theorem mTup_r (f : Rho → Sto → WS (List D)) : mTup f ρ S Q Ed = f ρ S (fun ds S' => ds.length ≤ 16777216 ∧ Q (.tuple ds) S') Ed := propext Iff.rfl
theorem mRes_r (f : Rho → Sto → WS D) : mRes f ρ S Q Ed = f ρ S (fun d S' => Q (.tuple [.str "returns", d]) S') (fun c S' => ∃ u, resW c = some u ∧ Q (.tuple [.str u]) S') := propext Iff.rfl
theorem mMeth_r (c : Str) (G : List D → Sto → WS D) (fo : Rho → WD D) (ga : Rho → Sto → WS (List D)) : mMeth c G fo ga ρ S Q Ed = fo ρ (idQ fun a => atC S a c ∧ ga ρ S (fun ds S' => G (idD a :: ds) S' Q Ed) Ed) (fun x => Ed x S) := propext Iff.rfl
theorem mMeth0_r (c : Str) (G : List D → Sto → WS D) (fo : Rho → WD D) : mMeth0 c G fo ρ S Q Ed = fo ρ (idQ fun a => atC S a c ∧ G [idD a] S Q Ed) (fun x => Ed x S) := propext Iff.rfl
theorem mMethK_r (c : Str) (G : List D → Sto → WS D) (fo : Rho → WD D) (fk : Rho → WD (List D)) : mMethK c G fo fk ρ S Q Ed = fo ρ (idQ fun a => atC S a c ∧ fk ρ (fun ds => G (idD a :: ds) S Q Ed) (fun x => Ed x S)) (fun x => Ed x S) := propext Iff.rfl
theorem mMake_r (c : Str) (G : List D → Sto → WS D) (ga : Rho → Sto → WS (List D)) : mMake c G ga ρ S Q Ed = ga ρ S (fun ds S1 => ∀ a, S1 a = none → G (idD a :: ds) (stoNew S1 a c) (fun d S2 => noneQ (Q (idD a) S2) d) Ed) Ed := propext Iff.rfl
theorem noneQ_n (p : Prop) : noneQ p .none = p := rfl
theorem mFldV_r (c f : Str) (fo fe : Rho → WD D) : mFldV c f fo fe Γ S k = fe (rsv S (full Γ)) (fun d => pureD d = true ∧ fo (full Γ) (idQ fun a => atC S a c ∧ putOk S a f (.val d) fun S' => k.nx Γ S') (fun x => k.ex x S)) (fun x => k.ex x S) := propext Iff.rfl
theorem mFldL_r (c f : Str) (fo : Rho → WD D) (fe : Rho → WD (List D)) : mFldL c f fo fe Γ S k = fe (rsv S (full Γ)) (fun xs => pureD.pureAll xs = true ∧ fo (full Γ) (idQ fun a => atC S a c ∧ putOk S a f (.lst xs) fun S' => k.nx Γ S') (fun x => k.ex x S)) (fun x => k.ex x S) := propext Iff.rfl
theorem mFApp_r (c f : Str) (fo fe : Rho → WD D) : mFApp c f fo fe Γ S k = fo (full Γ) (idQ fun a => atF S a c f fun xs => fe (rsv S (full Γ)) (fun d => pureD d = true ∧ xs.length < 1000000 ∧ k.nx Γ (stoPut S a f (.lst (xs ++ [d])))) (fun x => k.ex x S)) (fun x => k.ex x S) := propext Iff.rfl
theorem mFPop_r (c f : Str) (fo : Rho → WD D) : mFPop c f fo ρ S Q Ed = fo ρ (idQ fun a => atF S a c f fun xs => orStuck (xs[xs.length - 1]?) fun d => Q d (stoPut S a f (.lst xs.dropLast))) (fun x => Ed x S) := propext Iff.rfl
theorem mFAppPop_r (c f g : Str) (fo : Rho → WD D) : mFAppPop c f g fo Γ S k = fo (full Γ) (idQ fun a => atF S a c f fun xs => fo (full Γ) (idQ fun b => b = a ∧ atF S a c g fun ys => orStuck (ys[ys.length - 1]?) fun d => xs.length < 1000000 ∧ k.nx Γ (stoPut (stoPut S a g (.lst ys.dropLast)) a f (.lst (xs ++ [d])))) (fun x => k.ex x S)) (fun x => k.ex x S) := propext Iff.rfl
end
section
variable (ρ : Rho) (Q : D → Prop) (Ed : Str → Prop)
theorem eFld_r (c f : Str) (fo : Rho → WD D) : eFld c f fo ρ Q Ed = fo ρ (objQ fun _ c' fl => c' = c ∧ fldQ Q (fl.lookup f)) Ed := propext Iff.rfl
theorem fldQ_v (d : D) : fldQ Q (some (.val d)) = Q d := rfl
theorem fldQ_l (xs : List D) : fldQ Q (some (.lst xs)) = Q (.list xs) := rfl
theorem eMethO_r (c : Str) (F : List D → WD D) (fo : Rho → WD D) (fa : Rho → WD (List D)) : eMethO c F fo fa ρ Q Ed = fo ρ (fun s => objQ (fun a c' fl => c' = c ∧ fa ρ (fun ds => F (s :: ds) Q Ed) Ed) s) Ed := propext Iff.rfl
theorem eMethO0_r (c : Str) (F : List D → WD D) (fo : Rho → WD D) : eMethO0 c F fo ρ Q Ed = fo ρ (fun s => objQ (fun a c' fl => c' = c ∧ F [s] Q Ed) s) Ed := propext Iff.rfl
def intQ (Q : D → Prop) : D → Prop
  | .int n => (0 ≤ n ∧ n < 2 ^ 63) ∧ Q (.int n)
  | _ => False
theorem intQ_i (n : Int) : intQ Q (.int n) = ((0 ≤ n ∧ n < 2 ^ 63) ∧ Q (.int n)) := rfl
theorem lenO_k (c : Str) (F : List D → WD D) (s : D) : lenO c F s Q Ed = objQ (fun _ c' _ => c' = c ∧ F [s] (intQ Q) (fun _ => False)) s := by
  unfold lenO
  congr 1
def strQ (Q : D → Prop) : D → Prop
  | .str t => Q (.str t)
  | _ => False
theorem strQ_s (t : Str) : strQ Q (.str t) = Q (.str t) := rfl
theorem strO_k (c : Str) (F : List D → WD D) (s : D) : strO c F s Q Ed = objQ (fun _ c' _ => c' = c ∧ F [s] (strQ Q) (fun _ => False)) s := by
  unfold strO
  congr 1
theorem isOD_t (c : Str) (xs : List D) : isOD c (.tuple xs) Q Ed = Q (.bool false) := rfl
theorem isOD_o (c : Str) (a : Addr) (c' : Str) (fl : Fls) : isOD c (objD a c' fl) Q Ed = (c' = c ∧ Q (.bool true)) := by
  show objQ (fun _ c'' _ => c'' = c ∧ Q (.bool true)) (objD a c' fl) = _
  rw [objQ_o]
theorem rgtQ_t (c : Str) (p : Prop) (xs : List D) : rgtQ c p (.tuple xs) = p := rfl
theorem rgtQ_o (c : Str) (p : Prop) (a : Addr) (c' : Str) (fl : Fls) : rgtQ c p (objD a c' fl) = (c' = c ∧ p) := by
  show objQ (fun _ c'' _ => c'' = c ∧ p) (objD a c' fl) = _
  rw [objQ_o]
theorem eqOD_r (c : Str) (F : List D → WD D) (neg : Bool) (x y : D) : eqOD c F neg x y Q Ed = objQ (fun _ c' _ => c' = c ∧ rgtQ c (F [x, y] (fun d => isB (fun b => Q (.bool (b != neg))) d) (fun _ => False)) y) x := propext Iff.rfl
end
theorem rsvD_t (S : Sto) (xs : List D) : rsvD S (.tuple xs) = .tuple xs := rfl
theorem rsvD_l (S : Sto) (xs : List D) : rsvD S (.list xs) = .list xs := rfl
theorem rsvD_i (S : Sto) (i : Int) : rsvD S (.int i) = .int i := rfl
theorem rsvD_b (S : Sto) (i : Bool) : rsvD S (.bool i) = .bool i := rfl
theorem rsvD_s (S : Sto) (i : Str) : rsvD S (.str i) = .str i := rfl
theorem rsvD_n (S : Sto) : rsvD S .none = .none := rfl
theorem rsvE_v (S : Sto) (d : D) : rsvE S (some (.val d)) = some (.val (rsvD S d)) := rfl
theorem rsvE_o (S : Sto) (c : OwnC) : rsvE S (some (.own c)) = some (.own c) := rfl
theorem rsvE_n (S : Sto) : rsvE S none = none := rfl
theorem fnS_r (n : Nat) (F : FSS) (ds : List D) (S : Sto) (Q : D → Sto → Prop) (E : Str → Sto → Prop) : fnS n F ds S Q E = F (startE n ds) S { nx := fun _ S' => Q .none S', rt := Q, ex := E } := propext Iff.rfl
theorem mForL_nil (T : Tg) (F : FSS) (k : KSS) (Γ : DL.Env) (S : Sto) : mForL T F k [] Γ S = k.nx Γ S := propext Iff.rfl
theorem mForL_cons (T : Tg) (F : FSS) (k : KSS) (x : D) (xs : List D) (Γ : DL.Env) (S : Sto) : mForL T F k (x :: xs) Γ S = orStuck (bindT T x) fun l => F (setV Γ l) S { k with nx := mForL T F k xs, ct := mForL T F k xs, bk := k.nx } := propext Iff.rfl
end DL
namespace DL
open PySem PySem.Spec PyProof.Rows L2
open Sem (wp)
def SqG (K : PySem.W.Frag) (t : Bool) (H : Hp) (a : Addr) (xs : List V) : Prop := match t with
  | true => SqT K H a xs
  | false => SqL K H a xs
def itG (t : Bool) (h : Heap) (it a : Addr) (i : Nat) : Prop := match t with
  | true => h.IsTupleIter it a i
  | false => h.IsListIter it a i
def sqH (t : Bool) (h : Heap) (a : Addr) (items : Array Value) : Prop := match t with
  | true => h.IsTuple a items
  | false => h.IsList a items
theorem drawsG {prog : Program} {w : World} {A : Around} (t : Bool) (hh : A.handled = none) (it l : Addr) (hne : l ≠ it) (items : Array Value) :
    Draws prog w A it [it, l] items.size (fun i v => items[i]? = some v) (fun i h => itG t h it l i ∧ sqH t h l items) := by
  cases t
  · exact Draws.list hh it l hne items
  · exact Draws.tuple hh it l hne items
theorem itG.at0 {t : Bool} {h h' : Heap} {it a : Addr} {i : Nat} (x : itG t h it a i) (e : ∀ o, h.get? it = some o → h'.get? it = some o) : itG t h' it a i := by
  cases t
  · exact Heap.IsListIter.at x e
  · exact Heap.IsTupleIter.at x e
theorem sqH.at {t : Bool} {h h' : Heap} {a : Addr} {its : Array Value} (x : sqH t h a its) (e : ∀ o, h.get? a = some o → h'.get? a = some o) : sqH t h' a its := by
  cases t
  · exact Heap.IsList.at x e
  · exact Heap.IsTuple.at x e
theorem drawsEnd {prog : Program} {w : World} {A : Around} (t : Bool) (hh : A.handled = none) (it l : Addr) (items : Array Value) (i : Nat) (hi : items.size ≤ i) :
    Draws prog w A it [it, l] i (fun _ _ => True) (fun j h => j = i ∧ itG t h it l i ∧ sqH t h l items) where
  live := fun _ _ st => by
    obtain ⟨_, x, _⟩ := st
    cases t
    all_goals
      obtain ⟨o, ho, _⟩ := x
      exact ⟨o, ho⟩
  frame := fun _ _ _ st hk => ⟨st.1, st.2.1.at0 (hk it (by simp)), st.2.2.at (hk l (by simp))⟩
  item := fun j s Q E hi st hQ => absurd hi (by rw [st.1]; exact Nat.lt_irrefl _)
  done := fun s Q E st hE => by
    obtain ⟨_, x, y⟩ := st
    have e : items[i]? = none := by simp; exact hi
    cases t
    · exact wpAny_nextOf_list_end hh x y e hE
    · exact wpAny_nextOf_tuple_end hh x y e hE
theorem itG.at {t : Bool} {h h' : Heap} {it a : Addr} {i : Nat} (x : itG t h it a i) (e : ∀ o, h.get? it = some o → h'.get? it = some o) : itG t h' it a i := by
  cases t
  · exact Heap.IsListIter.at x e
  · exact Heap.IsTupleIter.at x e
theorem itG.obj {t : Bool} {h : Heap} {it a : Addr} {i : Nat} (x : itG t h it a i) : ∃ o, h.get? it = some o ∧ ∀ v, o.data ≠ .cell v := by
  cases t
  all_goals
    obtain ⟨o, ho, _, hd⟩ := x
    exact ⟨o, ho, fun v q => by rw [hd] at q; cases q⟩
theorem sqH.lt {t : Bool} {h : Heap} {a : Addr} {its : Array Value} (x : sqH t h a its) : a < h.objs.size := by
  cases t
  all_goals
    obtain ⟨o, ho, _⟩ := x
    exact Heap.lt_size ho
section
variable {X : Cx} {pins : List (Addr × Obj)} {σ : L2.St} {H : Hp} {s : Shared}
theorem sqG_of {t : Bool} {a : Addr} {xs : List V} (I : Inv X pins σ H s) (h : SqG X.K t H a xs) : ∃ its : List Value, Vals xs its ∧ sqH t s.heap a its.toArray ∧ xs.length ≤ sizeLine := by
  cases t
  · obtain ⟨its, r, p, z⟩ := I.list h
    exact ⟨its, r, p.isList, z⟩
  · exact I.tuple h
theorem sqG_inj {t : Bool} {a : Addr} {xs ys : List V} (I : Inv X pins σ H s) (h : SqG X.K t H a xs) (h' : SqG X.K t H a ys) : xs = ys := by
  cases t
  · exact I.list_inj h h'
  · obtain ⟨its, rv, p, _⟩ := I.tuple h
    obtain ⟨its', rv', p', _⟩ := I.tuple h'
    have e1 : its' = its := by
      obtain ⟨o, ho, hc, n, hd⟩ := p
      obtain ⟨o', ho', hc', n', hd'⟩ := p'
      rw [ho] at ho'
      cases ho'
      rw [hd] at hd'
      injection hd' with hd' _
      have := congrArg Array.toList hd'
      simpa using this.symm
    subst e1
    exact Vals.inj rv rv'
end
/-- all lie apart -/
structure Ap (z TI TO i1 i2 a b : Addr) : Prop where
  TIz : TI ≠ z
  TOz : TO ≠ z
  TITO : TI ≠ TO
  TIi1 : TI ≠ i1
  TIi2 : TI ≠ i2
  zi1 : z ≠ i1
  zi2 : z ≠ i2
  za : z ≠ a
  zb : z ≠ b
  Ti1 : TO ≠ i1
  Ti2 : TO ≠ i2
  Ta : TO ≠ a
  Tb : TO ≠ b
  i12 : i1 ≠ i2
  i1a : i1 ≠ a
  i1b : i1 ≠ b
  i2a : i2 ≠ a
  i2b : i2 ≠ b
theorem Ap.sep {z TI TO i1 i2 a b : Addr} (D : Ap z TI TO i1 i2 a b) : ZipSep2 z TI TO i1 i2 [i1, a] [i2, b] := by
  refine ⟨D.TIz, D.TOz, D.TITO, D.TIi1, by simp, ?_, ?_, D.TIi2, by simp, ?_, ?_, ?_, ?_⟩
  · simp [D.zi1, D.za]
  · simp [D.Ti1, D.Ta]
  · simp [D.zi2, D.zb]
  · simp [D.Ti2, D.Tb]
  · simp [D.i12, D.i1b]
  · simp [D.i12.symm, D.i2a]
theorem Ap.new (n a b : Addr) (ha : a < n) (hb : b < n) : Ap (n + 4) (n + 2) (n + 3) n (n + 1) a b := by
  have ne : ∀ x y : Addr, x < y → x ≠ y := fun x y h => Nat.ne_of_lt h
  constructor <;> (intro e; have e' : (_ : Nat) = _ := e; have := ha; have := hb; unfold Addr at *; omega)
def ItzG (K : PySem.W.Frag) (t1 t2 : Bool) (a b : Addr) : It :=
  ⟨fun i H => ∃ (xs ys : List V) (x y : V), SqG K t1 H a xs ∧ SqG K t2 H b ys ∧ xs[i]? = some x ∧ ys[i]? = some y,
   fun i H v H' => ∃ T x y, v = .ref T ∧ Fz H T x y H' ∧ (∀ xs, SqG K t1 H a xs → xs[i]? = some x) ∧ ∀ ys, SqG K t2 H b ys → ys[i]? = some y,
   fun i H => ∃ xs ys : List V, SqG K t1 H a xs ∧ SqG K t2 H b ys ∧ (xs.length ≤ i ∨ ys.length ≤ i)⟩
def ItzE (K : PySem.W.Frag) (t1 t2 : Bool) (a b : Addr) : It :=
  ⟨(ItzG K t1 t2 a b).go, fun i H v H' => ∃ T0 T1 x y H1, v = .ref T1 ∧ Fz H T0 x y H1 ∧ Fz H1 T1 (.int (i : Nat)) (.ref T0) H' ∧ (∀ xs, SqG K t1 H a xs → xs[i]? = some x) ∧ ∀ ys, SqG K t2 H b ys → ys[i]? = some y,
   (ItzG K t1 t2 a b).stop⟩
theorem turn_zipG {P : Program} {w : World} {K : PySem.W.Frag} {elts : List Expr} {kk : Nat} {tpos : Pos} {t1 t2 : Bool} {a b z TI TO i1 i2 : Addr} (D : Ap z TI TO i1 i2 a b) :
    Turn P w K (.Tuple elts kk tpos) (ItzG K t1 t2 a b) [z, TI, TO, i1, i2] z (fun i h => IsZip h z TI TO .none ∧ IsTupOf2 h TI (.ref i1) (.ref i2) ∧ (∃ x y, IsTupOf2 h TO x y) ∧ itG t1 h i1 a i ∧ itG t2 h i2 b i) where
  mem := by simp
  obj := fun i h st c hc => by
    obtain ⟨w1, w2, ⟨x, y, w3⟩, w4, w5⟩ := st
    simp only [List.mem_cons, List.not_mem_nil, or_false] at hc
    rcases hc with rfl | rfl | rfl | rfl | rfl
    · exact ⟨_, w1, fun v q => nomatch q⟩
    · exact ⟨_, w2, fun v q => nomatch q⟩
    · exact ⟨_, w3, fun v q => nomatch q⟩
    · exact w4.obj
    · exact w5.obj
  keep := fun i h h' st k => by
    obtain ⟨w1, w2, ⟨x, y, w3⟩, w4, w5⟩ := st
    exact ⟨k z (by simp) _ w1, k TI (by simp) _ w2, ⟨x, y, k TO (by simp) _ w3⟩, w4.at (k i1 (by simp)), w5.at (k i2 (by simp))⟩
  item := by
    intro X hP hw hK hc i pins s σ H E I hf st hg
    subst hP hw hK
    obtain ⟨w1, w2, ⟨x0, y0, w3⟩, w4, w5⟩ := st
    obtain ⟨xs, ys, x, y, qx, qy, ex, ey⟩ := hg
    obtain ⟨as, ra, pa, _⟩ := sqG_of I qx
    obtain ⟨bs, rb, pb, _⟩ := sqG_of I qy
    obtain ⟨u, eu, ru⟩ := ra.get ex
    obtain ⟨v, ev, rv⟩ := rb.get ey
    have zl := Heap.lt_size w1
    have l1 : i < as.toArray.size := by
      rw [List.size_toArray]
      exact (List.getElem?_eq_some_iff.mp eu).1
    have l2 : i < bs.toArray.size := by
      rw [List.size_toArray]
      exact (List.getElem?_eq_some_iff.mp ev).1
    refine wpAny_pyNext_zipD2_item D.sep (drawsG t1 (A := X.A.in1) (I.ok.hd hc) i1 a D.i1a.symm as.toArray) (drawsG t2 (A := X.A.in1) (I.ok.hd hc) i2 b D.i2b.symm bs.toArray) w1 w2 w3 ⟨w4, pa⟩ ⟨w5, pb⟩ l1 l2 fun u' v' h1 tk hu' hv' z1 o1 d1 d2 n1 sz kp => ?_
    have e1 : u' = u := by
      have : as[i]? = some u' := by simpa using hu'
      rw [eu] at this
      exact (Option.some.inj this).symm
    have e2 : v' = v := by
      have : bs[i]? = some v' := by simpa using hv'
      rw [ev] at this
      exact (Option.some.inj this).symm
    subst e1 e2
    refine ⟨_, rfl, wpAny_letOwnedTupleGo_zip (s := { s with heap := h1, toks := tk }) z1 fun h2 z2 sb => ?_⟩
    have nT : h2.get? s.heap.objs.size = some (tupO [u', v'] 0) := (sb.2 _ (Nat.ne_of_gt zl)).trans n1
    have I1 := pair_laid (tk := tk) (ch := [z, TI, TO, i1, i2]) I (fun c o nc e => (sb.2 c (by simp at nc; exact nc.1)).trans (kp c o (by simp at nc; exact nc.1) (by simp at nc; exact nc.2.2.1) (by simp at nc; exact nc.2.2.2.1) (by simp at nc; exact nc.2.2.2.2) e)) hf nT ru rv
    refine ⟨.ref s.heap.objs.size, _, I1, rfl, ⟨_, x, y, rfl, ⟨_, rfl, I.hok.fresh (Nat.le_refl _), rfl⟩, fun l hl => ?_, fun l hl => ?_⟩, ⟨z2, ?_, ⟨u', v', ?_⟩, ?_, ?_⟩, fun c hc' => ?_⟩
    · exact sqG_inj I hl qx ▸ ex
    · exact sqG_inj I hl qy ▸ ey
    · exact (sb.2 TI D.TIz).trans (kp TI _ D.TIz D.TITO D.TIi1 D.TIi2 w2)
    · exact (sb.2 TO D.TOz).trans o1
    · exact d1.1.at fun o e => (sb.2 i1 D.zi1.symm).trans e
    · exact d2.1.at fun o e => (sb.2 i2 D.zi2.symm).trans e
    · have lt : c < s.heap.objs.size := by
        simp only [List.mem_cons, List.not_mem_nil, or_false] at hc'
        rcases hc' with rfl | rfl | rfl | rfl | rfl
        · exact zl
        · exact Heap.lt_size w2
        · exact Heap.lt_size w3
        · exact Heap.lt_size w4.obj.choose_spec.1
        · exact Heap.lt_size w5.obj.choose_spec.1
      exact (upd_ne (Nat.ne_of_lt lt)).trans (hf c hc').1
  done := by
    intro X hP hw hK hc i pins s σ H E I hf st hg
    subst hP hw hK
    obtain ⟨w1, w2, ⟨x0, y0, w3⟩, w4, w5⟩ := st
    obtain ⟨xs, ys, qx, qy, hi⟩ := hg
    obtain ⟨as, ra, pa, _⟩ := sqG_of I qx
    obtain ⟨bs, rb, pb, _⟩ := sqG_of I qy
    have la := ra.length
    have lb := rb.length
    have kk : ∀ h' tk, (∀ c o, c ≠ z → c ≠ TO → c ≠ i1 → c ≠ i2 → s.heap.get? c = some o → h'.get? c = some o) → Inv X pins σ H { s with heap := h', toks := tk } := fun h' tk kp =>
      I.turnedL (t' := tk) (ch := [z, TI, TO, i1, i2]) (fun c o nc e => kp c o (by simp at nc; exact nc.1) (by simp at nc; exact nc.2.2.1) (by simp at nc; exact nc.2.2.2.1) (by simp at nc; exact nc.2.2.2.2) e) hf
    by_cases za : as.toArray.size ≤ i
    · by_cases zb : bs.toArray.size ≤ i
      · exact wpAny_pyNext_zipD2_end D.sep (drawsEnd t1 (A := X.A.in1) (I.ok.hd hc) i1 a as.toArray i za) (drawsEnd t2 (A := X.A.in1) (I.ok.hd hc) i2 b bs.toArray i zb) w1 w2 w3 ⟨rfl, w4, pa⟩ ⟨rfl, w5, pb⟩ (Nat.le_refl _) (Nat.le_refl _) (.inl rfl) fun h' tk kp => ⟨rfl, kk h' tk kp⟩
      · exact wpAny_pyNext_zipD2_end D.sep (drawsEnd t1 (A := X.A.in1) (I.ok.hd hc) i1 a as.toArray i za) (drawsG t2 (A := X.A.in1) (I.ok.hd hc) i2 b D.i2b.symm bs.toArray) w1 w2 w3 ⟨rfl, w4, pa⟩ ⟨w5, pb⟩ (Nat.le_refl _) (by omega) (.inl rfl) fun h' tk kp => ⟨rfl, kk h' tk kp⟩
    · have zb : bs.toArray.size ≤ i := by simp at za ⊢; omega
      exact wpAny_pyNext_zipD2_end D.sep (drawsG t1 (A := X.A.in1) (I.ok.hd hc) i1 a D.i1a.symm as.toArray) (drawsEnd t2 (A := X.A.in1) (I.ok.hd hc) i2 b bs.toArray i zb) w1 w2 w3 ⟨w4, pa⟩ ⟨rfl, w5, pb⟩ (by omega) (Nat.le_refl _) (.inr rfl) fun h' tk kp => ⟨rfl, kk h' tk kp⟩
  self := fun A i s Q E st h => wpAny_pyIter_zip st.1 h
def beginO (t : Bool) (a : Addr) : Obj := match t with
  | true => { cls := .type "tuple_iterator", data := .fields #[.ref a, .int 0 0] }
  | false => { cls := .type "list_iterator", data := .fields #[.ref a, .int 0 0] }
theorem beginsG (t : Bool) (a : Addr) (its : Array Value) : Begins (.ref a) (beginO t a) (fun h => sqH t h a its) := by
  cases t
  · exact begins_list a its
  · exact begins_tuple a its
theorem itG_new {t : Bool} {h : Heap} {it a : Addr} (e : h.get? it = some (beginO t a)) : itG t h it a 0 := by
  cases t
  · exact ⟨_, e, rfl, rfl⟩
  · exact ⟨_, e, rfl, rfl⟩
theorem five (n c : Nat) (h : c ∈ [n + 4, n + 2, n + 3, n, n + 1]) : n ≤ c ∧ c < n + 5 := by
  simp only [List.mem_cons, List.not_mem_nil, or_false] at h
  omega
def ZipR (X : Cx) (pins : List (Addr × Obj)) (σ : L2.St) (Q : Bool → Bool → Addr → Addr → Hp → Prop) (v : Value) (s : Shared) : Prop :=
  ∃ z TI TO i1 i2 t1 t2 a b H, v = .ref z ∧ Inv X pins σ H s ∧ Ap z TI TO i1 i2 a b ∧ IsZip s.heap z TI TO .none ∧ IsTupOf2 s.heap TI (.ref i1) (.ref i2) ∧ (∃ x y, IsTupOf2 s.heap TO x y) ∧ itG t1 s.heap i1 a 0 ∧ itG t2 s.heap i2 b 0 ∧
    (∀ c ∈ [z, TI, TO, i1, i2], FpOk X pins H c ∧ c < s.heap.objs.size) ∧ Q t1 t2 a b H
theorem zip_eval {X : Cx} {e e2 : Expr} {ta : TA} {p pos : Pos} {pins : List (Addr × Obj)} {s : Shared} {σ : L2.St} {H : Hp} {Q : Bool → Bool → Addr → Addr → Hp → Prop} (hg : Gl X "zip") (hm : X.mg "zip" = none) (ha : PA X [e, e2] ta) (hs : starEach [e, e2] X.env = (false, eval e X.env) :: starEach [e2] X.env) (hpl : (backTo pos (starEach [e2] X.env)).any (·.1) = false)
    (I : Inv X pins σ H s) (h : ta σ H fun vs H1 => ∃ t1 t2 a b xs ys, vs = [.ref a, .ref b] ∧ SqG X.K t1 H1 a xs ∧ SqG X.K t2 H1 b ys ∧ Q t1 t2 a b H1) :
    wpAny (model X.prog X.w) X.A (eval (.Call (.Name "zip" p) [e, e2] [] pos) X.env) (ZipR X pins σ Q) X.xe s := by
  refine Call_ (ld_blt I hg hm PyProof.Rows.boot_zip (PyProof.Rows.callWith_type1 (thn (ha.run pos pins s σ H _ I h) fun us s1 ⟨vs, H1, I1, r1, t1, t2, a, b, xs, ys, ex, qx, qy, q⟩ => ?_) hs hpl))
  subst ex
  obtain ⟨u, r1', r2'⟩ : ∃ u, us = .ref a :: u ∧ u = [.ref b] := by
    cases r1 with
    | cons r rr =>
      cases rr with
      | cons r' rr =>
        cases rr
        cases r
        cases r'
        exact ⟨_, rfl, rfl⟩
  subst r1' r2'
  obtain ⟨as, ra, pa, _⟩ := sqG_of I1 qx
  obtain ⟨bs, rb, pb, _⟩ := sqG_of I1 qy
  refine zip_begins2 (beginsG t1 a as.toArray) (beginsG t2 b bs.toArray) pa pb fun h1 w1 w2 w3 w4 w5 sz kp => ?_
  refine ⟨s1.heap.objs.size + 4, s1.heap.objs.size + 2, s1.heap.objs.size + 3, s1.heap.objs.size, s1.heap.objs.size + 1, t1, t2, a, b, H1, rfl, I1.kept (t' := s1.toks) kp, Ap.new _ a b pa.lt pb.lt, w1, w2, ⟨_, _, w3⟩, itG_new w4, itG_new w5, fun c hc => ?_, q⟩
  have le := five s1.heap.objs.size c hc
  refine ⟨I1.fpOk le.1 (I1.hok.fresh le.1), ?_⟩
  show c < h1.objs.size
  rw [sz]
  exact le.2
def iZipG (K : PySem.W.Frag) (E : Bool) (ta : TA) : TI := fun σ H R => ta σ H fun vs H1 => ∃ t1 t2 a b xs ys, vs = [.ref a, .ref b] ∧ SqG K t1 H1 a xs ∧ SqG K t2 H1 b ys ∧ R (if E = true then ItzE K t1 t2 a b else ItzG K t1 t2 a b) H1
theorem pi_zipG {X : Cx} {e e2 : Expr} {ta : TA} {p pos tpos : Pos} {elts : List Expr} {kk : Nat} (hg : Gl X "zip") (hm : X.mg "zip" = none) (ha : PA X [e, e2] ta) (hs : starEach [e, e2] X.env = (false, eval e X.env) :: starEach [e2] X.env) (hpl : (backTo pos (starEach [e2] X.env)).any (·.1) = false) :
    PI X (.Tuple elts kk tpos) (.Call (.Name "zip" p) [e, e2] [] pos) (iZipG X.K false ta) := by
  refine ⟨fun pins s σ H R I h => thn (zip_eval (Q := fun t1 t2 a b H1 => R (ItzG X.K t1 t2 a b) H1) hg hm ha hs hpl I h) fun v s1 ⟨z, TI, TO, i1, i2, t1, t2, a, b, H1, ev, I1, D, w1, w2, w3, w4, w5, fp, q⟩ => ?_⟩
  subst ev
  exact wpAny_pyIter_zip w1 ⟨z, [z, TI, TO, i1, i2], _, _, H1, rfl, I1, turn_zipG D, ⟨w1, w2, w3, w4, w5⟩, fun c hc => (fp c hc).1, q⟩
def zipGD : List D → WD (List D)
  | [.list xs, .list ys] => fun Q _ => Q ((xs.zip ys).map fun p => .tuple [p.1, p.2])
  | [.tuple xs, .list ys] => fun Q _ => Q ((xs.zip ys).map fun p => .tuple [p.1, p.2])
  | [.list xs, .tuple ys] => fun Q _ => Q ((xs.zip ys).map fun p => .tuple [p.1, p.2])
  | [.tuple xs, .tuple ys] => fun Q _ => Q ((xs.zip ys).map fun p => .tuple [p.1, p.2])
  | _ => fun _ _ => False
section
variable [Nm] {O : Ob} {X : Cx} {E : XK}
def isSeq (t : Bool) (d : D) (ds : List D) : Prop := d = (match t with
  | true => PyData.tuple ds
  | false => PyData.list ds)
theorem zipGD_inv {ds : List D} {Q : List D → Prop} {Ed : Str → Prop} (h : zipGD ds Q Ed) : ∃ t1 t2 d e xs ys, ds = [d, e] ∧ isSeq t1 d xs ∧ isSeq t2 e ys ∧ Q ((xs.zip ys).map fun p => .tuple [p.1, p.2]) := by
  unfold zipGD at h
  split at h
  · exact ⟨false, false, _, _, _, _, rfl, rfl, rfl, h⟩
  · exact ⟨true, false, _, _, _, _, rfl, rfl, rfl, h⟩
  · exact ⟨false, true, _, _, _, _, rfl, rfl, rfl, h⟩
  · exact ⟨true, true, _, _, _, _, rfl, rfl, rfl, h⟩
  · exact h.elim
/-- v stands for the list or tuple of ds -/
theorem seq_inv {K : PySem.W.Frag} {H : Hp} {P : Addr → Prop} {v : V} {d : D} {t : Bool} {ds : List D} (h : Dv O K H P v d) (e : isSeq t d ds) : ∃ a xs, v = .ref a ∧ SqG K t H a xs ∧ DvAll O K H P xs ds := by
  subst e
  cases t with
  | true =>
    cases h with
    | tup h r => exact ⟨_, _, rfl, h.sq, r⟩
  | false =>
    cases h with
    | lst h _ r => exact ⟨_, _, rfl, .inl (.inl h), r⟩
theorem SqG.kf {K : PySem.W.Frag} {H1 H2 : Hp} {P P2 : Addr → Prop} {v : V} {d : D} {t : Bool} {ds : List D} (h : Dv O K H1 P v d) (e : isSeq t d ds) (hp : ∀ a, P2 a → P a ∨ Nn H1 a) (k2 : Kf P2 H1 H2) (hm1 : Dom H1 P) :
    ∃ a xs, v = .ref a ∧ SqG K t H1 a xs ∧ SqG K t H2 a xs ∧ DvAll O K H2 P2 xs ds ∧ xs.length = ds.length := by
  subst e
  cases t with
  | true =>
    cases h with
    | tup h r' => exact ⟨_, _, rfl, h.sq, ((Nl.kf hp k2 hm1).tup h).sq, r'.kf hp k2 hm1, r'.length⟩
  | false =>
    cases h with
    | lst h n r' =>
      have f1 := k2.all _ _ h (out_of hp h no_lst n) no_lst
      exact ⟨_, _, rfl, .inl (.inl h), .inl (.inl f1), r'.kf hp k2 hm1, r'.length⟩
theorem di_zipG {elts : List Expr} {kk : Nat} {tpos p pos : Pos} {e e2 : Expr} {fa : Rho → WD (List D)} (hg : Gl X "zip") (hm : X.mg "zip" = none) (ha : DA O X E [e, e2] fa)
    (hs : starEach [e, e2] X.env = (false, eval e X.env) :: starEach [e2] X.env := by rfl) (hpl : (backTo pos (starEach [e2] X.env)).any (·.1) = false := by rfl) : DI O X E (.Tuple elts kk tpos) (.Call (.Name "zip" p) [e, e2] [] pos) (eCbF zipGD fa) := by
  obtain ⟨ta, a1, a2⟩ := ha
  refine ⟨_, pi_zipG hg hm a1 hs hpl, fun P ρ σ H Qd Ed R hd hr hf hQ hE => a2 P ρ σ H _ Ed _ hd hr hf (fun vs ds H1 s1 h _ q => ?_) hE⟩
  have hm1 := hd.same s1
  obtain ⟨t1, t2, d, e, xs, ys, rfl, k1, k2, q⟩ := zipGD_inv q
  cases h with
  | cons h1 h =>
    cases h with
    | cons h2 h =>
      cases h
      obtain ⟨a, us, rfl, qa, ra⟩ := seq_inv h1 k1
      obtain ⟨b, ws, rfl, qb, rb⟩ := seq_inv h2 k2
      refine ⟨t1, t2, a, b, us, ws, rfl, qa, qb, hQ _ _ H1 s1 (fun P2 H2 pp hp kf => ?_) q⟩
      obtain ⟨a', us', ea, qa1, qa2, ra2, la⟩ := SqG.kf h1 k1 hp kf hm1
      obtain ⟨b', ws', eb, qb1, qb2, rb2, lb⟩ := SqG.kf h2 k2 hp kf hm1
      cases ea
      cases eb
      refine ⟨fun i hi => ?_, fun i x H' d y e3 => ?_, fun i hi => ⟨_, _, qa2, qb2, ?_⟩⟩
      · rw [List.length_map, List.length_zip] at hi
        obtain ⟨x, ex⟩ := get_lt (show i < us'.length by omega)
        obtain ⟨y, ey⟩ := get_lt (show i < ws'.length by omega)
        exact ⟨_, _, x, y, qa2, qb2, ex, ey⟩
      · obtain ⟨T, u, v, rfl, ⟨o, no, nT, rfl⟩, y1, y2⟩ := y
        refine ⟨same_new nT, ?_⟩
        rw [List.getElem?_map] at e3
        cases ez : (xs.zip ys)[i]? with
        | none =>
          rw [ez] at e3
          cases e3
        | some pr =>
          rw [ez] at e3
          cases e3
          rw [List.getElem?_zip_eq_some] at ez
          obtain ⟨u', eu, hu⟩ := ra2.get ez.1
          obtain ⟨v', ev, hv⟩ := rb2.get ez.2
          have z1 := y1 _ qa2
          rw [eu] at z1
          cases z1
          have z2 := y2 _ qb2
          rw [ev] at z2
          cases z2
          exact .tup (.inl ⟨o, no, upd_same⟩) (.cons (hu.same (same_new nT)) (.cons (hv.same (same_new nT)) .nil))
      · rw [List.length_map, List.length_zip] at hi
        omega
variable {Q : List D → Prop} {E' : Str → Prop}
end
end DL
namespace G6
open PySem PySem.Spec L2 DL
def c_HOMES : D := .tuple [.str "low", .str "fold"]
def c_STEPS : D := .tuple [.str "up", .str "down", .str "wide", .str "own"]
def c_COMES : D := .tuple [.str "late", .str "empty", .str "near", .str "first"]
def c_GONES : D := .tuple [.str "mark", .str "hole", .str "again", .str "pull"]
def c_GROWS : D := .tuple [.str "half", .str "three", .str "full"]
def c_KINDS : D := .tuple [.str "ask", .str "put", .str "take"]
def c_SIGHTS : D := .tuple [.str "both", .str "looks", .str "order"]
def b1_is_between : FS := (sRet (eAnd (eUn1 (isiD "int") (eVar 0)) (eAnd (eNot (eUn1 (isiD "bool") (eVar 0))) (eChain leD leD (eVar 1) (eVar 0) (eVar 2)))))
theorem b1_is_between_r (Γ : DL.Env) (k : KS) : b1_is_between Γ k = (sRet (eAnd (eUn1 (isiD "int") (eVar 0)) (eAnd (eNot (eUn1 (isiD "bool") (eVar 0))) (eChain leD leD (eVar 1) (eVar 0) (eVar 2))))) Γ k := propext Iff.rfl
def m_is_between : List D → WD D := fn0 3
    b1_is_between
theorem m_is_between_r (ds : List D) (Q : D → Prop) (E : Str → Prop) : m_is_between ds Q E = fn0 3 b1_is_between ds Q E := propext Iff.rfl
def b1_is_word : FS := (sRet (eAnd (eUn1 (isiD "str") (eVar 0)) (eOp (inD false) (eVar 0) (eVar 1))))
theorem b1_is_word_r (Γ : DL.Env) (k : KS) : b1_is_word Γ k = (sRet (eAnd (eUn1 (isiD "str") (eVar 0)) (eOp (inD false) (eVar 0) (eVar 1)))) Γ k := propext Iff.rfl
def m_is_word : List D → WD D := fn0 2
    b1_is_word
theorem m_is_word_r (ds : List D) (Q : D → Prop) (E : Str → Prop) : m_is_word ds Q E = fn0 2 b1_is_word ds Q E := propext Iff.rfl
def b1_home_of : FS := (sRet (eOp modD (eIf (tB1 (eOp (eqD false) (eOp idxD (eVar 0) (eC (.int 1))) (eC (.str "low")))) (eVar 1) (eOp addD (eVar 1) (eOp fdivD (eVar 1) (eC (.int 4))))) (eVar 2)))
theorem b1_home_of_r (Γ : DL.Env) (k : KS) : b1_home_of Γ k = (sRet (eOp modD (eIf (tB1 (eOp (eqD false) (eOp idxD (eVar 0) (eC (.int 1))) (eC (.str "low")))) (eVar 1) (eOp addD (eVar 1) (eOp fdivD (eVar 1) (eC (.int 4))))) (eVar 2))) Γ k := propext Iff.rfl
def m_home_of : List D → WD D := fn0 3
    b1_home_of
theorem m_home_of_r (ds : List D) (Q : D → Prop) (E : Str → Prop) : m_home_of ds Q E = fn0 3 b1_home_of ds Q E := propext Iff.rfl
def b1_bound_of : FS := (sRet (eIf (tB1 (eOp (eqD false) (eOp idxD (eVar 0) (eC (.int 3))) (eC (.str "one")))) (eVar 1) (eOp mulD (eC (.int 2)) (eVar 1))))
theorem b1_bound_of_r (Γ : DL.Env) (k : KS) : b1_bound_of Γ k = (sRet (eIf (tB1 (eOp (eqD false) (eOp idxD (eVar 0) (eC (.int 3))) (eC (.str "one")))) (eVar 1) (eOp mulD (eC (.int 2)) (eVar 1)))) Γ k := propext Iff.rfl
def b2_bound_of : FS := (sIf (tB1 (eOp (eqD false) (eOp idxD (eVar 0) (eC (.int 0))) (eC (.str "rows")))) b1_bound_of sNext)
theorem b2_bound_of_r (Γ : DL.Env) (k : KS) : b2_bound_of Γ k = (sIf (tB1 (eOp (eqD false) (eOp idxD (eVar 0) (eC (.int 0))) (eC (.str "rows")))) b1_bound_of sNext) Γ k := propext Iff.rfl
def b3_bound_of : FS := (sRet (eOp dgetD (eOfD (dDisp (pCons (eC (.str "half")) (eOp fdivD (eVar 1) (eC (.int 2))) (pCons (eC (.str "three")) (eOp fdivD (eOp mulD (eVar 1) (eC (.int 3))) (eC (.int 4))) (pCons (eC (.str "full")) (eOp subD (eVar 1) (eC (.int 1))) pNil))))) (eOp idxD (eVar 0) (eC (.int 5)))))
theorem b3_bound_of_r (Γ : DL.Env) (k : KS) : b3_bound_of Γ k = (sRet (eOp dgetD (eOfD (dDisp (pCons (eC (.str "half")) (eOp fdivD (eVar 1) (eC (.int 2))) (pCons (eC (.str "three")) (eOp fdivD (eOp mulD (eVar 1) (eC (.int 3))) (eC (.int 4))) (pCons (eC (.str "full")) (eOp subD (eVar 1) (eC (.int 1))) pNil))))) (eOp idxD (eVar 0) (eC (.int 5))))) Γ k := propext Iff.rfl
def m_bound_of : List D → WD D := fn0 2
    (sSeq b2_bound_of
    b3_bound_of)
theorem m_bound_of_r (ds : List D) (Q : D → Prop) (E : Str → Prop) : m_bound_of ds Q E = fn0 2 (sSeq b2_bound_of
    b3_bound_of) ds Q E := propext Iff.rfl
def b1_begun : FS := (sRet (eIf (tB1 (eOp (eqD false) (eOp idxD (eVar 0) (eC (.int 0))) (eC (.str "rows")))) (eOp mulD (eTup (aCons (eTup aNil) aNil)) (eVar 1)) (eOp mulD (eTup (aCons (eC (.int (-1))) aNil)) (eVar 1))))
theorem b1_begun_r (Γ : DL.Env) (k : KS) : b1_begun Γ k = (sRet (eIf (tB1 (eOp (eqD false) (eOp idxD (eVar 0) (eC (.int 0))) (eC (.str "rows")))) (eOp mulD (eTup (aCons (eTup aNil) aNil)) (eVar 1)) (eOp mulD (eTup (aCons (eC (.int (-1))) aNil)) (eVar 1)))) Γ k := propext Iff.rfl
def m_begun : List D → WD D := fn0 2
    b1_begun
theorem m_begun_r (ds : List D) (Q : D → Prop) (E : Str → Prop) : m_begun ds Q E = fn0 2 b1_begun ds Q E := propext Iff.rfl
def b1_keys_in : FS := (sRet (eOfF (eLc2 (sItems (eVar 1)) (.name 3) [3, 2] tYesD (sItems (eVar 3)) (.name 2) [2] tYesD (eVar 2))))
theorem b1_keys_in_r (Γ : DL.Env) (k : KS) : b1_keys_in Γ k = (sRet (eOfF (eLc2 (sItems (eVar 1)) (.name 3) [3, 2] tYesD (sItems (eVar 3)) (.name 2) [2] tYesD (eVar 2)))) Γ k := propext Iff.rfl
def b2_keys_in : FS := (sIf (tB1 (eOp (eqD false) (eOp idxD (eVar 0) (eC (.int 0))) (eC (.str "rows")))) b1_keys_in sNext)
theorem b2_keys_in_r (Γ : DL.Env) (k : KS) : b2_keys_in Γ k = (sIf (tB1 (eOp (eqD false) (eOp idxD (eVar 0) (eC (.int 0))) (eC (.str "rows")))) b1_keys_in sNext) Γ k := propext Iff.rfl
def b3_keys_in : FS := (sRet (eOfF (eLc (sItems (eVar 1)) (.name 2) [2] (tB1 (eOp geD (eVar 2) (eC (.int 0)))) (eVar 2))))
theorem b3_keys_in_r (Γ : DL.Env) (k : KS) : b3_keys_in Γ k = (sRet (eOfF (eLc (sItems (eVar 1)) (.name 2) [2] (tB1 (eOp geD (eVar 2) (eC (.int 0)))) (eVar 2)))) Γ k := propext Iff.rfl
def m_keys_in : List D → WD D := fn0 4
    (sSeq b2_keys_in
    b3_keys_in)
theorem m_keys_in_r (ds : List D) (Q : D → Prop) (E : Str → Prop) : m_keys_in ds Q E = fn0 4 (sSeq b2_keys_in
    b3_keys_in) ds Q E := propext Iff.rfl
def b1_each_once : FS := (sIf (tB1 (eOp (inD true) (eVar 2) (eVar 1))) (sApp 1 (eVar 2)) sNext)
theorem b1_each_once_r (Γ : DL.Env) (k : KS) : b1_each_once Γ k = (sIf (tB1 (eOp (inD true) (eVar 2) (eVar 1))) (sApp 1 (eVar 2)) sNext) Γ k := propext Iff.rfl
def m_each_once : List D → WD D := fn0 3
    (sSeq (sSetF 1 (eLst aNil))
    (sSeq (sFor (sItems (eVar 0)) (.name 2) b1_each_once)
    (sRet (eVar 1))))
theorem m_each_once_r (ds : List D) (Q : D → Prop) (E : Str → Prop) : m_each_once ds Q E = fn0 3 (sSeq (sSetF 1 (eLst aNil))
    (sSeq (sFor (sItems (eVar 0)) (.name 2) b1_each_once)
    (sRet (eVar 1)))) ds Q E := propext Iff.rfl
def b1_with_slot : FS := (sRet (eOp addD (eOp addD (eSl (eVar 0) oNone (oSome (eVar 1))) (eTup (aCons (eVar 2) aNil))) (eSl (eVar 0) (oSome (eOp addD (eVar 1) (eC (.int 1)))) oNone)))
theorem b1_with_slot_r (Γ : DL.Env) (k : KS) : b1_with_slot Γ k = (sRet (eOp addD (eOp addD (eSl (eVar 0) oNone (oSome (eVar 1))) (eTup (aCons (eVar 2) aNil))) (eSl (eVar 0) (oSome (eOp addD (eVar 1) (eC (.int 1)))) oNone))) Γ k := propext Iff.rfl
def m_with_slot : List D → WD D := fn0 3
    b1_with_slot
theorem m_with_slot_r (ds : List D) (Q : D → Prop) (E : Str → Prop) : m_with_slot ds Q E = fn0 3 b1_with_slot ds Q E := propext Iff.rfl
def b1_watcher_left : FS := (sRet (eCb (one1 tupleD) (aCons (eOfF (eLc (sItems (eOp idxD (eFld "Watcher" "left_along" (eVar 0)) (eUn negD (eC (.int 1))))) (.tup [(.name 1), (.name 2)]) [1, 2] tYesD (eVar 1))) aNil)))
theorem b1_watcher_left_r (Γ : DL.Env) (k : KS) : b1_watcher_left Γ k = (sRet (eCb (one1 tupleD) (aCons (eOfF (eLc (sItems (eOp idxD (eFld "Watcher" "left_along" (eVar 0)) (eUn negD (eC (.int 1))))) (.tup [(.name 1), (.name 2)]) [1, 2] tYesD (eVar 1))) aNil))) Γ k := propext Iff.rfl
def m_watcher_left : List D → WD D := fn0 3
    b1_watcher_left
theorem m_watcher_left_r (ds : List D) (Q : D → Prop) (E : Str → Prop) : m_watcher_left ds Q E = fn0 3 b1_watcher_left ds Q E := propext Iff.rfl
def b1_watcher_notes : FS := (sRet (eCb (one1 tupleD) (aCons (eFld "Watcher" "noted" (eVar 0)) aNil)))
theorem b1_watcher_notes_r (Γ : DL.Env) (k : KS) : b1_watcher_notes Γ k = (sRet (eCb (one1 tupleD) (aCons (eFld "Watcher" "noted" (eVar 0)) aNil))) Γ k := propext Iff.rfl
def m_watcher_notes : List D → WD D := fn0 1
    b1_watcher_notes
theorem m_watcher_notes_r (ds : List D) (Q : D → Prop) (E : Str → Prop) : m_watcher_notes ds Q E = fn0 1 b1_watcher_notes ds Q E := propext Iff.rfl
def b1_watcher_undo : FSS := (mIf (tR (tB1 (eOp (eqD false) (eFld "Watcher" "noted" (eVar 0)) (eOfF (eLst aNil))))) (sC (sRaise "NothingToUndo")) mNext)
theorem b1_watcher_undo_r (Γ : DL.Env) (S : Sto) (k : KSS) : b1_watcher_undo Γ S k = (mIf (tR (tB1 (eOp (eqD false) (eFld "Watcher" "noted" (eVar 0)) (eOfF (eLst aNil))))) (sC (sRaise "NothingToUndo")) mNext) Γ S k := propext Iff.rfl
def m_watcher_undo : List D → Sto → WS D := fnS 1
    (mSeq b1_watcher_undo
    (mSeq (mDrop (mFPop "Watcher" "left_along" (eVar 0)))
    (mRet (mFPop "Watcher" "noted" (eVar 0)))))
theorem m_watcher_undo_r (ds : List D) (S : Sto) (Q : D → Sto → Prop) (E : Str → Sto → Prop) : m_watcher_undo ds S Q E = fnS 1 (mSeq b1_watcher_undo
    (mSeq (mDrop (mFPop "Watcher" "left_along" (eVar 0)))
    (mRet (mFPop "Watcher" "noted" (eVar 0))))) ds S Q E := propext Iff.rfl
def b1_watcher_len : FS := (sRet (eCb (one1 lenD) (aCons (eFld "Watcher" "noted" (eVar 0)) aNil)))
theorem b1_watcher_len_r (Γ : DL.Env) (k : KS) : b1_watcher_len Γ k = (sRet (eCb (one1 lenD) (aCons (eFld "Watcher" "noted" (eVar 0)) aNil))) Γ k := propext Iff.rfl
def m_watcher_len : List D → WD D := fn0 1
    b1_watcher_len
theorem m_watcher_len_r (ds : List D) (Q : D → Prop) (E : Str → Prop) : m_watcher_len ds Q E = fn0 1 b1_watcher_len ds Q E := propext Iff.rfl
def b1_desk_undo : FSS := (mIf (tR (tB1 (eOp (eqD false) (eFld "Desk" "past" (eVar 0)) (eOfF (eLst aNil))))) (sC (sRaise "NothingToUndo")) mNext)
theorem b1_desk_undo_r (Γ : DL.Env) (S : Sto) (k : KSS) : b1_desk_undo Γ S k = (mIf (tR (tB1 (eOp (eqD false) (eFld "Desk" "past" (eVar 0)) (eOfF (eLst aNil))))) (sC (sRaise "NothingToUndo")) mNext) Γ S k := propext Iff.rfl
def b2_desk_undo : FSS := (mRet (mR (eOp idxD (eFld "Desk" "future" (eVar 0)) (eUn negD (eC (.int 1))))))
theorem b2_desk_undo_r (Γ : DL.Env) (S : Sto) (k : KSS) : b2_desk_undo Γ S k = (mRet (mR (eOp idxD (eFld "Desk" "future" (eVar 0)) (eUn negD (eC (.int 1)))))) Γ S k := propext Iff.rfl
def m_desk_undo : List D → Sto → WS D := fnS 1
    (mSeq b1_desk_undo
    (mSeq (mDrop (mFPop "Desk" "tables" (eVar 0)))
    (mSeq (mFAppPop "Desk" "future" "past" (eVar 0))
    b2_desk_undo)))
theorem m_desk_undo_r (ds : List D) (S : Sto) (Q : D → Sto → Prop) (E : Str → Sto → Prop) : m_desk_undo ds S Q E = fnS 1 (mSeq b1_desk_undo
    (mSeq (mDrop (mFPop "Desk" "tables" (eVar 0)))
    (mSeq (mFAppPop "Desk" "future" "past" (eVar 0))
    b2_desk_undo))) ds S Q E := propext Iff.rfl
def b1_desk_history : FS := (sRet (eCb (one1 tupleD) (aCons (eFld "Desk" "past" (eVar 0)) aNil)))
theorem b1_desk_history_r (Γ : DL.Env) (k : KS) : b1_desk_history Γ k = (sRet (eCb (one1 tupleD) (aCons (eFld "Desk" "past" (eVar 0)) aNil))) Γ k := propext Iff.rfl
def m_desk_history : List D → WD D := fn0 1
    b1_desk_history
theorem m_desk_history_r (ds : List D) (Q : D → Prop) (E : Str → Prop) : m_desk_history ds Q E = fn0 1 b1_desk_history ds Q E := propext Iff.rfl
def b1_desk_len : FS := (sRet (eCb (one1 lenD) (aCons (eFld "Desk" "past" (eVar 0)) aNil)))
theorem b1_desk_len_r (Γ : DL.Env) (k : KS) : b1_desk_len Γ k = (sRet (eCb (one1 lenD) (aCons (eFld "Desk" "past" (eVar 0)) aNil))) Γ k := propext Iff.rfl
def m_desk_len : List D → WD D := fn0 1
    b1_desk_len
theorem m_desk_len_r (ds : List D) (Q : D → Prop) (E : Str → Prop) : m_desk_len ds Q E = fn0 1 b1_desk_len ds Q E := propext Iff.rfl
def b1__law_result : FS := (sRet (eTup (aCons (eC (.str "returns")) (aCons (eVar 4) aNil))))
def b2__law_result : FS := (sIf (tB1 (eOp (isND false) (eVar 3) (eC .none))) b1__law_result sNext)
def b3__law_result : FS := (sSetD 1 (dDisp (pCons (eC (.str "way")) (eUn1 (isXD "InvalidWay") (eVar 3)) (pCons (eC (.str "ways")) (eUn1 (isXD "InvalidWays") (eVar 3)) pNil))))
def b4__law_result : FS := (sUpd 1 (dDisp (pCons (eC (.str "size")) (eUn1 (isXD "InvalidSize") (eVar 3)) (pCons (eC (.str "key")) (eUn1 (isXD "InvalidKey") (eVar 3)) pNil))))
def b5__law_result : FS := (sUpd 1 (dDisp (pCons (eC (.str "all")) (eUn1 (isXD "InvalidKeys") (eVar 3)) (pCons (eC (.str "row")) (eUn1 (isXD "InvalidRow") (eVar 3)) pNil))))
def b6__law_result : FS := (sUpd 1 (dDisp (pCons (eC (.str "sight")) (eUn1 (isXD "InvalidSight") (eVar 3)) (pCons (eC (.str "seen")) (eUn1 (isXD "InvalidSeen") (eVar 3)) pNil))))
def b7__law_result : FS := (sUpd 1 (dDisp (pCons (eC (.str "order")) (eUn1 (isXD "InvalidOrder") (eVar 3)) pNil)))
def b8__law_result : FS := (sUpd 1 (dDisp (pCons (eC (.str "table")) (eUn1 (isXD "InvalidTable") (eVar 3)) (pCons (eC (.str "number")) (eUn1 (isXD "InvalidNumber") (eVar 3)) pNil))))
def b9__law_result : FS := (sUpd 1 (dDisp (pCons (eC (.str "deed")) (eUn1 (isXD "InvalidDeed") (eVar 3)) (pCons (eC (.str "text")) (eUn1 (isXD "InvalidText") (eVar 3)) pNil))))
def b10__law_result : FS := (sUpd 1 (dDisp (pCons (eC (.str "large")) (eUn1 (isXD "TooLarge") (eVar 3)) (pCons (eC (.str "alike")) (eUn1 (isXD "Alike") (eVar 3)) pNil))))
def b11__law_result : FS := (sUpd 1 (dDisp (pCons (eC (.str "sound")) (eUn1 (isXD "Sound") (eVar 3)) (pCons (eC (.str "shown")) (eUn1 (isXD "NotShown") (eVar 3)) pNil))))
def b12__law_result : FS := (sUpd 1 (dDisp (pCons (eC (.str "there")) (eUn1 (isXD "NoRow") (eVar 3)) (pCons (eC (.str "many")) (eUn1 (isXD "TooMany") (eVar 3)) pNil))))
def b13__law_result : FS := (sUpd 1 (dDisp (pCons (eC (.str "undo")) (eUn1 (isXD "NothingToUndo") (eVar 3)) pNil)))
def b14__law_result : FS := (sSetFP 2 (eLc (sKeys2 (eVar 1)) (.name 5) [5] (tB1 (eOp dgetD (eVar 1) (eVar 5))) (eVar 5)))
def b15__law_result : FS := (sRet (eIf (tAndD (tB1 (eOp (eqD false) (eCb (one1 lenD) (aCons (eVar 2) aNil)) (eC (.int 1)))) (tB1 (eUn1 isVD (eVar 3)))) (eTup (aCons (eOp idxD (eVar 2) (eC (.int 0))) aNil)) (eTup (aCons (eC (.str "other error")) aNil))))
def g__law_result : FS := (sSeq b2__law_result
    (sSeq b3__law_result
    (sSeq b4__law_result
    (sSeq b5__law_result
    (sSeq b6__law_result
    (sSeq b7__law_result
    (sSeq b8__law_result
    (sSeq b9__law_result
    (sSeq b10__law_result
    (sSeq b11__law_result
    (sSeq b12__law_result
    (sSeq b13__law_result
    (sLck 1 (sSeq b14__law_result
    (sFrz 2 b15__law_result)))))))))))))))
def b1_is_slot_way : FS := (sIf (tOrD (tB1 (eOp (eqD true) (eCb (one1 lenD) (aCons (eVar 0) aNil)) (eC (.int 6)))) (tOrD (tNotD (tB1 (eCb m_is_word (aCons (eOp idxD (eVar 0) (eC (.int 1))) (aCons (eC c_HOMES) aNil))))) (tNotD (tB1 (eCb m_is_word (aCons (eOp idxD (eVar 0) (eC (.int 2))) (aCons (eC c_STEPS) aNil))))))) (sRet (eC (.bool false))) sNext)
theorem b1_is_slot_way_r (Γ : DL.Env) (k : KS) : b1_is_slot_way Γ k = (sIf (tOrD (tB1 (eOp (eqD true) (eCb (one1 lenD) (aCons (eVar 0) aNil)) (eC (.int 6)))) (tOrD (tNotD (tB1 (eCb m_is_word (aCons (eOp idxD (eVar 0) (eC (.int 1))) (aCons (eC c_HOMES) aNil))))) (tNotD (tB1 (eCb m_is_word (aCons (eOp idxD (eVar 0) (eC (.int 2))) (aCons (eC c_STEPS) aNil))))))) (sRet (eC (.bool false))) sNext) Γ k := propext Iff.rfl
def b2_is_slot_way : FS := (sIf (tOrD (tNotD (tB1 (eCb m_is_word (aCons (eOp idxD (eVar 0) (eC (.int 3))) (aCons (eC c_COMES) aNil))))) (tOrD (tNotD (tB1 (eCb m_is_word (aCons (eOp idxD (eVar 0) (eC (.int 4))) (aCons (eC c_GONES) aNil))))) (tNotD (tB1 (eCb m_is_word (aCons (eOp idxD (eVar 0) (eC (.int 5))) (aCons (eC c_GROWS) aNil))))))) (sRet (eC (.bool false))) sNext)
theorem b2_is_slot_way_r (Γ : DL.Env) (k : KS) : b2_is_slot_way Γ k = (sIf (tOrD (tNotD (tB1 (eCb m_is_word (aCons (eOp idxD (eVar 0) (eC (.int 3))) (aCons (eC c_COMES) aNil))))) (tOrD (tNotD (tB1 (eCb m_is_word (aCons (eOp idxD (eVar 0) (eC (.int 4))) (aCons (eC c_GONES) aNil))))) (tNotD (tB1 (eCb m_is_word (aCons (eOp idxD (eVar 0) (eC (.int 5))) (aCons (eC c_GROWS) aNil))))))) (sRet (eC (.bool false))) sNext) Γ k := propext Iff.rfl
def b3_is_slot_way : FS := (sRet (eOr (eOp (inD false) (eOp idxD (eVar 0) (eC (.int 2))) (eTup (aCons (eC (.str "up")) (aCons (eC (.str "down")) aNil)))) (eAnd (eOp (inD false) (eOp idxD (eVar 0) (eC (.int 3))) (eTup (aCons (eC (.str "late")) (aCons (eC (.str "empty")) aNil)))) (eOp (eqD true) (eOp idxD (eVar 0) (eC (.int 4))) (eC (.str "pull"))))))
theorem b3_is_slot_way_r (Γ : DL.Env) (k : KS) : b3_is_slot_way Γ k = (sRet (eOr (eOp (inD false) (eOp idxD (eVar 0) (eC (.int 2))) (eTup (aCons (eC (.str "up")) (aCons (eC (.str "down")) aNil)))) (eAnd (eOp (inD false) (eOp idxD (eVar 0) (eC (.int 3))) (eTup (aCons (eC (.str "late")) (aCons (eC (.str "empty")) aNil)))) (eOp (eqD true) (eOp idxD (eVar 0) (eC (.int 4))) (eC (.str "pull")))))) Γ k := propext Iff.rfl
def m_is_slot_way : List D → WD D := fn0 1
    (sSeq b1_is_slot_way
    (sSeq b2_is_slot_way
    b3_is_slot_way))
theorem m_is_slot_way_r (ds : List D) (Q : D → Prop) (E : Str → Prop) : m_is_slot_way ds Q E = fn0 1 (sSeq b1_is_slot_way
    (sSeq b2_is_slot_way
    b3_is_slot_way)) ds Q E := propext Iff.rfl
def b1_is_key : FS := (sRet (eCb m_is_between (aCons (eVar 0) (aCons (eC (.int 0)) (aCons (eC (.int 31)) aNil)))))
theorem b1_is_key_r (Γ : DL.Env) (k : KS) : b1_is_key Γ k = (sRet (eCb m_is_between (aCons (eVar 0) (aCons (eC (.int 0)) (aCons (eC (.int 31)) aNil))))) Γ k := propext Iff.rfl
def m_is_key : List D → WD D := fn0 1
    b1_is_key
theorem m_is_key_r (ds : List D) (Q : D → Prop) (E : Str → Prop) : m_is_key ds Q E = fn0 1 b1_is_key ds Q E := propext Iff.rfl
def b1_check_sight : FS := (sIf (tNotD (tB1 (eCb m_is_word (aCons (eVar 0) (aCons (eC c_SIGHTS) aNil))))) (sRaise "InvalidSight") sNext)
theorem b1_check_sight_r (Γ : DL.Env) (k : KS) : b1_check_sight Γ k = (sIf (tNotD (tB1 (eCb m_is_word (aCons (eVar 0) (aCons (eC c_SIGHTS) aNil))))) (sRaise "InvalidSight") sNext) Γ k := propext Iff.rfl
def m_check_sight : List D → WD D := fn0 1
    b1_check_sight
theorem m_check_sight_r (ds : List D) (Q : D → Prop) (E : Str → Prop) : m_check_sight ds Q E = fn0 1 b1_check_sight ds Q E := propext Iff.rfl
def b1_walk_of : FS := (sSet 3 (eCb m_home_of (aCons (eVar 0) (aCons (eVar 1) (aCons (eVar 2) aNil)))))
theorem b1_walk_of_r (Γ : DL.Env) (k : KS) : b1_walk_of Γ k = (sSet 3 (eCb m_home_of (aCons (eVar 0) (aCons (eVar 1) (aCons (eVar 2) aNil))))) Γ k := propext Iff.rfl
def b2_walk_of : FS := (sIf (tB1 (eOp (eqD false) (eOp idxD (eVar 0) (eC (.int 0))) (eC (.str "rows")))) (sRet (eTup (aCons (eVar 3) aNil))) sNext)
theorem b2_walk_of_r (Γ : DL.Env) (k : KS) : b2_walk_of Γ k = (sIf (tB1 (eOp (eqD false) (eOp idxD (eVar 0) (eC (.int 0))) (eC (.str "rows")))) (sRet (eTup (aCons (eVar 3) aNil))) sNext) Γ k := propext Iff.rfl
def b3_walk_of : FS := (sRet (eCb (one1 tupleD) (aCons (eOfF (eLc (eCbF rng1 (aCons (eVar 2) aNil)) (.name 4) [4] tYesD (eOp modD (eOp addD (eVar 3) (eVar 4)) (eVar 2)))) aNil)))
theorem b3_walk_of_r (Γ : DL.Env) (k : KS) : b3_walk_of Γ k = (sRet (eCb (one1 tupleD) (aCons (eOfF (eLc (eCbF rng1 (aCons (eVar 2) aNil)) (.name 4) [4] tYesD (eOp modD (eOp addD (eVar 3) (eVar 4)) (eVar 2)))) aNil))) Γ k := propext Iff.rfl
def b4_walk_of : FS := (sIf (tB1 (eOp (eqD false) (eOp idxD (eVar 0) (eC (.int 2))) (eC (.str "up")))) b3_walk_of sNext)
theorem b4_walk_of_r (Γ : DL.Env) (k : KS) : b4_walk_of Γ k = (sIf (tB1 (eOp (eqD false) (eOp idxD (eVar 0) (eC (.int 2))) (eC (.str "up")))) b3_walk_of sNext) Γ k := propext Iff.rfl
def b5_walk_of : FS := (sRet (eCb (one1 tupleD) (aCons (eOfF (eLc (eCbF rng1 (aCons (eVar 2) aNil)) (.name 4) [4] tYesD (eOp modD (eOp subD (eVar 3) (eVar 4)) (eVar 2)))) aNil)))
theorem b5_walk_of_r (Γ : DL.Env) (k : KS) : b5_walk_of Γ k = (sRet (eCb (one1 tupleD) (aCons (eOfF (eLc (eCbF rng1 (aCons (eVar 2) aNil)) (.name 4) [4] tYesD (eOp modD (eOp subD (eVar 3) (eVar 4)) (eVar 2)))) aNil))) Γ k := propext Iff.rfl
def b6_walk_of : FS := (sIf (tB1 (eOp (eqD false) (eOp idxD (eVar 0) (eC (.int 2))) (eC (.str "down")))) b5_walk_of sNext)
theorem b6_walk_of_r (Γ : DL.Env) (k : KS) : b6_walk_of Γ k = (sIf (tB1 (eOp (eqD false) (eOp idxD (eVar 0) (eC (.int 2))) (eC (.str "down")))) b5_walk_of sNext) Γ k := propext Iff.rfl
def b7_walk_of : FS := (sRet (eCb (one1 tupleD) (aCons (eOfF (eLc (eCbF rng1 (aCons (eVar 2) aNil)) (.name 4) [4] tYesD (eOp modD (eOp addD (eVar 3) (eOp fdivD (eOp mulD (eVar 4) (eOp addD (eVar 4) (eC (.int 1)))) (eC (.int 2)))) (eVar 2)))) aNil)))
theorem b7_walk_of_r (Γ : DL.Env) (k : KS) : b7_walk_of Γ k = (sRet (eCb (one1 tupleD) (aCons (eOfF (eLc (eCbF rng1 (aCons (eVar 2) aNil)) (.name 4) [4] tYesD (eOp modD (eOp addD (eVar 3) (eOp fdivD (eOp mulD (eVar 4) (eOp addD (eVar 4) (eC (.int 1)))) (eC (.int 2)))) (eVar 2)))) aNil))) Γ k := propext Iff.rfl
def b8_walk_of : FS := (sIf (tB1 (eOp (eqD false) (eOp idxD (eVar 0) (eC (.int 2))) (eC (.str "wide")))) b7_walk_of sNext)
theorem b8_walk_of_r (Γ : DL.Env) (k : KS) : b8_walk_of Γ k = (sIf (tB1 (eOp (eqD false) (eOp idxD (eVar 0) (eC (.int 2))) (eC (.str "wide")))) b7_walk_of sNext) Γ k := propext Iff.rfl
def b9_walk_of : FS := (sRet (eCb (one1 tupleD) (aCons (eOfF (eLc (eCbF rng1 (aCons (eVar 2) aNil)) (.name 4) [4] tYesD (eOp modD (eOp addD (eVar 3) (eOp mulD (eVar 4) (eOp addD (eC (.int 1)) (eOp mulD (eC (.int 2)) (eOp modD (eOp fdivD (eVar 1) (eC (.int 8))) (eC (.int 2))))))) (eVar 2)))) aNil)))
theorem b9_walk_of_r (Γ : DL.Env) (k : KS) : b9_walk_of Γ k = (sRet (eCb (one1 tupleD) (aCons (eOfF (eLc (eCbF rng1 (aCons (eVar 2) aNil)) (.name 4) [4] tYesD (eOp modD (eOp addD (eVar 3) (eOp mulD (eVar 4) (eOp addD (eC (.int 1)) (eOp mulD (eC (.int 2)) (eOp modD (eOp fdivD (eVar 1) (eC (.int 8))) (eC (.int 2))))))) (eVar 2)))) aNil))) Γ k := propext Iff.rfl
def m_walk_of : List D → WD D := fn0 5
    (sSeq b1_walk_of
    (sSeq b2_walk_of
    (sSeq b4_walk_of
    (sSeq b6_walk_of
    (sSeq b8_walk_of
    b9_walk_of)))))
theorem m_walk_of_r (ds : List D) (Q : D → Prop) (E : Str → Prop) : m_walk_of ds Q E = fn0 5 (sSeq b1_walk_of
    (sSeq b2_walk_of
    (sSeq b4_walk_of
    (sSeq b6_walk_of
    (sSeq b8_walk_of
    b9_walk_of))))) ds Q E := propext Iff.rfl
def b1_order_in : FS := (sRet (eCb (one1 tupleD) (aCons (eCb m_keys_in (aCons (eVar 0) (aCons (eVar 1) aNil))) aNil)))
theorem b1_order_in_r (Γ : DL.Env) (k : KS) : b1_order_in Γ k = (sRet (eCb (one1 tupleD) (aCons (eCb m_keys_in (aCons (eVar 0) (aCons (eVar 1) aNil))) aNil))) Γ k := propext Iff.rfl
def m_order_in : List D → WD D := fn0 2
    b1_order_in
theorem m_order_in_r (ds : List D) (Q : D → Prop) (E : Str → Prop) : m_order_in ds Q E = fn0 2 b1_order_in ds Q E := propext Iff.rfl
def b1_distance : FS := (sSet 4 (eCb m_home_of (aCons (eVar 0) (aCons (eVar 1) (aCons (eVar 3) aNil)))))
theorem b1_distance_r (Γ : DL.Env) (k : KS) : b1_distance Γ k = (sSet 4 (eCb m_home_of (aCons (eVar 0) (aCons (eVar 1) (aCons (eVar 3) aNil))))) Γ k := propext Iff.rfl
def b2_distance : FS := (sRet (eIf (tB1 (eOp (eqD false) (eOp idxD (eVar 0) (eC (.int 2))) (eC (.str "up")))) (eOp modD (eOp subD (eVar 2) (eVar 4)) (eVar 3)) (eOp modD (eOp subD (eVar 4) (eVar 2)) (eVar 3))))
theorem b2_distance_r (Γ : DL.Env) (k : KS) : b2_distance Γ k = (sRet (eIf (tB1 (eOp (eqD false) (eOp idxD (eVar 0) (eC (.int 2))) (eC (.str "up")))) (eOp modD (eOp subD (eVar 2) (eVar 4)) (eVar 3)) (eOp modD (eOp subD (eVar 4) (eVar 2)) (eVar 3)))) Γ k := propext Iff.rfl
def m_distance : List D → WD D := fn0 5
    (sSeq b1_distance
    b2_distance)
theorem m_distance_r (ds : List D) (Q : D → Prop) (E : Str → Prop) : m_distance ds Q E = fn0 5 (sSeq b1_distance
    b2_distance) ds Q E := propext Iff.rfl
def b1_used_in : FS := (sRet (eCb (one1 lenD) (aCons (eCb m_keys_in (aCons (eVar 0) (aCons (eVar 1) aNil))) aNil)))
theorem b1_used_in_r (Γ : DL.Env) (k : KS) : b1_used_in Γ k = (sRet (eCb (one1 lenD) (aCons (eCb m_keys_in (aCons (eVar 0) (aCons (eVar 1) aNil))) aNil))) Γ k := propext Iff.rfl
def b2_used_in : FS := (sIf (tB1 (eOp (eqD false) (eOp idxD (eVar 0) (eC (.int 0))) (eC (.str "rows")))) b1_used_in sNext)
theorem b2_used_in_r (Γ : DL.Env) (k : KS) : b2_used_in Γ k = (sIf (tB1 (eOp (eqD false) (eOp idxD (eVar 0) (eC (.int 0))) (eC (.str "rows")))) b1_used_in sNext) Γ k := propext Iff.rfl
def b3_used_in : FS := (sRet (eCb (one1 lenD) (aCons (eOfF (eLc (sItems (eVar 1)) (.name 2) [2] (tB1 (eOp (eqD true) (eVar 2) (eC (.int (-1))))) (eVar 2))) aNil)))
theorem b3_used_in_r (Γ : DL.Env) (k : KS) : b3_used_in Γ k = (sRet (eCb (one1 lenD) (aCons (eOfF (eLc (sItems (eVar 1)) (.name 2) [2] (tB1 (eOp (eqD true) (eVar 2) (eC (.int (-1))))) (eVar 2))) aNil))) Γ k := propext Iff.rfl
def m_used_in : List D → WD D := fn0 3
    (sSeq b2_used_in
    b3_used_in)
theorem m_used_in_r (ds : List D) (Q : D → Prop) (E : Str → Prop) : m_used_in ds Q E = fn0 3 (sSeq b2_used_in
    b3_used_in) ds Q E := propext Iff.rfl
def b1__law_way : FS := (sSet 2 (eOp idxD (eTup (aCons (eC (.str "low")) (aCons (eC (.str "fold")) aNil))) (eOp fdivD (eCb m__law_draw (aCons (eVar 0) (aCons (eVar 1) (aCons (eC (.int 3)) aNil)))) (eC (.int 2)))))
theorem b1__law_way_r (Γ : DL.Env) (k : KS) : b1__law_way Γ k = (sSet 2 (eOp idxD (eTup (aCons (eC (.str "low")) (aCons (eC (.str "fold")) aNil))) (eOp fdivD (eCb m__law_draw (aCons (eVar 0) (aCons (eVar 1) (aCons (eC (.int 3)) aNil)))) (eC (.int 2))))) Γ k := propext Iff.rfl
def b2__law_way : FS := (sSet 5 (eOp idxD (eTup (aCons (eC (.str "front")) (aCons (eC (.str "end")) aNil))) (eCb m__law_draw (aCons (eVar 0) (aCons (eVar 1) (aCons (eC (.int 2)) aNil))))))
theorem b2__law_way_r (Γ : DL.Env) (k : KS) : b2__law_way Γ k = (sSet 5 (eOp idxD (eTup (aCons (eC (.str "front")) (aCons (eC (.str "end")) aNil))) (eCb m__law_draw (aCons (eVar 0) (aCons (eVar 1) (aCons (eC (.int 2)) aNil)))))) Γ k := propext Iff.rfl
def b3__law_way : FS := (sRet (eTup (aCons (eC (.str "rows")) (aCons (eVar 2) (aCons (eVar 5) (aCons (eOp idxD (eTup (aCons (eC (.str "one")) (aCons (eC (.str "two")) aNil))) (eCb m__law_draw (aCons (eVar 0) (aCons (eVar 1) (aCons (eC (.int 2)) aNil))))) aNil))))))
theorem b3__law_way_r (Γ : DL.Env) (k : KS) : b3__law_way Γ k = (sRet (eTup (aCons (eC (.str "rows")) (aCons (eVar 2) (aCons (eVar 5) (aCons (eOp idxD (eTup (aCons (eC (.str "one")) (aCons (eC (.str "two")) aNil))) (eCb m__law_draw (aCons (eVar 0) (aCons (eVar 1) (aCons (eC (.int 2)) aNil))))) aNil)))))) Γ k := propext Iff.rfl
def b4__law_way : FS := (sIf (tB1 (eOp (eqD false) (eCb m__law_draw (aCons (eVar 0) (aCons (eVar 1) (aCons (eC (.int 9)) aNil)))) (eC (.int 0)))) (sSeq b2__law_way
    b3__law_way) sNext)
theorem b4__law_way_r (Γ : DL.Env) (k : KS) : b4__law_way Γ k = (sIf (tB1 (eOp (eqD false) (eCb m__law_draw (aCons (eVar 0) (aCons (eVar 1) (aCons (eC (.int 9)) aNil)))) (eC (.int 0)))) (sSeq b2__law_way
    b3__law_way) sNext) Γ k := propext Iff.rfl
def b5__law_way : FS := (sSet 3 (eOp idxD (eTup (aCons (eC (.str "up")) (aCons (eC (.str "down")) (aCons (eC (.str "up")) (aCons (eC (.str "wide")) (aCons (eC (.str "own")) aNil)))))) (eCb m__law_draw (aCons (eVar 0) (aCons (eVar 1) (aCons (eC (.int 5)) aNil))))))
theorem b5__law_way_r (Γ : DL.Env) (k : KS) : b5__law_way Γ k = (sSet 3 (eOp idxD (eTup (aCons (eC (.str "up")) (aCons (eC (.str "down")) (aCons (eC (.str "up")) (aCons (eC (.str "wide")) (aCons (eC (.str "own")) aNil)))))) (eCb m__law_draw (aCons (eVar 0) (aCons (eVar 1) (aCons (eC (.int 5)) aNil)))))) Γ k := propext Iff.rfl
def b6__law_way : FS := (sSet 4 (eOp (inD false) (eVar 3) (eTup (aCons (eC (.str "up")) (aCons (eC (.str "down")) aNil)))))
theorem b6__law_way_r (Γ : DL.Env) (k : KS) : b6__law_way Γ k = (sSet 4 (eOp (inD false) (eVar 3) (eTup (aCons (eC (.str "up")) (aCons (eC (.str "down")) aNil))))) Γ k := propext Iff.rfl
def b7__law_way : FS := (sSet 5 (eOp idxD (eTup (aCons (eC (.str "late")) (aCons (eC (.str "empty")) (aCons (eC (.str "near")) (aCons (eC (.str "first")) aNil))))) (eCb m__law_draw (aCons (eVar 0) (aCons (eVar 1) (aCons (eIf (tTru (eVar 4)) (eC (.int 4)) (eC (.int 2))) aNil))))))
theorem b7__law_way_r (Γ : DL.Env) (k : KS) : b7__law_way Γ k = (sSet 5 (eOp idxD (eTup (aCons (eC (.str "late")) (aCons (eC (.str "empty")) (aCons (eC (.str "near")) (aCons (eC (.str "first")) aNil))))) (eCb m__law_draw (aCons (eVar 0) (aCons (eVar 1) (aCons (eIf (tTru (eVar 4)) (eC (.int 4)) (eC (.int 2))) aNil)))))) Γ k := propext Iff.rfl
def b8__law_way : FS := (sSet 6 (eOp idxD (eTup (aCons (eC (.str "mark")) (aCons (eC (.str "hole")) (aCons (eC (.str "again")) (aCons (eC (.str "pull")) aNil))))) (eCb m__law_draw (aCons (eVar 0) (aCons (eVar 1) (aCons (eIf (tTru (eVar 4)) (eC (.int 4)) (eC (.int 3))) aNil))))))
theorem b8__law_way_r (Γ : DL.Env) (k : KS) : b8__law_way Γ k = (sSet 6 (eOp idxD (eTup (aCons (eC (.str "mark")) (aCons (eC (.str "hole")) (aCons (eC (.str "again")) (aCons (eC (.str "pull")) aNil))))) (eCb m__law_draw (aCons (eVar 0) (aCons (eVar 1) (aCons (eIf (tTru (eVar 4)) (eC (.int 4)) (eC (.int 3))) aNil)))))) Γ k := propext Iff.rfl
def b9__law_way : FS := (sRet (eTup (aCons (eC (.str "slots")) (aCons (eVar 2) (aCons (eVar 3) (aCons (eVar 5) (aCons (eVar 6) (aCons (eOp idxD (eTup (aCons (eC (.str "half")) (aCons (eC (.str "three")) (aCons (eC (.str "full")) aNil)))) (eCb m__law_draw (aCons (eVar 0) (aCons (eVar 1) (aCons (eC (.int 3)) aNil))))) aNil))))))))
theorem b9__law_way_r (Γ : DL.Env) (k : KS) : b9__law_way Γ k = (sRet (eTup (aCons (eC (.str "slots")) (aCons (eVar 2) (aCons (eVar 3) (aCons (eVar 5) (aCons (eVar 6) (aCons (eOp idxD (eTup (aCons (eC (.str "half")) (aCons (eC (.str "three")) (aCons (eC (.str "full")) aNil)))) (eCb m__law_draw (aCons (eVar 0) (aCons (eVar 1) (aCons (eC (.int 3)) aNil))))) aNil)))))))) Γ k := propext Iff.rfl
def m__law_way : List D → WD D := fn0 7
    (sSeq b1__law_way
    (sSeq b4__law_way
    (sSeq b5__law_way
    (sSeq b6__law_way
    (sSeq b7__law_way
    (sSeq b8__law_way
    b9__law_way))))))
theorem m__law_way_r (ds : List D) (Q : D → Prop) (E : Str → Prop) : m__law_way ds Q E = fn0 7 (sSeq b1__law_way
    (sSeq b4__law_way
    (sSeq b5__law_way
    (sSeq b6__law_way
    (sSeq b7__law_way
    (sSeq b8__law_way
    b9__law_way)))))) ds Q E := propext Iff.rfl
def b1_is_way : FS := (sIf (tOrD (tNotD (tB1 (eUn1 (isiD "tuple") (eVar 0)))) (tOrD (tB1 (eOp (eqD false) (eVar 0) (eTup aNil))) (tNotD (tB1 (eCb m_is_word (aCons (eOp idxD (eVar 0) (eC (.int 0))) (aCons (eTup (aCons (eC (.str "slots")) (aCons (eC (.str "rows")) aNil))) aNil))))))) (sRet (eC (.bool false))) sNext)
theorem b1_is_way_r (Γ : DL.Env) (k : KS) : b1_is_way Γ k = (sIf (tOrD (tNotD (tB1 (eUn1 (isiD "tuple") (eVar 0)))) (tOrD (tB1 (eOp (eqD false) (eVar 0) (eTup aNil))) (tNotD (tB1 (eCb m_is_word (aCons (eOp idxD (eVar 0) (eC (.int 0))) (aCons (eTup (aCons (eC (.str "slots")) (aCons (eC (.str "rows")) aNil))) aNil))))))) (sRet (eC (.bool false))) sNext) Γ k := propext Iff.rfl
def b2_is_way : FS := (sIf (tB1 (eOp (eqD false) (eOp idxD (eVar 0) (eC (.int 0))) (eC (.str "slots")))) (sRet (eCb m_is_slot_way (aCons (eVar 0) aNil))) sNext)
theorem b2_is_way_r (Γ : DL.Env) (k : KS) : b2_is_way Γ k = (sIf (tB1 (eOp (eqD false) (eOp idxD (eVar 0) (eC (.int 0))) (eC (.str "slots")))) (sRet (eCb m_is_slot_way (aCons (eVar 0) aNil))) sNext) Γ k := propext Iff.rfl
def b3_is_way : FS := (sIf (tOrD (tB1 (eOp (eqD true) (eCb (one1 lenD) (aCons (eVar 0) aNil)) (eC (.int 4)))) (tNotD (tB1 (eCb m_is_word (aCons (eOp idxD (eVar 0) (eC (.int 1))) (aCons (eC c_HOMES) aNil)))))) (sRet (eC (.bool false))) sNext)
theorem b3_is_way_r (Γ : DL.Env) (k : KS) : b3_is_way Γ k = (sIf (tOrD (tB1 (eOp (eqD true) (eCb (one1 lenD) (aCons (eVar 0) aNil)) (eC (.int 4)))) (tNotD (tB1 (eCb m_is_word (aCons (eOp idxD (eVar 0) (eC (.int 1))) (aCons (eC c_HOMES) aNil)))))) (sRet (eC (.bool false))) sNext) Γ k := propext Iff.rfl
def b4_is_way : FS := (sRet (eAnd (eCb m_is_word (aCons (eOp idxD (eVar 0) (eC (.int 2))) (aCons (eTup (aCons (eC (.str "front")) (aCons (eC (.str "end")) aNil))) aNil))) (eCb m_is_word (aCons (eOp idxD (eVar 0) (eC (.int 3))) (aCons (eTup (aCons (eC (.str "one")) (aCons (eC (.str "two")) aNil))) aNil)))))
theorem b4_is_way_r (Γ : DL.Env) (k : KS) : b4_is_way Γ k = (sRet (eAnd (eCb m_is_word (aCons (eOp idxD (eVar 0) (eC (.int 2))) (aCons (eTup (aCons (eC (.str "front")) (aCons (eC (.str "end")) aNil))) aNil))) (eCb m_is_word (aCons (eOp idxD (eVar 0) (eC (.int 3))) (aCons (eTup (aCons (eC (.str "one")) (aCons (eC (.str "two")) aNil))) aNil))))) Γ k := propext Iff.rfl
def m_is_way : List D → WD D := fn0 1
    (sSeq b1_is_way
    (sSeq b2_is_way
    (sSeq b3_is_way
    b4_is_way)))
theorem m_is_way_r (ds : List D) (Q : D → Prop) (E : Str → Prop) : m_is_way ds Q E = fn0 1 (sSeq b1_is_way
    (sSeq b2_is_way
    (sSeq b3_is_way
    b4_is_way))) ds Q E := propext Iff.rfl
def b1_is_deed : FS := (sRet (eAnd (eUn1 (isiD "tuple") (eVar 0)) (eAnd (eOp (eqD false) (eCb (one1 lenD) (aCons (eVar 0) aNil)) (eC (.int 2))) (eAnd (eCb m_is_word (aCons (eOp idxD (eVar 0) (eC (.int 0))) (aCons (eC c_KINDS) aNil))) (eCb m_is_key (aCons (eOp idxD (eVar 0) (eC (.int 1))) aNil))))))
theorem b1_is_deed_r (Γ : DL.Env) (k : KS) : b1_is_deed Γ k = (sRet (eAnd (eUn1 (isiD "tuple") (eVar 0)) (eAnd (eOp (eqD false) (eCb (one1 lenD) (aCons (eVar 0) aNil)) (eC (.int 2))) (eAnd (eCb m_is_word (aCons (eOp idxD (eVar 0) (eC (.int 0))) (aCons (eC c_KINDS) aNil))) (eCb m_is_key (aCons (eOp idxD (eVar 0) (eC (.int 1))) aNil)))))) Γ k := propext Iff.rfl
def m_is_deed : List D → WD D := fn0 1
    b1_is_deed
theorem m_is_deed_r (ds : List D) (Q : D → Prop) (E : Str → Prop) : m_is_deed ds Q E = fn0 1 b1_is_deed ds Q E := propext Iff.rfl
def b1_found_at : FS := (sSet 5 (eOp idxD (eVar 1) (eCb m_home_of (aCons (eVar 0) (aCons (eVar 2) (aCons (eCb (one1 lenD) (aCons (eVar 1) aNil)) aNil))))))
theorem b1_found_at_r (Γ : DL.Env) (k : KS) : b1_found_at Γ k = (sSet 5 (eOp idxD (eVar 1) (eCb m_home_of (aCons (eVar 0) (aCons (eVar 2) (aCons (eCb (one1 lenD) (aCons (eVar 1) aNil)) aNil)))))) Γ k := propext Iff.rfl
def b2_found_at : FS := (sRet (eTup (aCons (eCb m_home_of (aCons (eVar 0) (aCons (eVar 2) (aCons (eCb (one1 lenD) (aCons (eVar 1) aNil)) aNil)))) (aCons (eOp addD (eMt plcD (eVar 5) (eVar 2)) (eC (.int 1))) aNil))))
theorem b2_found_at_r (Γ : DL.Env) (k : KS) : b2_found_at Γ k = (sRet (eTup (aCons (eCb m_home_of (aCons (eVar 0) (aCons (eVar 2) (aCons (eCb (one1 lenD) (aCons (eVar 1) aNil)) aNil)))) (aCons (eOp addD (eMt plcD (eVar 5) (eVar 2)) (eC (.int 1))) aNil)))) Γ k := propext Iff.rfl
def b3_found_at : FS := (sIf (tB1 (eOp (inD false) (eVar 2) (eVar 5))) b2_found_at sNext)
theorem b3_found_at_r (Γ : DL.Env) (k : KS) : b3_found_at Γ k = (sIf (tB1 (eOp (inD false) (eVar 2) (eVar 5))) b2_found_at sNext) Γ k := propext Iff.rfl
def b4_found_at : FS := (sRet (eTup (aCons (eC .none) (aCons (eCb (one1 lenD) (aCons (eVar 5) aNil)) aNil))))
theorem b4_found_at_r (Γ : DL.Env) (k : KS) : b4_found_at Γ k = (sRet (eTup (aCons (eC .none) (aCons (eCb (one1 lenD) (aCons (eVar 5) aNil)) aNil)))) Γ k := propext Iff.rfl
def b5_found_at : FS := (sIf (tB1 (eOp (eqD false) (eOp idxD (eVar 0) (eC (.int 0))) (eC (.str "rows")))) (sSeq b1_found_at
    (sSeq b3_found_at
    b4_found_at)) sNext)
theorem b5_found_at_r (Γ : DL.Env) (k : KS) : b5_found_at Γ k = (sIf (tB1 (eOp (eqD false) (eOp idxD (eVar 0) (eC (.int 0))) (eC (.str "rows")))) (sSeq b1_found_at
    (sSeq b3_found_at
    b4_found_at)) sNext) Γ k := propext Iff.rfl
def b6_found_at : FS := (sIf (tB1 (eOp (eqD false) (eOp idxD (eVar 1) (eVar 4)) (eC (.int (-1))))) (sRet (eTup (aCons (eC .none) (aCons (eVar 3) aNil)))) sNext)
theorem b6_found_at_r (Γ : DL.Env) (k : KS) : b6_found_at Γ k = (sIf (tB1 (eOp (eqD false) (eOp idxD (eVar 1) (eVar 4)) (eC (.int (-1))))) (sRet (eTup (aCons (eC .none) (aCons (eVar 3) aNil)))) sNext) Γ k := propext Iff.rfl
def b7_found_at : FS := (sIf (tB1 (eOp (eqD false) (eOp idxD (eVar 1) (eVar 4)) (eVar 2))) (sRet (eTup (aCons (eVar 4) (aCons (eVar 3) aNil)))) sNext)
theorem b7_found_at_r (Γ : DL.Env) (k : KS) : b7_found_at Γ k = (sIf (tB1 (eOp (eqD false) (eOp idxD (eVar 1) (eVar 4)) (eVar 2))) (sRet (eTup (aCons (eVar 4) (aCons (eVar 3) aNil)))) sNext) Γ k := propext Iff.rfl
def b8_found_at : FS := (sSeq (sAug 3 (fun i j => i + j) (eC (.int 1)))
    (sSeq b6_found_at
    b7_found_at))
theorem b8_found_at_r (Γ : DL.Env) (k : KS) : b8_found_at Γ k = (sSeq (sAug 3 (fun i j => i + j) (eC (.int 1)))
    (sSeq b6_found_at
    b7_found_at)) Γ k := propext Iff.rfl
def b9_found_at : FS := (sFor (sItems (eCb m_walk_of (aCons (eVar 0) (aCons (eVar 2) (aCons (eCb (one1 lenD) (aCons (eVar 1) aNil)) aNil))))) (.name 4) b8_found_at)
theorem b9_found_at_r (Γ : DL.Env) (k : KS) : b9_found_at Γ k = (sFor (sItems (eCb m_walk_of (aCons (eVar 0) (aCons (eVar 2) (aCons (eCb (one1 lenD) (aCons (eVar 1) aNil)) aNil))))) (.name 4) b8_found_at) Γ k := propext Iff.rfl
def m_found_at : List D → WD D := fn0 6
    (sSeq b5_found_at
    (sSeq (sSet 3 (eC (.int 0)))
    (sSeq b9_found_at
    (sRet (eTup (aCons (eC .none) (aCons (eVar 3) aNil)))))))
theorem m_found_at_r (ds : List D) (Q : D → Prop) (E : Str → Prop) : m_found_at ds Q E = fn0 6 (sSeq b5_found_at
    (sSeq (sSet 3 (eC (.int 0)))
    (sSeq b9_found_at
    (sRet (eTup (aCons (eC .none) (aCons (eVar 3) aNil))))))) ds Q E := propext Iff.rfl
def b1_placed : FS := (sSet 4 (eCb m_home_of (aCons (eVar 0) (aCons (eVar 2) (aCons (eVar 3) aNil)))))
theorem b1_placed_r (Γ : DL.Env) (k : KS) : b1_placed Γ k = (sSet 4 (eCb m_home_of (aCons (eVar 0) (aCons (eVar 2) (aCons (eVar 3) aNil))))) Γ k := propext Iff.rfl
def b2_placed : FS := (sRet (eCb m_with_slot (aCons (eVar 1) (aCons (eVar 4) (aCons (eIf (tB1 (eOp (eqD false) (eOp idxD (eVar 0) (eC (.int 2))) (eC (.str "front")))) (eOp addD (eTup (aCons (eVar 2) aNil)) (eVar 5)) (eOp addD (eVar 5) (eTup (aCons (eVar 2) aNil)))) aNil)))))
theorem b2_placed_r (Γ : DL.Env) (k : KS) : b2_placed Γ k = (sRet (eCb m_with_slot (aCons (eVar 1) (aCons (eVar 4) (aCons (eIf (tB1 (eOp (eqD false) (eOp idxD (eVar 0) (eC (.int 2))) (eC (.str "front")))) (eOp addD (eTup (aCons (eVar 2) aNil)) (eVar 5)) (eOp addD (eVar 5) (eTup (aCons (eVar 2) aNil)))) aNil))))) Γ k := propext Iff.rfl
def b3_placed : FS := (sIf (tB1 (eOp (eqD false) (eOp idxD (eVar 0) (eC (.int 0))) (eC (.str "rows")))) (sSeq b1_placed
    (sSeq (sSet 5 (eOp idxD (eVar 1) (eVar 4)))
    b2_placed)) sNext)
theorem b3_placed_r (Γ : DL.Env) (k : KS) : b3_placed Γ k = (sIf (tB1 (eOp (eqD false) (eOp idxD (eVar 0) (eC (.int 0))) (eC (.str "rows")))) (sSeq b1_placed
    (sSeq (sSet 5 (eOp idxD (eVar 1) (eVar 4)))
    b2_placed)) sNext) Γ k := propext Iff.rfl
def b4_placed : FS := (sSet 6 (eIf (tB1 (eOp (eqD false) (eOp idxD (eVar 0) (eC (.int 3))) (eC (.str "late")))) (eTup (aCons (eC (.int (-1))) (aCons (eC (.int (-2))) aNil))) (eTup (aCons (eC (.int (-1))) aNil))))
theorem b4_placed_r (Γ : DL.Env) (k : KS) : b4_placed Γ k = (sSet 6 (eIf (tB1 (eOp (eqD false) (eOp idxD (eVar 0) (eC (.int 3))) (eC (.str "late")))) (eTup (aCons (eC (.int (-1))) (aCons (eC (.int (-2))) aNil))) (eTup (aCons (eC (.int (-1))) aNil)))) Γ k := propext Iff.rfl
def b5_placed : FS := (sRet (eCb m_with_slot (aCons (eVar 1) (aCons (eOp idxD (eOfF (eLc (sItems (eCb m_walk_of (aCons (eVar 0) (aCons (eVar 2) (aCons (eVar 3) aNil))))) (.name 4) [4] (tB1 (eOp (inD false) (eOp idxD (eVar 1) (eVar 4)) (eVar 6))) (eVar 4))) (eC (.int 0))) (aCons (eVar 2) aNil)))))
theorem b5_placed_r (Γ : DL.Env) (k : KS) : b5_placed Γ k = (sRet (eCb m_with_slot (aCons (eVar 1) (aCons (eOp idxD (eOfF (eLc (sItems (eCb m_walk_of (aCons (eVar 0) (aCons (eVar 2) (aCons (eVar 3) aNil))))) (.name 4) [4] (tB1 (eOp (inD false) (eOp idxD (eVar 1) (eVar 4)) (eVar 6))) (eVar 4))) (eC (.int 0))) (aCons (eVar 2) aNil))))) Γ k := propext Iff.rfl
def b6_placed : FS := (sIf (tB1 (eOp (inD false) (eOp idxD (eVar 0) (eC (.int 3))) (eTup (aCons (eC (.str "late")) (aCons (eC (.str "empty")) aNil))))) (sSeq b4_placed
    b5_placed) sNext)
theorem b6_placed_r (Γ : DL.Env) (k : KS) : b6_placed Γ k = (sIf (tB1 (eOp (inD false) (eOp idxD (eVar 0) (eC (.int 3))) (eTup (aCons (eC (.str "late")) (aCons (eC (.str "empty")) aNil))))) (sSeq b4_placed
    b5_placed) sNext) Γ k := propext Iff.rfl
def b7_placed : FS := (sPar 4 7 (aCons (eCb m_home_of (aCons (eVar 0) (aCons (eVar 2) (aCons (eVar 3) aNil)))) (aCons (eVar 2) aNil)))
theorem b7_placed_r (Γ : DL.Env) (k : KS) : b7_placed Γ k = (sPar 4 7 (aCons (eCb m_home_of (aCons (eVar 0) (aCons (eVar 2) (aCons (eVar 3) aNil)))) (aCons (eVar 2) aNil))) Γ k := propext Iff.rfl
def b8_placed : FS := (sTgt (.tup [(.name 1), (.name 7)]) (eTup (aCons (eCb m_with_slot (aCons (eVar 1) (aCons (eVar 4) (aCons (eVar 7) aNil)))) (aCons (eVar 8) aNil))))
theorem b8_placed_r (Γ : DL.Env) (k : KS) : b8_placed Γ k = (sTgt (.tup [(.name 1), (.name 7)]) (eTup (aCons (eCb m_with_slot (aCons (eVar 1) (aCons (eVar 4) (aCons (eVar 7) aNil)))) (aCons (eVar 8) aNil)))) Γ k := propext Iff.rfl
def b9_placed : FS := (sIf (tOrD (tB1 (eOp (eqD false) (eOp idxD (eVar 0) (eC (.int 3))) (eC (.str "first")))) (tB1 (eOp ltD (eCb m_distance (aCons (eVar 0) (aCons (eVar 8) (aCons (eVar 4) (aCons (eVar 3) aNil))))) (eCb m_distance (aCons (eVar 0) (aCons (eVar 7) (aCons (eVar 4) (aCons (eVar 3) aNil)))))))) b8_placed sNext)
theorem b9_placed_r (Γ : DL.Env) (k : KS) : b9_placed Γ k = (sIf (tOrD (tB1 (eOp (eqD false) (eOp idxD (eVar 0) (eC (.int 3))) (eC (.str "first")))) (tB1 (eOp ltD (eCb m_distance (aCons (eVar 0) (aCons (eVar 8) (aCons (eVar 4) (aCons (eVar 3) aNil))))) (eCb m_distance (aCons (eVar 0) (aCons (eVar 7) (aCons (eVar 4) (aCons (eVar 3) aNil)))))))) b8_placed sNext) Γ k := propext Iff.rfl
def b10_placed : FS := (sSet 4 (eIf (tB1 (eOp (eqD false) (eOp idxD (eVar 0) (eC (.int 2))) (eC (.str "up")))) (eOp modD (eOp addD (eVar 4) (eC (.int 1))) (eVar 3)) (eOp modD (eOp subD (eVar 4) (eC (.int 1))) (eVar 3))))
theorem b10_placed_r (Γ : DL.Env) (k : KS) : b10_placed Γ k = (sSet 4 (eIf (tB1 (eOp (eqD false) (eOp idxD (eVar 0) (eC (.int 2))) (eC (.str "up")))) (eOp modD (eOp addD (eVar 4) (eC (.int 1))) (eVar 3)) (eOp modD (eOp subD (eVar 4) (eC (.int 1))) (eVar 3)))) Γ k := propext Iff.rfl
def b11_placed : FS := (sSeq (sSet 8 (eOp idxD (eVar 1) (eVar 4)))
    (sSeq b9_placed
    b10_placed))
theorem b11_placed_r (Γ : DL.Env) (k : KS) : b11_placed Γ k = (sSeq (sSet 8 (eOp idxD (eVar 1) (eVar 4)))
    (sSeq b9_placed
    b10_placed)) Γ k := propext Iff.rfl
def b12_placed : FS := (sWhile (tB1 (eOp geD (eOp idxD (eVar 1) (eVar 4)) (eC (.int 0)))) b11_placed)
theorem b12_placed_r (Γ : DL.Env) (k : KS) : b12_placed Γ k = (sWhile (tB1 (eOp geD (eOp idxD (eVar 1) (eVar 4)) (eC (.int 0)))) b11_placed) Γ k := propext Iff.rfl
def b13_placed : FS := (sRet (eCb m_with_slot (aCons (eVar 1) (aCons (eVar 4) (aCons (eVar 7) aNil)))))
theorem b13_placed_r (Γ : DL.Env) (k : KS) : b13_placed Γ k = (sRet (eCb m_with_slot (aCons (eVar 1) (aCons (eVar 4) (aCons (eVar 7) aNil))))) Γ k := propext Iff.rfl
def m_placed : List D → WD D := fn0 9
    (sSeq (sSet 3 (eCb (one1 lenD) (aCons (eVar 1) aNil)))
    (sSeq b3_placed
    (sSeq b6_placed
    (sSeq b7_placed
    (sSeq b12_placed
    b13_placed)))))
theorem m_placed_r (ds : List D) (Q : D → Prop) (E : Str → Prop) : m_placed ds Q E = fn0 9 (sSeq (sSet 3 (eCb (one1 lenD) (aCons (eVar 1) aNil)))
    (sSeq b3_placed
    (sSeq b6_placed
    (sSeq b7_placed
    (sSeq b12_placed
    b13_placed))))) ds Q E := propext Iff.rfl
def b1_pulled : FS := (sPar 1 4 (aCons (eCb m_with_slot (aCons (eVar 1) (aCons (eVar 2) (aCons (eC (.int (-1))) aNil)))) (aCons (eVar 2) aNil)))
theorem b1_pulled_r (Γ : DL.Env) (k : KS) : b1_pulled Γ k = (sPar 1 4 (aCons (eCb m_with_slot (aCons (eVar 1) (aCons (eVar 2) (aCons (eC (.int (-1))) aNil)))) (aCons (eVar 2) aNil))) Γ k := propext Iff.rfl
def b2_pulled : FS := (sSet 4 (eIf (tB1 (eOp (eqD false) (eOp idxD (eVar 0) (eC (.int 2))) (eC (.str "up")))) (eOp modD (eOp addD (eVar 4) (eC (.int 1))) (eVar 3)) (eOp modD (eOp subD (eVar 4) (eC (.int 1))) (eVar 3))))
theorem b2_pulled_r (Γ : DL.Env) (k : KS) : b2_pulled Γ k = (sSet 4 (eIf (tB1 (eOp (eqD false) (eOp idxD (eVar 0) (eC (.int 2))) (eC (.str "up")))) (eOp modD (eOp addD (eVar 4) (eC (.int 1))) (eVar 3)) (eOp modD (eOp subD (eVar 4) (eC (.int 1))) (eVar 3)))) Γ k := propext Iff.rfl
def b3_pulled : FS := (sIf (tB1 (eOp (eqD false) (eOp idxD (eVar 1) (eVar 4)) (eC (.int (-1))))) (sRet (eVar 1)) sNext)
theorem b3_pulled_r (Γ : DL.Env) (k : KS) : b3_pulled Γ k = (sIf (tB1 (eOp (eqD false) (eOp idxD (eVar 1) (eVar 4)) (eC (.int (-1))))) (sRet (eVar 1)) sNext) Γ k := propext Iff.rfl
def b4_pulled : FS := (sSet 1 (eCb m_with_slot (aCons (eCb m_with_slot (aCons (eVar 1) (aCons (eVar 2) (aCons (eVar 5) aNil)))) (aCons (eVar 4) (aCons (eC (.int (-1))) aNil)))))
theorem b4_pulled_r (Γ : DL.Env) (k : KS) : b4_pulled Γ k = (sSet 1 (eCb m_with_slot (aCons (eCb m_with_slot (aCons (eVar 1) (aCons (eVar 2) (aCons (eVar 5) aNil)))) (aCons (eVar 4) (aCons (eC (.int (-1))) aNil))))) Γ k := propext Iff.rfl
def b5_pulled : FS := (sIf (tB1 (eOp leD (eCb m_distance (aCons (eVar 0) (aCons (eVar 5) (aCons (eVar 2) (aCons (eVar 3) aNil))))) (eCb m_distance (aCons (eVar 0) (aCons (eVar 5) (aCons (eVar 4) (aCons (eVar 3) aNil))))))) (sSeq b4_pulled
    (sSet 2 (eVar 4))) sNext)
theorem b5_pulled_r (Γ : DL.Env) (k : KS) : b5_pulled Γ k = (sIf (tB1 (eOp leD (eCb m_distance (aCons (eVar 0) (aCons (eVar 5) (aCons (eVar 2) (aCons (eVar 3) aNil))))) (eCb m_distance (aCons (eVar 0) (aCons (eVar 5) (aCons (eVar 4) (aCons (eVar 3) aNil))))))) (sSeq b4_pulled
    (sSet 2 (eVar 4))) sNext) Γ k := propext Iff.rfl
def b6_pulled : FS := (sSeq b2_pulled
    (sSeq b3_pulled
    (sSeq (sSet 5 (eOp idxD (eVar 1) (eVar 4)))
    b5_pulled)))
theorem b6_pulled_r (Γ : DL.Env) (k : KS) : b6_pulled Γ k = (sSeq b2_pulled
    (sSeq b3_pulled
    (sSeq (sSet 5 (eOp idxD (eVar 1) (eVar 4)))
    b5_pulled))) Γ k := propext Iff.rfl
def m_pulled : List D → WD D := fn0 6
    (sSeq (sSet 3 (eCb (one1 lenD) (aCons (eVar 1) aNil)))
    (sSeq b1_pulled
    (sWhile (tB1 (eC (.bool true))) b6_pulled)))
theorem m_pulled_r (ds : List D) (Q : D → Prop) (E : Str → Prop) : m_pulled ds Q E = fn0 6 (sSeq (sSet 3 (eCb (one1 lenD) (aCons (eVar 1) aNil)))
    (sSeq b1_pulled
    (sWhile (tB1 (eC (.bool true))) b6_pulled))) ds Q E := propext Iff.rfl
def b1_seen_of : FS := (sIf (tB1 (eOp (eqD false) (eVar 3) (eC (.str "looks")))) (sRet (eVar 2)) sNext)
theorem b1_seen_of_r (Γ : DL.Env) (k : KS) : b1_seen_of Γ k = (sIf (tB1 (eOp (eqD false) (eVar 3) (eC (.str "looks")))) (sRet (eVar 2)) sNext) Γ k := propext Iff.rfl
def b2_seen_of : FS := (sRet (eIf (tB1 (eOp (eqD false) (eVar 3) (eC (.str "order")))) (eCb m_order_in (aCons (eVar 0) (aCons (eVar 1) aNil))) (eTup (aCons (eVar 2) (aCons (eCb m_order_in (aCons (eVar 0) (aCons (eVar 1) aNil))) aNil)))))
theorem b2_seen_of_r (Γ : DL.Env) (k : KS) : b2_seen_of Γ k = (sRet (eIf (tB1 (eOp (eqD false) (eVar 3) (eC (.str "order")))) (eCb m_order_in (aCons (eVar 0) (aCons (eVar 1) aNil))) (eTup (aCons (eVar 2) (aCons (eCb m_order_in (aCons (eVar 0) (aCons (eVar 1) aNil))) aNil))))) Γ k := propext Iff.rfl
def m_seen_of : List D → WD D := fn0 4
    (sSeq b1_seen_of
    b2_seen_of)
theorem m_seen_of_r (ds : List D) (Q : D → Prop) (E : Str → Prop) : m_seen_of ds Q E = fn0 4 (sSeq b1_seen_of
    b2_seen_of) ds Q E := propext Iff.rfl
def b1_is_order : FS := (sRet (eAnd (eUn1 (isiD "tuple") (eVar 0)) (eAnd (eOp leD (eCb (one1 lenD) (aCons (eVar 0) aNil)) (eC (.int 64))) (eCb (one1 allD) (aCons (eOfF (eLc (sItems (eVar 0)) (.name 1) [1] tYesD (eCb m_is_key (aCons (eVar 1) aNil)))) aNil)))))
theorem b1_is_order_r (Γ : DL.Env) (k : KS) : b1_is_order Γ k = (sRet (eAnd (eUn1 (isiD "tuple") (eVar 0)) (eAnd (eOp leD (eCb (one1 lenD) (aCons (eVar 0) aNil)) (eC (.int 64))) (eCb (one1 allD) (aCons (eOfF (eLc (sItems (eVar 0)) (.name 1) [1] tYesD (eCb m_is_key (aCons (eVar 1) aNil)))) aNil))))) Γ k := propext Iff.rfl
def m_is_order : List D → WD D := fn0 2
    b1_is_order
theorem m_is_order_r (ds : List D) (Q : D → Prop) (E : Str → Prop) : m_is_order ds Q E = fn0 2 b1_is_order ds Q E := propext Iff.rfl
def b1_desk_order : FS := (sRet (eCb m_order_in (aCons (eFld "Desk" "way" (eVar 0)) (aCons (eOp idxD (eFld "Desk" "tables" (eVar 0)) (eUn negD (eC (.int 1)))) aNil))))
theorem b1_desk_order_r (Γ : DL.Env) (k : KS) : b1_desk_order Γ k = (sRet (eCb m_order_in (aCons (eFld "Desk" "way" (eVar 0)) (aCons (eOp idxD (eFld "Desk" "tables" (eVar 0)) (eUn negD (eC (.int 1)))) aNil)))) Γ k := propext Iff.rfl
def m_desk_order : List D → WD D := fn0 1
    b1_desk_order
theorem m_desk_order_r (ds : List D) (Q : D → Prop) (E : Str → Prop) : m_desk_order ds Q E = fn0 1 b1_desk_order ds Q E := propext Iff.rfl
def b1_check_way : FS := (sIf (tNotD (tB1 (eCb m_is_way (aCons (eVar 0) aNil)))) (sRaise "InvalidWay") sNext)
theorem b1_check_way_r (Γ : DL.Env) (k : KS) : b1_check_way Γ k = (sIf (tNotD (tB1 (eCb m_is_way (aCons (eVar 0) aNil)))) (sRaise "InvalidWay") sNext) Γ k := propext Iff.rfl
def m_check_way : List D → WD D := fn0 1
    b1_check_way
theorem m_check_way_r (ds : List D) (Q : D → Prop) (E : Str → Prop) : m_check_way ds Q E = fn0 1 b1_check_way ds Q E := propext Iff.rfl
def b1_check_ways : FS := (sIf (tOrD (tNotD (tB1 (eUn1 (isiD "tuple") (eVar 0)))) (tOrD (tNotD (tB1 (eChain leD leD (eC (.int 1)) (eCb (one1 lenD) (aCons (eVar 0) aNil)) (eVar 1)))) (tNotD (tB1 (eCb (one1 allD) (aCons (eOfF (eLc (sItems (eVar 0)) (.name 2) [2] tYesD (eCb m_is_way (aCons (eVar 2) aNil)))) aNil)))))) (sRaise "InvalidWays") sNext)
theorem b1_check_ways_r (Γ : DL.Env) (k : KS) : b1_check_ways Γ k = (sIf (tOrD (tNotD (tB1 (eUn1 (isiD "tuple") (eVar 0)))) (tOrD (tNotD (tB1 (eChain leD leD (eC (.int 1)) (eCb (one1 lenD) (aCons (eVar 0) aNil)) (eVar 1)))) (tNotD (tB1 (eCb (one1 allD) (aCons (eOfF (eLc (sItems (eVar 0)) (.name 2) [2] tYesD (eCb m_is_way (aCons (eVar 2) aNil)))) aNil)))))) (sRaise "InvalidWays") sNext) Γ k := propext Iff.rfl
def m_check_ways : List D → WD D := fn0 3
    b1_check_ways
theorem m_check_ways_r (ds : List D) (Q : D → Prop) (E : Str → Prop) : m_check_ways ds Q E = fn0 3 b1_check_ways ds Q E := propext Iff.rfl
def b1_is_row : FS := (sRet (eAnd (eUn1 (isiD "tuple") (eVar 0)) (eAnd (eOp leD (eCb (one1 lenD) (aCons (eVar 0) aNil)) (eC (.int 24))) (eCb (one1 allD) (aCons (eOfF (eLc (sItems (eVar 0)) (.name 1) [1] tYesD (eCb m_is_deed (aCons (eVar 1) aNil)))) aNil)))))
theorem b1_is_row_r (Γ : DL.Env) (k : KS) : b1_is_row Γ k = (sRet (eAnd (eUn1 (isiD "tuple") (eVar 0)) (eAnd (eOp leD (eCb (one1 lenD) (aCons (eVar 0) aNil)) (eC (.int 24))) (eCb (one1 allD) (aCons (eOfF (eLc (sItems (eVar 0)) (.name 1) [1] tYesD (eCb m_is_deed (aCons (eVar 1) aNil)))) aNil))))) Γ k := propext Iff.rfl
def m_is_row : List D → WD D := fn0 2
    b1_is_row
theorem m_is_row_r (ds : List D) (Q : D → Prop) (E : Str → Prop) : m_is_row ds Q E = fn0 2 b1_is_row ds Q E := propext Iff.rfl
def b1_check_deed : FS := (sIf (tNotD (tB1 (eCb m_is_deed (aCons (eVar 0) aNil)))) (sRaise "InvalidDeed") sNext)
theorem b1_check_deed_r (Γ : DL.Env) (k : KS) : b1_check_deed Γ k = (sIf (tNotD (tB1 (eCb m_is_deed (aCons (eVar 0) aNil)))) (sRaise "InvalidDeed") sNext) Γ k := propext Iff.rfl
def m_check_deed : List D → WD D := fn0 1
    b1_check_deed
theorem m_check_deed_r (ds : List D) (Q : D → Prop) (E : Str → Prop) : m_check_deed ds Q E = fn0 1 b1_check_deed ds Q E := propext Iff.rfl
def b1_laid_anew : FS := (sSet 3 (eCb m_begun (aCons (eVar 0) (aCons (eVar 2) aNil))))
theorem b1_laid_anew_r (Γ : DL.Env) (k : KS) : b1_laid_anew Γ k = (sSet 3 (eCb m_begun (aCons (eVar 0) (aCons (eVar 2) aNil)))) Γ k := propext Iff.rfl
def b2_laid_anew : FS := (sSet 3 (eCb m_placed (aCons (eVar 0) (aCons (eVar 3) (aCons (eVar 4) aNil)))))
theorem b2_laid_anew_r (Γ : DL.Env) (k : KS) : b2_laid_anew Γ k = (sSet 3 (eCb m_placed (aCons (eVar 0) (aCons (eVar 3) (aCons (eVar 4) aNil))))) Γ k := propext Iff.rfl
def b3_laid_anew : FS := (sFor (sItems (eCb m_each_once (aCons (eCb m_keys_in (aCons (eVar 0) (aCons (eVar 1) aNil))) aNil))) (.name 4) b2_laid_anew)
theorem b3_laid_anew_r (Γ : DL.Env) (k : KS) : b3_laid_anew Γ k = (sFor (sItems (eCb m_each_once (aCons (eCb m_keys_in (aCons (eVar 0) (aCons (eVar 1) aNil))) aNil))) (.name 4) b2_laid_anew) Γ k := propext Iff.rfl
def m_laid_anew : List D → WD D := fn0 5
    (sSeq b1_laid_anew
    (sSeq b3_laid_anew
    (sRet (eVar 3))))
theorem m_laid_anew_r (ds : List D) (Q : D → Prop) (E : Str → Prop) : m_laid_anew ds Q E = fn0 5 (sSeq b1_laid_anew
    (sSeq b3_laid_anew
    (sRet (eVar 3)))) ds Q E := propext Iff.rfl
def b1_is_sight_of : FS := (sRet (eCb m_is_between (aCons (eVar 0) (aCons (eC (.int 0)) (aCons (eC (.int 64)) aNil)))))
theorem b1_is_sight_of_r (Γ : DL.Env) (k : KS) : b1_is_sight_of Γ k = (sRet (eCb m_is_between (aCons (eVar 0) (aCons (eC (.int 0)) (aCons (eC (.int 64)) aNil))))) Γ k := propext Iff.rfl
def b2_is_sight_of : FS := (sIf (tB1 (eOp (eqD false) (eVar 1) (eC (.str "looks")))) b1_is_sight_of sNext)
theorem b2_is_sight_of_r (Γ : DL.Env) (k : KS) : b2_is_sight_of Γ k = (sIf (tB1 (eOp (eqD false) (eVar 1) (eC (.str "looks")))) b1_is_sight_of sNext) Γ k := propext Iff.rfl
def b3_is_sight_of : FS := (sIf (tB1 (eOp (eqD false) (eVar 1) (eC (.str "order")))) (sRet (eCb m_is_order (aCons (eVar 0) aNil))) sNext)
theorem b3_is_sight_of_r (Γ : DL.Env) (k : KS) : b3_is_sight_of Γ k = (sIf (tB1 (eOp (eqD false) (eVar 1) (eC (.str "order")))) (sRet (eCb m_is_order (aCons (eVar 0) aNil))) sNext) Γ k := propext Iff.rfl
def b4_is_sight_of : FS := (sRet (eAnd (eUn1 (isiD "tuple") (eVar 0)) (eAnd (eOp (eqD false) (eCb (one1 lenD) (aCons (eVar 0) aNil)) (eC (.int 2))) (eAnd (eCb m_is_between (aCons (eOp idxD (eVar 0) (eC (.int 0))) (aCons (eC (.int 0)) (aCons (eC (.int 64)) aNil)))) (eCb m_is_order (aCons (eOp idxD (eVar 0) (eC (.int 1))) aNil))))))
theorem b4_is_sight_of_r (Γ : DL.Env) (k : KS) : b4_is_sight_of Γ k = (sRet (eAnd (eUn1 (isiD "tuple") (eVar 0)) (eAnd (eOp (eqD false) (eCb (one1 lenD) (aCons (eVar 0) aNil)) (eC (.int 2))) (eAnd (eCb m_is_between (aCons (eOp idxD (eVar 0) (eC (.int 0))) (aCons (eC (.int 0)) (aCons (eC (.int 64)) aNil)))) (eCb m_is_order (aCons (eOp idxD (eVar 0) (eC (.int 1))) aNil)))))) Γ k := propext Iff.rfl
def m_is_sight_of : List D → WD D := fn0 2
    (sSeq b2_is_sight_of
    (sSeq b3_is_sight_of
    b4_is_sight_of))
theorem m_is_sight_of_r (ds : List D) (Q : D → Prop) (E : Str → Prop) : m_is_sight_of ds Q E = fn0 2 (sSeq b2_is_sight_of
    (sSeq b3_is_sight_of
    b4_is_sight_of)) ds Q E := propext Iff.rfl
def b1_check_row : FS := (sIf (tNotD (tB1 (eCb m_is_row (aCons (eVar 0) aNil)))) (sRaise "InvalidRow") sNext)
theorem b1_check_row_r (Γ : DL.Env) (k : KS) : b1_check_row Γ k = (sIf (tNotD (tB1 (eCb m_is_row (aCons (eVar 0) aNil)))) (sRaise "InvalidRow") sNext) Γ k := propext Iff.rfl
def m_check_row : List D → WD D := fn0 1
    b1_check_row
theorem m_check_row_r (ds : List D) (Q : D → Prop) (E : Str → Prop) : m_check_row ds Q E = fn0 1 b1_check_row ds Q E := propext Iff.rfl
def b1_grown : FS := (sIf (tB1 (eOp leD (eOp addD (eCb m_used_in (aCons (eVar 0) (aCons (eVar 1) aNil))) (eC (.int 1))) (eCb m_bound_of (aCons (eVar 0) (aCons (eVar 2) aNil))))) (sRet (eVar 1)) sNext)
theorem b1_grown_r (Γ : DL.Env) (k : KS) : b1_grown Γ k = (sIf (tB1 (eOp leD (eOp addD (eCb m_used_in (aCons (eVar 0) (aCons (eVar 1) aNil))) (eC (.int 1))) (eCb m_bound_of (aCons (eVar 0) (aCons (eVar 2) aNil))))) (sRet (eVar 1)) sNext) Γ k := propext Iff.rfl
def b2_grown : FS := (sRet (eCb m_laid_anew (aCons (eVar 0) (aCons (eVar 1) (aCons (eVar 2) aNil)))))
theorem b2_grown_r (Γ : DL.Env) (k : KS) : b2_grown Γ k = (sRet (eCb m_laid_anew (aCons (eVar 0) (aCons (eVar 1) (aCons (eVar 2) aNil))))) Γ k := propext Iff.rfl
def b3_grown : FS := (sIf (tAndD (tB1 (eOp (eqD false) (eOp idxD (eVar 0) (eC (.int 0))) (eC (.str "slots")))) (tB1 (eOp leD (eOp addD (eCb (one1 lenD) (aCons (eCb m_each_once (aCons (eCb m_keys_in (aCons (eVar 0) (aCons (eVar 1) aNil))) aNil)) aNil)) (eC (.int 1))) (eCb m_bound_of (aCons (eVar 0) (aCons (eVar 2) aNil)))))) b2_grown sNext)
theorem b3_grown_r (Γ : DL.Env) (k : KS) : b3_grown Γ k = (sIf (tAndD (tB1 (eOp (eqD false) (eOp idxD (eVar 0) (eC (.int 0))) (eC (.str "slots")))) (tB1 (eOp leD (eOp addD (eCb (one1 lenD) (aCons (eCb m_each_once (aCons (eCb m_keys_in (aCons (eVar 0) (aCons (eVar 1) aNil))) aNil)) aNil)) (eC (.int 1))) (eCb m_bound_of (aCons (eVar 0) (aCons (eVar 2) aNil)))))) b2_grown sNext) Γ k := propext Iff.rfl
def b4_grown : FS := (sRet (eCb m_laid_anew (aCons (eVar 0) (aCons (eVar 1) (aCons (eOp mulD (eC (.int 2)) (eVar 2)) aNil)))))
theorem b4_grown_r (Γ : DL.Env) (k : KS) : b4_grown Γ k = (sRet (eCb m_laid_anew (aCons (eVar 0) (aCons (eVar 1) (aCons (eOp mulD (eC (.int 2)) (eVar 2)) aNil))))) Γ k := propext Iff.rfl
def m_grown : List D → WD D := fn0 3
    (sSeq (sSet 2 (eCb (one1 lenD) (aCons (eVar 1) aNil)))
    (sSeq b1_grown
    (sSeq b3_grown
    b4_grown)))
theorem m_grown_r (ds : List D) (Q : D → Prop) (E : Str → Prop) : m_grown ds Q E = fn0 3 (sSeq (sSet 2 (eCb (one1 lenD) (aCons (eVar 1) aNil)))
    (sSeq b1_grown
    (sSeq b3_grown
    b4_grown))) ds Q E := propext Iff.rfl
def b1_removed : FS := (sRet (eCb m_with_slot (aCons (eVar 1) (aCons (eVar 2) (aCons (eCb (one1 tupleD) (aCons (eOfF (eLc (sItems (eVar 4)) (.name 5) [5] (tB1 (eOp (eqD true) (eVar 5) (eVar 3))) (eVar 5))) aNil)) aNil)))))
theorem b1_removed_r (Γ : DL.Env) (k : KS) : b1_removed Γ k = (sRet (eCb m_with_slot (aCons (eVar 1) (aCons (eVar 2) (aCons (eCb (one1 tupleD) (aCons (eOfF (eLc (sItems (eVar 4)) (.name 5) [5] (tB1 (eOp (eqD true) (eVar 5) (eVar 3))) (eVar 5))) aNil)) aNil))))) Γ k := propext Iff.rfl
def b2_removed : FS := (sIf (tB1 (eOp (eqD false) (eOp idxD (eVar 0) (eC (.int 0))) (eC (.str "rows")))) (sSeq (sSet 4 (eOp idxD (eVar 1) (eVar 2)))
    b1_removed) sNext)
theorem b2_removed_r (Γ : DL.Env) (k : KS) : b2_removed Γ k = (sIf (tB1 (eOp (eqD false) (eOp idxD (eVar 0) (eC (.int 0))) (eC (.str "rows")))) (sSeq (sSet 4 (eOp idxD (eVar 1) (eVar 2)))
    b1_removed) sNext) Γ k := propext Iff.rfl
def b3_removed : FS := (sRet (eCb m_with_slot (aCons (eVar 1) (aCons (eVar 2) (aCons (eC (.int (-2))) aNil)))))
theorem b3_removed_r (Γ : DL.Env) (k : KS) : b3_removed Γ k = (sRet (eCb m_with_slot (aCons (eVar 1) (aCons (eVar 2) (aCons (eC (.int (-2))) aNil))))) Γ k := propext Iff.rfl
def b4_removed : FS := (sIf (tB1 (eOp (eqD false) (eOp idxD (eVar 0) (eC (.int 4))) (eC (.str "mark")))) b3_removed sNext)
theorem b4_removed_r (Γ : DL.Env) (k : KS) : b4_removed Γ k = (sIf (tB1 (eOp (eqD false) (eOp idxD (eVar 0) (eC (.int 4))) (eC (.str "mark")))) b3_removed sNext) Γ k := propext Iff.rfl
def b5_removed : FS := (sRet (eCb m_pulled (aCons (eVar 0) (aCons (eVar 1) (aCons (eVar 2) aNil)))))
theorem b5_removed_r (Γ : DL.Env) (k : KS) : b5_removed Γ k = (sRet (eCb m_pulled (aCons (eVar 0) (aCons (eVar 1) (aCons (eVar 2) aNil))))) Γ k := propext Iff.rfl
def b6_removed : FS := (sIf (tB1 (eOp (eqD false) (eOp idxD (eVar 0) (eC (.int 4))) (eC (.str "pull")))) b5_removed sNext)
theorem b6_removed_r (Γ : DL.Env) (k : KS) : b6_removed Γ k = (sIf (tB1 (eOp (eqD false) (eOp idxD (eVar 0) (eC (.int 4))) (eC (.str "pull")))) b5_removed sNext) Γ k := propext Iff.rfl
def b7_removed : FS := (sSet 1 (eCb m_with_slot (aCons (eVar 1) (aCons (eVar 2) (aCons (eC (.int (-1))) aNil)))))
theorem b7_removed_r (Γ : DL.Env) (k : KS) : b7_removed Γ k = (sSet 1 (eCb m_with_slot (aCons (eVar 1) (aCons (eVar 2) (aCons (eC (.int (-1))) aNil))))) Γ k := propext Iff.rfl
def b8_removed : FS := (sRet (eIf (tB1 (eOp (eqD false) (eOp idxD (eVar 0) (eC (.int 4))) (eC (.str "hole")))) (eVar 1) (eCb m_laid_anew (aCons (eVar 0) (aCons (eVar 1) (aCons (eCb (one1 lenD) (aCons (eVar 1) aNil)) aNil))))))
theorem b8_removed_r (Γ : DL.Env) (k : KS) : b8_removed Γ k = (sRet (eIf (tB1 (eOp (eqD false) (eOp idxD (eVar 0) (eC (.int 4))) (eC (.str "hole")))) (eVar 1) (eCb m_laid_anew (aCons (eVar 0) (aCons (eVar 1) (aCons (eCb (one1 lenD) (aCons (eVar 1) aNil)) aNil)))))) Γ k := propext Iff.rfl
def m_removed : List D → WD D := fn0 6
    (sSeq b2_removed
    (sSeq b4_removed
    (sSeq b6_removed
    (sSeq b7_removed
    b8_removed))))
theorem m_removed_r (ds : List D) (Q : D → Prop) (E : Str → Prop) : m_removed ds Q E = fn0 6 (sSeq b2_removed
    (sSeq b4_removed
    (sSeq b6_removed
    (sSeq b7_removed
    b8_removed)))) ds Q E := propext Iff.rfl
def b1_watcher_init : FSS := (sC (sDrop (eCb m_check_ways (aCons (eVar 1) (aCons (eC (.int 8)) aNil)))))
theorem b1_watcher_init_r (Γ : DL.Env) (S : Sto) (k : KSS) : b1_watcher_init Γ S k = (sC (sDrop (eCb m_check_ways (aCons (eVar 1) (aCons (eC (.int 8)) aNil))))) Γ S k := propext Iff.rfl
def b2_watcher_init : FSS := (mFldL "Watcher" "left_along" (eVar 0) (eLst (aCons (eCb (one1 tupleD) (aCons (eOfF (eLc (eCbF enumerateD (aCons (eVar 1) aNil)) (.tup [(.name 3), (.name 4)]) [3, 4] tYesD (eTup (aCons (eVar 3) (aCons (eCb m_begun (aCons (eVar 4) (aCons (eC (.int 4)) aNil))) aNil))))) aNil)) aNil)))
theorem b2_watcher_init_r (Γ : DL.Env) (S : Sto) (k : KSS) : b2_watcher_init Γ S k = (mFldL "Watcher" "left_along" (eVar 0) (eLst (aCons (eCb (one1 tupleD) (aCons (eOfF (eLc (eCbF enumerateD (aCons (eVar 1) aNil)) (.tup [(.name 3), (.name 4)]) [3, 4] tYesD (eTup (aCons (eVar 3) (aCons (eCb m_begun (aCons (eVar 4) (aCons (eC (.int 4)) aNil))) aNil))))) aNil)) aNil))) Γ S k := propext Iff.rfl
def m_watcher_init : List D → Sto → WS D := fnS 5
    (mSeq b1_watcher_init
    (mSeq (sC (sDrop (eCb m_check_sight (aCons (eVar 2) aNil))))
    (mSeq (mFldV "Watcher" "ways" (eVar 0) (eVar 1))
    (mSeq (mFldV "Watcher" "sight" (eVar 0) (eVar 2))
    (mSeq b2_watcher_init
    (mFldL "Watcher" "noted" (eVar 0) (eLst aNil)))))))
theorem m_watcher_init_r (ds : List D) (S : Sto) (Q : D → Sto → Prop) (E : Str → Sto → Prop) : m_watcher_init ds S Q E = fnS 5 (mSeq b1_watcher_init
    (mSeq (sC (sDrop (eCb m_check_sight (aCons (eVar 2) aNil))))
    (mSeq (mFldV "Watcher" "ways" (eVar 0) (eVar 1))
    (mSeq (mFldV "Watcher" "sight" (eVar 0) (eVar 2))
    (mSeq b2_watcher_init
    (mFldL "Watcher" "noted" (eVar 0) (eLst aNil))))))) ds S Q E := propext Iff.rfl
def b1_desk_init : FSS := (mFldL "Desk" "tables" (eVar 0) (eLst (aCons (eCb m_begun (aCons (eVar 1) (aCons (eC (.int 4)) aNil))) aNil)))
theorem b1_desk_init_r (Γ : DL.Env) (S : Sto) (k : KSS) : b1_desk_init Γ S k = (mFldL "Desk" "tables" (eVar 0) (eLst (aCons (eCb m_begun (aCons (eVar 1) (aCons (eC (.int 4)) aNil))) aNil))) Γ S k := propext Iff.rfl
def m_desk_init : List D → Sto → WS D := fnS 2
    (mSeq (sC (sDrop (eCb m_check_way (aCons (eVar 1) aNil))))
    (mSeq (mFldV "Desk" "way" (eVar 0) (eVar 1))
    (mSeq b1_desk_init
    (mSeq (mFldL "Desk" "past" (eVar 0) (eLst aNil))
    (mFldL "Desk" "future" (eVar 0) (eLst aNil))))))
theorem m_desk_init_r (ds : List D) (S : Sto) (Q : D → Sto → Prop) (E : Str → Sto → Prop) : m_desk_init ds S Q E = fnS 2 (mSeq (sC (sDrop (eCb m_check_way (aCons (eVar 1) aNil))))
    (mSeq (mFldV "Desk" "way" (eVar 0) (eVar 1))
    (mSeq b1_desk_init
    (mSeq (mFldL "Desk" "past" (eVar 0) (eLst aNil))
    (mFldL "Desk" "future" (eVar 0) (eLst aNil)))))) ds S Q E := propext Iff.rfl
def b1_done : FS := (sTgt (.tup [(.name 5), (.name 6)]) (eCb m_found_at (aCons (eVar 0) (aCons (eVar 1) (aCons (eVar 4) aNil)))))
theorem b1_done_r (Γ : DL.Env) (k : KS) : b1_done Γ k = (sTgt (.tup [(.name 5), (.name 6)]) (eCb m_found_at (aCons (eVar 0) (aCons (eVar 1) (aCons (eVar 4) aNil))))) Γ k := propext Iff.rfl
def b2_done : FS := (sSet 1 (eCb m_placed (aCons (eVar 0) (aCons (eCb m_grown (aCons (eVar 0) (aCons (eVar 1) aNil))) (aCons (eVar 4) aNil)))))
theorem b2_done_r (Γ : DL.Env) (k : KS) : b2_done Γ k = (sSet 1 (eCb m_placed (aCons (eVar 0) (aCons (eCb m_grown (aCons (eVar 0) (aCons (eVar 1) aNil))) (aCons (eVar 4) aNil))))) Γ k := propext Iff.rfl
def b3_done : FS := (sIf (tAndD (tB1 (eOp (eqD false) (eVar 3) (eC (.str "put")))) (tB1 (eOp (isND false) (eVar 5) (eC .none)))) b2_done sNext)
theorem b3_done_r (Γ : DL.Env) (k : KS) : b3_done Γ k = (sIf (tAndD (tB1 (eOp (eqD false) (eVar 3) (eC (.str "put")))) (tB1 (eOp (isND false) (eVar 5) (eC .none)))) b2_done sNext) Γ k := propext Iff.rfl
def b4_done : FS := (sSet 1 (eCb m_removed (aCons (eVar 0) (aCons (eVar 1) (aCons (eVar 5) (aCons (eVar 4) aNil))))))
theorem b4_done_r (Γ : DL.Env) (k : KS) : b4_done Γ k = (sSet 1 (eCb m_removed (aCons (eVar 0) (aCons (eVar 1) (aCons (eVar 5) (aCons (eVar 4) aNil)))))) Γ k := propext Iff.rfl
def b5_done : FS := (sIf (tAndD (tB1 (eOp (eqD false) (eVar 3) (eC (.str "take")))) (tB1 (eOp (isND true) (eVar 5) (eC .none)))) b4_done sNext)
theorem b5_done_r (Γ : DL.Env) (k : KS) : b5_done Γ k = (sIf (tAndD (tB1 (eOp (eqD false) (eVar 3) (eC (.str "take")))) (tB1 (eOp (isND true) (eVar 5) (eC .none)))) b4_done sNext) Γ k := propext Iff.rfl
def b6_done : FS := (sRet (eTup (aCons (eVar 1) (aCons (eOp (isND true) (eVar 5) (eC .none)) (aCons (eVar 6) aNil)))))
theorem b6_done_r (Γ : DL.Env) (k : KS) : b6_done Γ k = (sRet (eTup (aCons (eVar 1) (aCons (eOp (isND true) (eVar 5) (eC .none)) (aCons (eVar 6) aNil))))) Γ k := propext Iff.rfl
def m_done : List D → WD D := fn0 7
    (sSeq (sTgt (.tup [(.name 3), (.name 4)]) (eVar 2))
    (sSeq b1_done
    (sSeq b3_done
    (sSeq b5_done
    b6_done))))
theorem m_done_r (ds : List D) (Q : D → Prop) (E : Str → Prop) : m_done ds Q E = fn0 7 (sSeq (sTgt (.tup [(.name 3), (.name 4)]) (eVar 2))
    (sSeq b1_done
    (sSeq b3_done
    (sSeq b5_done
    b6_done)))) ds Q E := propext Iff.rfl
def b1_work : FS := (sParFF 3 4 (eLst (aCons (eCb m_begun (aCons (eVar 0) (aCons (eC (.int 4)) aNil))) aNil)) (eLst aNil))
theorem b1_work_r (Γ : DL.Env) (k : KS) : b1_work Γ k = (sParFF 3 4 (eLst (aCons (eCb m_begun (aCons (eVar 0) (aCons (eC (.int 4)) aNil))) aNil)) (eLst aNil)) Γ k := propext Iff.rfl
def b2_work : FS := (sTgtP (.tup [(.name 5), (.name 6), (.name 7)]) (eCb m_done (aCons (eVar 0) (aCons (eOp idxD (eVar 3) (eUn negD (eC (.int 1)))) (aCons (eVar 2) aNil)))))
theorem b2_work_r (Γ : DL.Env) (k : KS) : b2_work Γ k = (sTgtP (.tup [(.name 5), (.name 6), (.name 7)]) (eCb m_done (aCons (eVar 0) (aCons (eOp idxD (eVar 3) (eUn negD (eC (.int 1)))) (aCons (eVar 2) aNil))))) Γ k := propext Iff.rfl
def b3_work : FS := (sSeq b2_work
    (sSeq (sApp 3 (eVar 5))
    (sApp 4 (eTup (aCons (eVar 6) (aCons (eVar 7) aNil))))))
theorem b3_work_r (Γ : DL.Env) (k : KS) : b3_work Γ k = (sSeq b2_work
    (sSeq (sApp 3 (eVar 5))
    (sApp 4 (eTup (aCons (eVar 6) (aCons (eVar 7) aNil)))))) Γ k := propext Iff.rfl
def m_work : List D → WD D := fn0 8
    (sSeq b1_work
    (sSeq (sFor (sItems (eVar 1)) (.name 2) b3_work)
    (sRet (eTup (aCons (eVar 3) (aCons (eVar 4) aNil))))))
theorem m_work_r (ds : List D) (Q : D → Prop) (E : Str → Prop) : m_work ds Q E = fn0 8 (sSeq b1_work
    (sSeq (sFor (sItems (eVar 1)) (.name 2) b3_work)
    (sRet (eTup (aCons (eVar 3) (aCons (eVar 4) aNil)))))) ds Q E := propext Iff.rfl
def b1_watcher_note : FSS := (mIf (tR (tNotD (tB1 (eCb m_is_sight_of (aCons (eVar 2) (aCons (eFld "Watcher" "sight" (eVar 0)) aNil)))))) (sC (sRaise "InvalidSeen")) mNext)
theorem b1_watcher_note_r (Γ : DL.Env) (S : Sto) (k : KSS) : b1_watcher_note Γ S k = (mIf (tR (tNotD (tB1 (eCb m_is_sight_of (aCons (eVar 2) (aCons (eFld "Watcher" "sight" (eVar 0)) aNil)))))) (sC (sRaise "InvalidSeen")) mNext) Γ S k := propext Iff.rfl
def b2_watcher_note : FSS := (mIf (tR (tB1 (eOp (eqD false) (eCb (one1 lenD) (aCons (eFld "Watcher" "noted" (eVar 0)) aNil)) (eC (.int 24))))) (sC (sRaise "TooMany")) mNext)
theorem b2_watcher_note_r (Γ : DL.Env) (S : Sto) (k : KSS) : b2_watcher_note Γ S k = (mIf (tR (tB1 (eOp (eqD false) (eCb (one1 lenD) (aCons (eFld "Watcher" "noted" (eVar 0)) aNil)) (eC (.int 24))))) (sC (sRaise "TooMany")) mNext) Γ S k := propext Iff.rfl
def b3_watcher_note : FS := (sTgt (.tup [(.name 6), (.name 7), (.name 8)]) (eCb m_done (aCons (eOp idxD (eFld "Watcher" "ways" (eVar 0)) (eVar 4)) (aCons (eVar 5) (aCons (eVar 1) aNil)))))
theorem b3_watcher_note_r (Γ : DL.Env) (k : KS) : b3_watcher_note Γ k = (sTgt (.tup [(.name 6), (.name 7), (.name 8)]) (eCb m_done (aCons (eOp idxD (eFld "Watcher" "ways" (eVar 0)) (eVar 4)) (aCons (eVar 5) (aCons (eVar 1) aNil))))) Γ k := propext Iff.rfl
def b4_watcher_note : FS := (sIf (tB1 (eOp (eqD false) (eCb m_seen_of (aCons (eOp idxD (eFld "Watcher" "ways" (eVar 0)) (eVar 4)) (aCons (eVar 6) (aCons (eVar 8) (aCons (eFld "Watcher" "sight" (eVar 0)) aNil))))) (eVar 2))) (sApp 3 (eTup (aCons (eVar 4) (aCons (eVar 6) aNil)))) sNext)
theorem b4_watcher_note_r (Γ : DL.Env) (k : KS) : b4_watcher_note Γ k = (sIf (tB1 (eOp (eqD false) (eCb m_seen_of (aCons (eOp idxD (eFld "Watcher" "ways" (eVar 0)) (eVar 4)) (aCons (eVar 6) (aCons (eVar 8) (aCons (eFld "Watcher" "sight" (eVar 0)) aNil))))) (eVar 2))) (sApp 3 (eTup (aCons (eVar 4) (aCons (eVar 6) aNil)))) sNext) Γ k := propext Iff.rfl
def b5_watcher_note : FSS := (sRd (sFor (sItems (eOp idxD (eFld "Watcher" "left_along" (eVar 0)) (eUn negD (eC (.int 1))))) (.tup [(.name 4), (.name 5)]) (sSeq b3_watcher_note
    b4_watcher_note)))
theorem b5_watcher_note_r (Γ : DL.Env) (S : Sto) (k : KSS) : b5_watcher_note Γ S k = (sRd (sFor (sItems (eOp idxD (eFld "Watcher" "left_along" (eVar 0)) (eUn negD (eC (.int 1))))) (.tup [(.name 4), (.name 5)]) (sSeq b3_watcher_note
    b4_watcher_note))) Γ S k := propext Iff.rfl
def b6_watcher_note : FSS := (sC (sIf (tB1 (eOp (eqD false) (eVar 3) (eOfF (eLst aNil)))) (sRaise "NotShown") sNext))
theorem b6_watcher_note_r (Γ : DL.Env) (S : Sto) (k : KSS) : b6_watcher_note Γ S k = (sC (sIf (tB1 (eOp (eqD false) (eVar 3) (eOfF (eLst aNil)))) (sRaise "NotShown") sNext)) Γ S k := propext Iff.rfl
def b7_watcher_note : FSS := (mFApp "Watcher" "left_along" (eVar 0) (eCb (one1 tupleD) (aCons (eVar 3) aNil)))
theorem b7_watcher_note_r (Γ : DL.Env) (S : Sto) (k : KSS) : b7_watcher_note Γ S k = (mFApp "Watcher" "left_along" (eVar 0) (eCb (one1 tupleD) (aCons (eVar 3) aNil))) Γ S k := propext Iff.rfl
def b8_watcher_note : FSS := (mFApp "Watcher" "noted" (eVar 0) (eTup (aCons (eVar 1) (aCons (eVar 2) aNil))))
theorem b8_watcher_note_r (Γ : DL.Env) (S : Sto) (k : KSS) : b8_watcher_note Γ S k = (mFApp "Watcher" "noted" (eVar 0) (eTup (aCons (eVar 1) (aCons (eVar 2) aNil)))) Γ S k := propext Iff.rfl
def m_watcher_note : List D → Sto → WS D := fnS 9
    (mSeq (sC (sDrop (eCb m_check_deed (aCons (eVar 1) aNil))))
    (mSeq b1_watcher_note
    (mSeq b2_watcher_note
    (mSeq (sC (sSetF 3 (eLst aNil)))
    (mSeq b5_watcher_note
    (mSeq b6_watcher_note
    (mSeq b7_watcher_note
    (mSeq b8_watcher_note
    (mRet (mR (eMethO0 "Watcher" m_watcher_left (eVar 0))))))))))))
theorem m_watcher_note_r (ds : List D) (S : Sto) (Q : D → Sto → Prop) (E : Str → Sto → Prop) : m_watcher_note ds S Q E = fnS 9 (mSeq (sC (sDrop (eCb m_check_deed (aCons (eVar 1) aNil))))
    (mSeq b1_watcher_note
    (mSeq b2_watcher_note
    (mSeq (sC (sSetF 3 (eLst aNil)))
    (mSeq b5_watcher_note
    (mSeq b6_watcher_note
    (mSeq b7_watcher_note
    (mSeq b8_watcher_note
    (mRet (mR (eMethO0 "Watcher" m_watcher_left (eVar 0)))))))))))) ds S Q E := propext Iff.rfl
def b1_desk_do : FSS := (mIf (tR (tB1 (eOp (eqD false) (eCb (one1 lenD) (aCons (eFld "Desk" "past" (eVar 0)) aNil)) (eC (.int 24))))) (sC (sRaise "TooMany")) mNext)
theorem b1_desk_do_r (Γ : DL.Env) (S : Sto) (k : KSS) : b1_desk_do Γ S k = (mIf (tR (tB1 (eOp (eqD false) (eCb (one1 lenD) (aCons (eFld "Desk" "past" (eVar 0)) aNil)) (eC (.int 24))))) (sC (sRaise "TooMany")) mNext) Γ S k := propext Iff.rfl
def b2_desk_do : FSS := (mTgtC (.tup [(.name 2), (.name 3), (.name 4)]) (mR (eCb m_done (aCons (eFld "Desk" "way" (eVar 0)) (aCons (eOp idxD (eFld "Desk" "tables" (eVar 0)) (eUn negD (eC (.int 1)))) (aCons (eVar 1) aNil))))))
theorem b2_desk_do_r (Γ : DL.Env) (S : Sto) (k : KSS) : b2_desk_do Γ S k = (mTgtC (.tup [(.name 2), (.name 3), (.name 4)]) (mR (eCb m_done (aCons (eFld "Desk" "way" (eVar 0)) (aCons (eOp idxD (eFld "Desk" "tables" (eVar 0)) (eUn negD (eC (.int 1)))) (aCons (eVar 1) aNil)))))) Γ S k := propext Iff.rfl
def m_desk_do : List D → Sto → WS D := fnS 5
    (mSeq (sC (sDrop (eCb m_check_deed (aCons (eVar 1) aNil))))
    (mSeq b1_desk_do
    (mSeq b2_desk_do
    (mSeq (mFApp "Desk" "tables" (eVar 0) (eVar 2))
    (mSeq (mFApp "Desk" "past" (eVar 0) (eVar 1))
    (mSeq (mFldL "Desk" "future" (eVar 0) (eLst aNil))
    (sC (sRet (eTup (aCons (eVar 3) (aCons (eVar 4) aNil)))))))))))
theorem m_desk_do_r (ds : List D) (S : Sto) (Q : D → Sto → Prop) (E : Str → Sto → Prop) : m_desk_do ds S Q E = fnS 5 (mSeq (sC (sDrop (eCb m_check_deed (aCons (eVar 1) aNil))))
    (mSeq b1_desk_do
    (mSeq b2_desk_do
    (mSeq (mFApp "Desk" "tables" (eVar 0) (eVar 2))
    (mSeq (mFApp "Desk" "past" (eVar 0) (eVar 1))
    (mSeq (mFldL "Desk" "future" (eVar 0) (eLst aNil))
    (sC (sRet (eTup (aCons (eVar 3) (aCons (eVar 4) aNil))))))))))) ds S Q E := propext Iff.rfl
def b1_seen_along : FS := (sTgt (.tup [(.name 3), (.name 4)]) (eCb m_work (aCons (eVar 0) (aCons (eVar 1) aNil))))
theorem b1_seen_along_r (Γ : DL.Env) (k : KS) : b1_seen_along Γ k = (sTgt (.tup [(.name 3), (.name 4)]) (eCb m_work (aCons (eVar 0) (aCons (eVar 1) aNil)))) Γ k := propext Iff.rfl
def b2_seen_along : FS := (sRet (eCb (one1 tupleD) (aCons (eOfF (eLc (eCbF zipD (aCons (eSl (eVar 3) (oSome (eC (.int 1))) oNone) (aCons (eVar 4) aNil))) (.tup [(.name 5), (.name 6)]) [5, 6] tYesD (eCb m_seen_of (aCons (eVar 0) (aCons (eVar 5) (aCons (eOp idxD (eVar 6) (eC (.int 1))) (aCons (eVar 2) aNil))))))) aNil)))
theorem b2_seen_along_r (Γ : DL.Env) (k : KS) : b2_seen_along Γ k = (sRet (eCb (one1 tupleD) (aCons (eOfF (eLc (eCbF zipD (aCons (eSl (eVar 3) (oSome (eC (.int 1))) oNone) (aCons (eVar 4) aNil))) (.tup [(.name 5), (.name 6)]) [5, 6] tYesD (eCb m_seen_of (aCons (eVar 0) (aCons (eVar 5) (aCons (eOp idxD (eVar 6) (eC (.int 1))) (aCons (eVar 2) aNil))))))) aNil))) Γ k := propext Iff.rfl
def m_seen_along : List D → WD D := fn0 7
    (sSeq b1_seen_along
    b2_seen_along)
theorem m_seen_along_r (ds : List D) (Q : D → Prop) (E : Str → Prop) : m_seen_along ds Q E = fn0 7 (sSeq b1_seen_along
    b2_seen_along) ds Q E := propext Iff.rfl
def b1_run : FS := (sRet (eCb m_seen_along (aCons (eVar 0) (aCons (eVar 1) (aCons (eVar 2) aNil)))))
theorem b1_run_r (Γ : DL.Env) (k : KS) : b1_run Γ k = (sRet (eCb m_seen_along (aCons (eVar 0) (aCons (eVar 1) (aCons (eVar 2) aNil))))) Γ k := propext Iff.rfl
def m_run : List D → WD D := fn0 3
    (sSeq (sDrop (eCb m_check_way (aCons (eVar 0) aNil)))
    (sSeq (sDrop (eCb m_check_row (aCons (eVar 1) aNil)))
    (sSeq (sDrop (eCb m_check_sight (aCons (eVar 2) aNil)))
    b1_run)))
theorem m_run_r (ds : List D) (Q : D → Prop) (E : Str → Prop) : m_run ds Q E = fn0 3 (sSeq (sDrop (eCb m_check_way (aCons (eVar 0) aNil)))
    (sSeq (sDrop (eCb m_check_row (aCons (eVar 1) aNil)))
    (sSeq (sDrop (eCb m_check_sight (aCons (eVar 2) aNil)))
    b1_run))) ds Q E := propext Iff.rfl
def b1_law : FSS := (sC (sTgt (.tup [(.name 4), (.name 5)]) (eTup (aCons (eCb m__law_way (aCons (eVar 0) (aCons (eVar 1) aNil))) (aCons (eCb m__law_draw (aCons (eVar 0) (aCons (eVar 1) (aCons (eC (.int 32)) aNil)))) aNil)))))
theorem b1_law_r (Γ : DL.Env) (S : Sto) (k : KSS) : b1_law Γ S k = (sC (sTgt (.tup [(.name 4), (.name 5)]) (eTup (aCons (eCb m__law_way (aCons (eVar 0) (aCons (eVar 1) aNil))) (aCons (eCb m__law_draw (aCons (eVar 0) (aCons (eVar 1) (aCons (eC (.int 32)) aNil)))) aNil))))) Γ S k := propext Iff.rfl
def b2_law : FSS := (mTgtC (.tup [(.name 6), (.name 7), (.name 8)]) (mTup (mCons (mMake "Watcher" m_watcher_init (mCons (mC (eTup (aCons (eVar 4) (aCons (eVar 4) aNil)))) (mCons (mC (eC (.str "order"))) mNil))) (mCons (mMake "Watcher" m_watcher_init (mCons (mC (eTup (aCons (eVar 4) (aCons (eVar 4) aNil)))) (mCons (mC (eC (.str "order"))) mNil))) (mCons (mMake "Desk" m_desk_init (mCons (mC (eVar 4)) mNil)) mNil)))))
theorem b2_law_r (Γ : DL.Env) (S : Sto) (k : KSS) : b2_law Γ S k = (mTgtC (.tup [(.name 6), (.name 7), (.name 8)]) (mTup (mCons (mMake "Watcher" m_watcher_init (mCons (mC (eTup (aCons (eVar 4) (aCons (eVar 4) aNil)))) (mCons (mC (eC (.str "order"))) mNil))) (mCons (mMake "Watcher" m_watcher_init (mCons (mC (eTup (aCons (eVar 4) (aCons (eVar 4) aNil)))) (mCons (mC (eC (.str "order"))) mNil))) (mCons (mMake "Desk" m_desk_init (mCons (mC (eVar 4)) mNil)) mNil))))) Γ S k := propext Iff.rfl
def b3_law : FSS := (sC (sSet 2 (eOp mulD (eTup (aCons (eTup (aCons (eC (.str "put")) (aCons (eVar 5) aNil))) (aCons (eTup (aCons (eC (.str "ask")) (aCons (eVar 5) aNil))) (aCons (eTup (aCons (eC (.str "take")) (aCons (eVar 5) aNil))) aNil)))) (eC (.int 8)))))
theorem b3_law_r (Γ : DL.Env) (S : Sto) (k : KSS) : b3_law Γ S k = (sC (sSet 2 (eOp mulD (eTup (aCons (eTup (aCons (eC (.str "put")) (aCons (eVar 5) aNil))) (aCons (eTup (aCons (eC (.str "ask")) (aCons (eVar 5) aNil))) (aCons (eTup (aCons (eC (.str "take")) (aCons (eVar 5) aNil))) aNil)))) (eC (.int 8))))) Γ S k := propext Iff.rfl
def b4_law : FSS := (mIf (mOrT (mB1 (mOp (eqD true) (mMeth "Watcher" m_watcher_note (eVar 6) (mCons (mC (eVar 9)) (mCons (mC (eVar 10)) mNil))) (mC (eTup (aCons (eC (.int 0)) (aCons (eC (.int 1)) aNil)))))) (mOrT (tR (tB1 (eOp (eqD true) (eUn1 (lenO "Watcher" m_watcher_len) (eVar 7)) (eC (.int 0))))) (tR (tB1 (eOp (eqD true) (eMethO0 "Watcher" m_watcher_left (eVar 7)) (eTup (aCons (eC (.int 0)) (aCons (eC (.int 1)) aNil)))))))) (sC (sRet (eC (.bool false)))) mNext)
theorem b4_law_r (Γ : DL.Env) (S : Sto) (k : KSS) : b4_law Γ S k = (mIf (mOrT (mB1 (mOp (eqD true) (mMeth "Watcher" m_watcher_note (eVar 6) (mCons (mC (eVar 9)) (mCons (mC (eVar 10)) mNil))) (mC (eTup (aCons (eC (.int 0)) (aCons (eC (.int 1)) aNil)))))) (mOrT (tR (tB1 (eOp (eqD true) (eUn1 (lenO "Watcher" m_watcher_len) (eVar 7)) (eC (.int 0))))) (tR (tB1 (eOp (eqD true) (eMethO0 "Watcher" m_watcher_left (eVar 7)) (eTup (aCons (eC (.int 0)) (aCons (eC (.int 1)) aNil)))))))) (sC (sRet (eC (.bool false)))) mNext) Γ S k := propext Iff.rfl
def b5_law : FSS := (mIf (mB1 (mOp (eqD true) (mOp idxD (mMeth "Desk" m_desk_do (eVar 8) (mCons (mC (eVar 9)) mNil)) (mC (eC (.int 0)))) (mC (eOp (eqD true) (eOp idxD (eVar 9) (eC (.int 0))) (eC (.str "put")))))) (sC (sRet (eC (.bool false)))) mNext)
theorem b5_law_r (Γ : DL.Env) (S : Sto) (k : KSS) : b5_law Γ S k = (mIf (mB1 (mOp (eqD true) (mOp idxD (mMeth "Desk" m_desk_do (eVar 8) (mCons (mC (eVar 9)) mNil)) (mC (eC (.int 0)))) (mC (eOp (eqD true) (eOp idxD (eVar 9) (eC (.int 0))) (eC (.str "put")))))) (sC (sRet (eC (.bool false)))) mNext) Γ S k := propext Iff.rfl
def b6_law : FSS := (mFor (eCbF zipGD (aCons (eVar 2) (aCons (eCb m_run (aCons (eVar 4) (aCons (eVar 2) (aCons (eC (.str "order")) aNil)))) aNil))) (.tup [(.name 9), (.name 10)]) (mSeq b4_law
    b5_law))
theorem b6_law_r (Γ : DL.Env) (S : Sto) (k : KSS) : b6_law Γ S k = (mFor (eCbF zipGD (aCons (eVar 2) (aCons (eCb m_run (aCons (eVar 4) (aCons (eVar 2) (aCons (eC (.str "order")) aNil)))) aNil))) (.tup [(.name 9), (.name 10)]) (mSeq b4_law
    b5_law)) Γ S k := propext Iff.rfl
def b7_law : FSS := (mIf (mOrT (mB1 (mOp (eqD true) (mRes (mMeth "Watcher" m_watcher_note (eVar 6) (mCons (mC (eTup (aCons (eC (.str "put")) (aCons (eVar 5) aNil)))) (mCons (mC (eTup (aCons (eVar 5) aNil))) mNil)))) (mC (eTup (aCons (eC (.str "many")) aNil))))) (tR (tB1 (eOp (eqD true) (eUn1 (lenO "Watcher" m_watcher_len) (eVar 6)) (eC (.int 24)))))) (sC (sRet (eC (.bool false)))) mNext)
theorem b7_law_r (Γ : DL.Env) (S : Sto) (k : KSS) : b7_law Γ S k = (mIf (mOrT (mB1 (mOp (eqD true) (mRes (mMeth "Watcher" m_watcher_note (eVar 6) (mCons (mC (eTup (aCons (eC (.str "put")) (aCons (eVar 5) aNil)))) (mCons (mC (eTup (aCons (eVar 5) aNil))) mNil)))) (mC (eTup (aCons (eC (.str "many")) aNil))))) (tR (tB1 (eOp (eqD true) (eUn1 (lenO "Watcher" m_watcher_len) (eVar 6)) (eC (.int 24)))))) (sC (sRet (eC (.bool false)))) mNext) Γ S k := propext Iff.rfl
def b8_law : FSS := (mIf (mOrT (mB1 (mOp (eqD true) (mRes (mMeth "Desk" m_desk_do (eVar 8) (mCons (mC (eTup (aCons (eC (.str "put")) (aCons (eVar 5) aNil)))) mNil))) (mC (eTup (aCons (eC (.str "many")) aNil))))) (mOrT (tR (tB1 (eOp (eqD true) (eUn1 (lenO "Desk" m_desk_len) (eVar 8)) (eC (.int 24))))) (tR (tB1 (eOp (eqD true) (eMethO0 "Desk" m_desk_order (eVar 8)) (eTup aNil)))))) (sC (sRet (eC (.bool false)))) mNext)
theorem b8_law_r (Γ : DL.Env) (S : Sto) (k : KSS) : b8_law Γ S k = (mIf (mOrT (mB1 (mOp (eqD true) (mRes (mMeth "Desk" m_desk_do (eVar 8) (mCons (mC (eTup (aCons (eC (.str "put")) (aCons (eVar 5) aNil)))) mNil))) (mC (eTup (aCons (eC (.str "many")) aNil))))) (mOrT (tR (tB1 (eOp (eqD true) (eUn1 (lenO "Desk" m_desk_len) (eVar 8)) (eC (.int 24))))) (tR (tB1 (eOp (eqD true) (eMethO0 "Desk" m_desk_order (eVar 8)) (eTup aNil)))))) (sC (sRet (eC (.bool false)))) mNext) Γ S k := propext Iff.rfl
def b9_law : FSS := (mSetC 3 (mMake "Desk" m_desk_init (mCons (mC (eVar 4)) mNil)))
theorem b9_law_r (Γ : DL.Env) (S : Sto) (k : KSS) : b9_law Γ S k = (mSetC 3 (mMake "Desk" m_desk_init (mCons (mC (eVar 4)) mNil))) Γ S k := propext Iff.rfl
def b10_law : FSS := (mIf (mOrT (tR (tB1 (eOp (eqD true) (eUn1 (lenO "Desk" m_desk_len) (eVar 3)) (eC (.int 0))))) (mOrT (tR (tB1 (eOp (eqD true) (eMethO0 "Desk" m_desk_history (eVar 3)) (eTup aNil)))) (mB1 (mOp (eqD true) (mRes (mMeth0 "Desk" m_desk_undo (eVar 3))) (mC (eTup (aCons (eC (.str "undo")) aNil))))))) (sC (sRet (eC (.bool false)))) mNext)
theorem b10_law_r (Γ : DL.Env) (S : Sto) (k : KSS) : b10_law Γ S k = (mIf (mOrT (tR (tB1 (eOp (eqD true) (eUn1 (lenO "Desk" m_desk_len) (eVar 3)) (eC (.int 0))))) (mOrT (tR (tB1 (eOp (eqD true) (eMethO0 "Desk" m_desk_history (eVar 3)) (eTup aNil)))) (mB1 (mOp (eqD true) (mRes (mMeth0 "Desk" m_desk_undo (eVar 3))) (mC (eTup (aCons (eC (.str "undo")) aNil))))))) (sC (sRet (eC (.bool false)))) mNext) Γ S k := propext Iff.rfl
def b11_law : FSS := (mDrop (mMeth "Desk" m_desk_do (eVar 3) (mCons (mC (eTup (aCons (eC (.str "put")) (aCons (eVar 5) aNil)))) mNil)))
theorem b11_law_r (Γ : DL.Env) (S : Sto) (k : KSS) : b11_law Γ S k = (mDrop (mMeth "Desk" m_desk_do (eVar 3) (mCons (mC (eTup (aCons (eC (.str "put")) (aCons (eVar 5) aNil)))) mNil))) Γ S k := propext Iff.rfl
def b12_law : FSS := (mIf (mOrT (mB1 (mOp (eqD true) (mMeth0 "Desk" m_desk_undo (eVar 8)) (mC (eTup (aCons (eC (.str "take")) (aCons (eVar 5) aNil)))))) (mOrT (tR (tB1 (eOp (eqD true) (eMethO0 "Desk" m_desk_order (eVar 8)) (eTup (aCons (eVar 5) aNil))))) (mOrT (tR (tB1 (eOp (eqD true) (eMethO0 "Desk" m_desk_order (eVar 3)) (eTup (aCons (eVar 5) aNil))))) (tR (tB1 (eOp (eqD true) (eUn1 (lenO "Desk" m_desk_len) (eVar 3)) (eC (.int 1)))))))) (sC (sRet (eC (.bool false)))) mNext)
theorem b12_law_r (Γ : DL.Env) (S : Sto) (k : KSS) : b12_law Γ S k = (mIf (mOrT (mB1 (mOp (eqD true) (mMeth0 "Desk" m_desk_undo (eVar 8)) (mC (eTup (aCons (eC (.str "take")) (aCons (eVar 5) aNil)))))) (mOrT (tR (tB1 (eOp (eqD true) (eMethO0 "Desk" m_desk_order (eVar 8)) (eTup (aCons (eVar 5) aNil))))) (mOrT (tR (tB1 (eOp (eqD true) (eMethO0 "Desk" m_desk_order (eVar 3)) (eTup (aCons (eVar 5) aNil))))) (tR (tB1 (eOp (eqD true) (eUn1 (lenO "Desk" m_desk_len) (eVar 3)) (eC (.int 1)))))))) (sC (sRet (eC (.bool false)))) mNext) Γ S k := propext Iff.rfl
def b13_law : FSS := (mIf (mOrT (mNotT (mB1 (mOp idxD (mMeth "Desk" m_desk_do (eVar 8) (mCons (mC (eTup (aCons (eC (.str "ask")) (aCons (eVar 5) aNil)))) mNil)) (mC (eC (.int 0)))))) (tR (tB1 (eOp (eqD true) (eMethO0 "Desk" m_desk_history (eVar 8)) (eOp addD (eSl (eVar 2) oNone (oSome (eUn negD (eC (.int 1))))) (eTup (aCons (eTup (aCons (eC (.str "ask")) (aCons (eVar 5) aNil))) aNil))))))) (sC (sRet (eC (.bool false)))) mNext)
theorem b13_law_r (Γ : DL.Env) (S : Sto) (k : KSS) : b13_law Γ S k = (mIf (mOrT (mNotT (mB1 (mOp idxD (mMeth "Desk" m_desk_do (eVar 8) (mCons (mC (eTup (aCons (eC (.str "ask")) (aCons (eVar 5) aNil)))) mNil)) (mC (eC (.int 0)))))) (tR (tB1 (eOp (eqD true) (eMethO0 "Desk" m_desk_history (eVar 8)) (eOp addD (eSl (eVar 2) oNone (oSome (eUn negD (eC (.int 1))))) (eTup (aCons (eTup (aCons (eC (.str "ask")) (aCons (eVar 5) aNil))) aNil))))))) (sC (sRet (eC (.bool false)))) mNext) Γ S k := propext Iff.rfl
def b14_law : FSS := (mRet (mAnd (mR (eOp (eqD false) (eMethO0 "Watcher" m_watcher_notes (eVar 7)) (eTup aNil))) (mAnd (mR (eOp (eqD false) (eUn1 (lenO "Watcher" m_watcher_len) (eVar 6)) (eC (.int 23)))) (mOp (eqD false) (mMeth "Watcher" m_watcher_note (eVar 6) (mCons (mC (eTup (aCons (eC (.str "take")) (aCons (eVar 5) aNil)))) (mCons (mC (eTup aNil)) mNil))) (mC (eTup (aCons (eC (.int 0)) (aCons (eC (.int 1)) aNil))))))))
theorem b14_law_r (Γ : DL.Env) (S : Sto) (k : KSS) : b14_law Γ S k = (mRet (mAnd (mR (eOp (eqD false) (eMethO0 "Watcher" m_watcher_notes (eVar 7)) (eTup aNil))) (mAnd (mR (eOp (eqD false) (eUn1 (lenO "Watcher" m_watcher_len) (eVar 6)) (eC (.int 23)))) (mOp (eqD false) (mMeth "Watcher" m_watcher_note (eVar 6) (mCons (mC (eTup (aCons (eC (.str "take")) (aCons (eVar 5) aNil)))) (mCons (mC (eTup aNil)) mNil))) (mC (eTup (aCons (eC (.int 0)) (aCons (eC (.int 1)) aNil)))))))) Γ S k := propext Iff.rfl
def m_law : List D → Sto → WS D := fnS 11
    (mSeq (sC (sSet 1 (fun _ Q Ed => m__law_begun [] Q Ed)))
    (mSeq b1_law
    (mSeq b2_law
    (mSeq b3_law
    (mSeq b6_law
    (mSeq b7_law
    (mSeq b8_law
    (mSeq b9_law
    (mSeq b10_law
    (mSeq b11_law
    (mSeq b12_law
    (mSeq b13_law
    (mSeq (mDrop (mMeth0 "Watcher" m_watcher_undo (eVar 6)))
    b14_law)))))))))))))
theorem m_law_r (ds : List D) (S : Sto) (Q : D → Sto → Prop) (E : Str → Sto → Prop) : m_law ds S Q E = fnS 11 (mSeq (sC (sSet 1 (fun _ Q Ed => m__law_begun [] Q Ed)))
    (mSeq b1_law
    (mSeq b2_law
    (mSeq b3_law
    (mSeq b6_law
    (mSeq b7_law
    (mSeq b8_law
    (mSeq b9_law
    (mSeq b10_law
    (mSeq b11_law
    (mSeq b12_law
    (mSeq b13_law
    (mSeq (mDrop (mMeth0 "Watcher" m_watcher_undo (eVar 6)))
    b14_law))))))))))))) ds S Q E := propext Iff.rfl
end G6
namespace TM
def KeyOk (k : Int) : Prop := 0 ≤ k ∧ k ≤ 31
def SizeOk (n : Int) : Prop := n = 4 ∨ n = 8 ∨ n = 16 ∨ n = 32 ∨ n = 64
theorem small {n : Int} (h : SizeOk n) : 0 < n ∧ n ≤ 64 := by rcases h with rfl | rfl | rfl | rfl | rfl <;> decide
theorem four {n : Int} (h : SizeOk n) : 4 ≤ n := by rcases h with rfl | rfl | rfl | rfl | rfl <;> decide
def foldK (h : String) (k : Int) : Int := if h = "low" then k else k + k / 4
def homeOf (h : String) (k n : Int) : Int := foldK h k % n
/-- the step's offset -/
def stepOf (st : String) (k n i : Int) : Int := if st = "up" then i else if st = "down" then -i else if st = "wide" then i * (i + 1) / 2 else i * (1 + 2 * (k / 8 % 2))
def pathOf (h st : String) (k n : Int) : List Int := (List.range n.toNat).map fun i : Nat => (homeOf h k n + stepOf st k n i) % n
theorem emod_shift {n a s t : Int} (hn : 0 < n) (h : (a + s) % n = (a + t) % n) : s % n = t % n := by
  have h1 : ((a + s) - (a + t)) % n = 0 := Int.emod_emod_of_dvd _ (Int.dvd_refl n) ▸ (Int.emod_eq_emod_iff_emod_sub_eq_zero.mp h)
  have h2 : (a + s) - (a + t) = s - t := by omega
  rw [h2] at h1
  exact Int.emod_eq_emod_iff_emod_sub_eq_zero.mpr h1
theorem perm_sub {α : Type} [DecidableEq α] : ∀ {l m : List α}, l.Nodup → (∀ x ∈ l, x ∈ m) → m.length ≤ l.length → l.Perm m
  | [], m, _, _, h => by
    have : m = [] := List.length_eq_zero_iff.mp (by simpa using h)
    rw [this]
  | a :: r, m, hn, hs, h => by
    have ha : a ∈ m := hs a List.mem_cons_self
    have hp := List.perm_cons_erase ha
    have hn' := List.nodup_cons.mp hn
    have : r.Perm (m.erase a) := perm_sub hn'.2 (fun x hx => (List.mem_erase_of_ne (fun e => hn'.1 (by rw [← e]; exact hx))).mpr (hs x (List.mem_cons_of_mem _ hx))) (by
      have := hp.length_eq
      simp only [List.length_cons] at this h
      omega)
    exact (this.cons a).trans hp.symm
/-- no list without copies within m is longer than m -/
theorem nodup_le {α : Type} [DecidableEq α] : ∀ {l m : List α}, l.Nodup → (∀ x ∈ l, x ∈ m) → l.length ≤ m.length
  | [], _, _, _ => Nat.zero_le _
  | a :: r, m, hn, hs => by
    have ha : a ∈ m := hs a List.mem_cons_self
    have hp := (List.perm_cons_erase ha).length_eq
    have hn' := List.nodup_cons.mp hn
    have := nodup_le (l := r) (m := m.erase a) hn'.2 fun x hx => (List.mem_erase_of_ne (fun e => hn'.1 (by rw [← e]; exact hx))).mpr (hs x (List.mem_cons_of_mem _ hx))
    simp only [List.length_cons] at hp ⊢
    omega
theorem nodup_map {n : Nat} {f : Nat → Int} (hi : ∀ i < n, ∀ j < n, f i = f j → i = j) : ((List.range n).map f).Nodup :=
  List.pairwise_map.mpr (List.Pairwise.imp_of_mem (fun {q r} hq hr hne e => hne (hi q (List.mem_range.mp hq) r (List.mem_range.mp hr) e)) List.nodup_range)
theorem perm_of {n : Nat} {f : Nat → Int} (hr : ∀ i < n, 0 ≤ f i ∧ f i < n) (hi : ∀ i < n, ∀ j < n, f i = f j → i = j) : ((List.range n).map f).Perm ((List.range n).map fun i : Nat => (i : Int)) := by
  refine perm_sub (nodup_map hi) (fun x hx => ?_) (by simp)
  obtain ⟨i, h1, rfl⟩ := List.mem_map.mp hx
  obtain ⟨h2, h3⟩ := hr i (List.mem_range.mp h1)
  exact List.mem_map.mpr ⟨(f i).toNat, List.mem_range.mpr (by omega), by omega⟩
def offInj (n : Nat) (f : Nat → Int) : Bool := (List.range n).all fun i => (List.range n).all fun j => decide (f i % n = f j % n → i = j)
theorem off_of {n : Nat} {f : Nat → Int} (h : offInj n f = true) : ∀ i < n, ∀ j < n, f i % n = f j % n → i = j := by
  intro i hi j hj
  have h1 := List.all_eq_true.mp h i (List.mem_range.mpr hi)
  have h2 := List.all_eq_true.mp h1 j (List.mem_range.mpr hj)
  exact of_decide_eq_true h2
theorem wide4 : offInj 4 (fun i => (i : Int) * (i + 1) / 2) = true := by decide +kernel
theorem wide8 : offInj 8 (fun i => (i : Int) * (i + 1) / 2) = true := by decide +kernel
theorem wide16 : offInj 16 (fun i => (i : Int) * (i + 1) / 2) = true := by decide +kernel
theorem wide32 : offInj 32 (fun i => (i : Int) * (i + 1) / 2) = true := by decide +kernel
theorem wide64 : offInj 64 (fun i => (i : Int) * (i + 1) / 2) = true := by decide +kernel
theorem off_step {st : String} {k n : Int} (hn : SizeOk n) : ∀ i < n.toNat, ∀ j < n.toNat, stepOf st k n (i : Nat) % n = stepOf st k n (j : Nat) % n → i = j := by
  have h2 : k / 8 % 2 = 0 ∨ k / 8 % 2 = 1 := by omega
  unfold stepOf
  intro i hi j hj
  by_cases e1 : st = "up"
  · simp only [e1, if_true]
    rcases hn with rfl | rfl | rfl | rfl | rfl <;> omega
  · by_cases e2 : st = "down"
    · simp only [e1, e2, if_true, if_false]
      rcases hn with rfl | rfl | rfl | rfl | rfl <;> simp <;> omega
    · by_cases e3 : st = "wide"
      · simp only [e1, e2, e3, if_true, if_false]
        rcases hn with rfl | rfl | rfl | rfl | rfl
        · exact off_of wide4 i hi j hj
        · exact off_of wide8 i hi j hj
        · exact off_of wide16 i hi j hj
        · exact off_of wide32 i hi j hj
        · exact off_of wide64 i hi j hj
      · simp only [e1, e2, e3, if_false]
        rcases h2 with h2 | h2 <;> rw [h2] <;> rcases hn with rfl | rfl | rfl | rfl | rfl <;> omega
theorem path_perm {h st : String} {k n : Int} (hn : SizeOk n) : (pathOf h st k n).Perm ((List.range n.toNat).map fun i : Nat => (i : Int)) := by
  obtain ⟨hn0, hn1⟩ := small hn
  unfold pathOf
  refine perm_of (fun i hi => ⟨Int.emod_nonneg _ (by omega), ?_⟩) fun i hi j hj e => off_step hn i hi j hj (emod_shift hn0 e)
  have := Int.emod_lt_of_pos (homeOf h k n + stepOf st k n i) hn0
  omega
theorem path_mem {h st : String} {k n s : Int} (hn : SizeOk n) : s ∈ pathOf h st k n ↔ 0 ≤ s ∧ s < n := by
  rw [(path_perm hn).mem_iff, List.mem_map]
  obtain ⟨hn0, hn1⟩ := small hn
  constructor
  · rintro ⟨i, hi, rfl⟩
    have := List.mem_range.mp hi
    omega
  · rintro ⟨h0, h1⟩
    exact ⟨s.toNat, List.mem_range.mpr (by omega), by omega⟩
theorem path_len {h st : String} {k n : Int} : (pathOf h st k n).length = n.toNat := by simp [pathOf]
theorem home_rng {h : String} {k n : Int} (hn : SizeOk n) : 0 ≤ homeOf h k n ∧ homeOf h k n < n := by
  obtain ⟨hn0, hn1⟩ := small hn
  exact ⟨Int.emod_nonneg _ (by omega), Int.emod_lt_of_pos _ hn0⟩
/-- what stands in a slot -/
def ga (T : List Int) (s : Int) : Int := T.getD s.toNat 0
def put (T : List Int) (s x : Int) : List Int := T.set s.toNat x
theorem put_len (T : List Int) (s x : Int) : (put T s x).length = T.length := by simp [put]
theorem ga_put {T : List Int} {s r x : Int} (hs : 0 ≤ s) (hr : 0 ≤ r) (h : s < T.length) : ga (put T s x) r = if s = r then x else ga T r := by
  unfold ga put
  rw [List.getD_eq_getElem?_getD, List.getElem?_set]
  by_cases e : s = r
  · subst e
    have : s.toNat < T.length := by omega
    simp [this]
  · have : s.toNat ≠ r.toNat := by omega
    simp [this, e]
theorem ga_mem {T : List Int} {s : Int} (h0 : 0 ≤ s) (h : s < T.length) : ga T s ∈ T := by
  unfold ga
  rw [List.getD_eq_getElem?_getD, List.getElem?_eq_getElem (by omega)]
  exact List.getElem_mem _
theorem mem_put {T : List Int} {s x y : Int} (h : y ∈ put T s x) : y = x ∨ y ∈ T := by
  rcases List.mem_or_eq_of_mem_set h with h | h
  · exact .inr h
  · exact .inl h
def seek (T : List Int) (k : Int) : List Int → Int → Option Int × Int
  | [], l => (none, l)
  | s :: r, l => if ga T s = -1 then (none, l + 1) else if ga T s = k then (some s, l + 1) else seek T k r (l + 1)
def used (T : List Int) : Nat := T.countP (· ≠ -1)
def keysS (T : List Int) : List Int := T.filter (0 ≤ ·)
def once : List Int → List Int → List Int
  | acc, [] => acc
  | acc, x :: r => if x ∈ acc then once acc r else once (acc ++ [x]) r
theorem once_nil (acc : List Int) : once acc [] = acc := rfl
theorem once_cons (acc : List Int) (x : Int) (r : List Int) : once acc (x :: r) = if x ∈ acc then once acc r else once (acc ++ [x]) r := rfl
def isFree (c : String) (x : Int) : Bool := x == -1 || (c == "late" && x == -2)
def frees (h st c : String) (T : List Int) (k : Int) : List Int := (pathOf h st k T.length).filter fun s => isFree c (ga T s)
def dist (h st : String) (k s n : Int) : Int := if st = "up" then (s - homeOf h k n) % n else (homeOf h k n - s) % n
def nxt (st : String) (s n : Int) : Int := if st = "up" then (s + 1) % n else (s - 1) % n
def shove (h st c : String) (n : Int) : Nat → List Int → Int → Int → List Int
  | 0, T, _, _ => T
  | f + 1, T, s, m => if 0 ≤ ga T s then
      (if c = "first" ∨ dist h st (ga T s) s n < dist h st m s n then shove h st c n f (put T s m) (nxt st s n) (ga T s) else shove h st c n f T (nxt st s n) m)
    else put T s m
def placeS (h st c : String) (T : List Int) (k : Int) : List Int :=
  if c = "late" ∨ c = "empty" then put T ((frees h st c T k).headD 0) k else shove h st c T.length T.length T (homeOf h k T.length) k
def anewS (h st c : String) (T : List Int) (n : Nat) : List Int := (once [] (keysS T)).foldl (placeS h st c) (List.replicate n (-1))
def growOf (gr : String) (n : Int) : Int := if gr = "half" then n / 2 else if gr = "three" then n * 3 / 4 else n - 1
def grownS (h st c gr : String) (T : List Int) : List Int :=
  if (used T : Int) + 1 ≤ growOf gr T.length then T else if ((once [] (keysS T)).length : Int) + 1 ≤ growOf gr T.length then anewS h st c T T.length else anewS h st c T (2 * T.length)
def pull (h st : String) (n : Int) : Nat → List Int → Int → Int → List Int
  | 0, T, _, _ => T
  | f + 1, T, s, a => if ga T (nxt st a n) = -1 then T else
      if dist h st (ga T (nxt st a n)) s n ≤ dist h st (ga T (nxt st a n)) (nxt st a n) n then pull h st n f (put (put T s (ga T (nxt st a n))) (nxt st a n) (-1)) (nxt st a n) (nxt st a n)
      else pull h st n f T s (nxt st a n)
def removedS (h st c g : String) (T : List Int) (s : Int) : List Int :=
  if g = "mark" then put T s (-2) else if g = "pull" then pull h st T.length T.length (put T s (-1)) s s else if g = "hole" then put T s (-1) else anewS h st c (put T s (-1)) T.length
def rat (R : List (List Int)) (s : Int) : List Int := R.getD s.toNat []
def rput (R : List (List Int)) (s : Int) (r : List Int) : List (List Int) := R.set s.toNat r
def placeR (h c : String) (R : List (List Int)) (k : Int) : List (List Int) :=
  rput R (homeOf h k R.length) (if c = "front" then k :: rat R (homeOf h k R.length) else rat R (homeOf h k R.length) ++ [k])
def anewR (h c : String) (R : List (List Int)) (n : Nat) : List (List Int) := (once [] R.flatten).foldl (placeR h c) (List.replicate n [])
def manyOf (o : String) (n : Int) : Int := if o = "one" then n else 2 * n
def grownR (h c o : String) (R : List (List Int)) : List (List Int) := if (R.flatten.length : Int) + 1 ≤ manyOf o R.length then R else anewR h c R (2 * R.length)
inductive Way where
  | r (h c o : String)
  | s (h st c g gr : String)
inductive Tab where
  | r (R : List (List Int))
  | s (T : List Int)
def RowsOk (h c o : String) : Prop := (h = "low" ∨ h = "fold") ∧ (c = "front" ∨ c = "end") ∧ (o = "one" ∨ o = "two")
def SlotsOk (h st c g gr : String) : Prop := (h = "low" ∨ h = "fold") ∧ (st = "up" ∨ st = "down" ∨ st = "wide" ∨ st = "own") ∧ (c = "late" ∨ c = "empty" ∨ c = "near" ∨ c = "first") ∧ (g = "mark" ∨ g = "hole" ∨ g = "again" ∨ g = "pull") ∧ (gr = "half" ∨ gr = "three" ∨ gr = "full") ∧
  ((st = "up" ∨ st = "down") ∨ ((c = "late" ∨ c = "empty") ∧ g ≠ "pull"))
def Way.Ok : Way → Prop
  | .r h c o => RowsOk h c o
  | .s h st c g gr => SlotsOk h st c g gr
def begun : Way → Tab
  | .r _ _ _ => .r (List.replicate 4 [])
  | .s _ _ _ _ _ => .s (List.replicate 4 (-1))
def order : Tab → List Int
  | .r R => R.flatten
  | .s T => keysS T
def size : Tab → Nat
  | .r R => R.length
  | .s T => T.length
def found : Way → Tab → Int → Option Int × Int
  | .r h _ _, .r R, k => if k ∈ rat R (homeOf h k R.length) then (some (homeOf h k R.length), ((rat R (homeOf h k R.length)).idxOf k : Int) + 1) else (none, (rat R (homeOf h k R.length)).length)
  | .s h st _ _ _, .s T, k => seek T k (pathOf h st k T.length) 0
  | _, _, _ => (none, 0)
def grown : Way → Tab → Tab
  | .r h c o, .r R => .r (grownR h c o R)
  | .s h st c _ gr, .s T => .s (grownS h st c gr T)
  | _, t => t
def placed : Way → Tab → Int → Tab
  | .r h c _, .r R, k => .r (placeR h c R k)
  | .s h st c _ _, .s T, k => .s (placeS h st c T k)
  | _, t, _ => t
def removed : Way → Tab → Int → Int → Tab
  | .r _ _ _, .r R, s, k => .r (rput R s ((rat R s).filter (· ≠ k)))
  | .s h st c g _, .s T, s, _ => .s (removedS h st c g T s)
  | _, t, _, _ => t
inductive Deed3 where
  | ask | put | take
deriving DecidableEq
def done (w : Way) (t : Tab) (kd : Deed3) (k : Int) : Tab := match kd, (found w t k).1 with
  | .put, none => placed w (grown w t) k
  | .take, some s => removed w t s k
  | _, _ => t
end TM
namespace TM
theorem used_put {T : List Int} {s x : Int} (h0 : 0 ≤ s) (h : s < T.length) : used (put T s x) + (if ga T s = -1 then 0 else 1) = used T + (if x = -1 then 0 else 1) := by
  unfold used put ga
  have hl : s.toNat < T.length := by omega
  rw [List.countP_set hl, List.getD_eq_getElem?_getD, List.getElem?_eq_getElem hl]
  simp only [Option.getD_some]
  by_cases e : T[s.toNat] = -1
  · by_cases e2 : x = -1 <;> simp [e, e2]
  · have hc : 0 < T.countP (fun x => decide (x ≠ -1)) := List.countP_pos_iff.mpr ⟨_, List.getElem_mem hl, by simpa using e⟩
    generalize T.countP (fun x => decide (x ≠ -1)) = m at hc
    by_cases e2 : x = -1
    · simp only [e, e2, ne_eq, not_true_eq_false, not_false_eq_true, decide_true, decide_false, if_true, if_false, Bool.false_eq_true]
      omega
    · simp only [e, e2, ne_eq, not_true_eq_false, not_false_eq_true, decide_true, decide_false, if_true, if_false, Bool.false_eq_true]
      omega
theorem exists_empty {T : List Int} (h : used T < T.length) : ∃ s : Int, 0 ≤ s ∧ s < T.length ∧ ga T s = -1 := by
  by_cases hx : ∀ x ∈ T, x ≠ -1
  · have : used T = T.length := by
      unfold used
      exact List.countP_eq_length.mpr fun x hx' => by simpa using hx x hx'
    omega
  · obtain ⟨x, hm, e⟩ : ∃ x, x ∈ T ∧ x = -1 := by
      simpa using hx
    subst e
    obtain ⟨i, hi, e⟩ := List.getElem_of_mem hm
    refine ⟨i, by omega, by omega, ?_⟩
    unfold ga
    rw [List.getD_eq_getElem?_getD]
    simp [List.getElem?_eq_getElem hi, e]
theorem used_replicate (n : Nat) : used (List.replicate n (-1)) = 0 := by
  unfold used
  rw [List.countP_eq_zero]
  intro a ha
  have := List.eq_of_mem_replicate ha
  simp [this]
theorem keys_le (T : List Int) : (keysS T).length ≤ used T := by
  unfold keysS used
  rw [← List.countP_eq_length_filter]
  exact List.countP_mono_left fun x _ h => by
    simp at h ⊢
    omega
theorem once_spec : ∀ (l acc : List Int), acc.Nodup → (once acc l).Nodup ∧ (∀ x, x ∈ once acc l ↔ x ∈ acc ∨ x ∈ l) ∧ (once acc l).length ≤ acc.length + l.length
  | [], acc, h => ⟨h, fun x => by simp [once], by simp [once]⟩
  | y :: r, acc, h => by
    unfold once
    split
    · rename_i hm
      obtain ⟨h1, h2, h3⟩ := once_spec r acc h
      refine ⟨h1, fun x => ?_, by simp only [List.length_cons]; omega⟩
      rw [h2, List.mem_cons]
      constructor
      · rintro (z | z)
        · exact .inl z
        · exact .inr (.inr z)
      · rintro (z | z | z)
        · exact .inl z
        · exact .inl (z ▸ hm)
        · exact .inr z
    · rename_i hm
      have hn : (acc ++ [y]).Nodup := by
        rw [List.nodup_append]
        refine ⟨h, by simp, fun a ha b hb e => ?_⟩
        simp at hb
        exact hm (by rw [← hb, ← e]; exact ha)
      obtain ⟨h1, h2, h3⟩ := once_spec r (acc ++ [y]) hn
      refine ⟨h1, fun x => ?_, by simp only [List.length_append, List.length_cons, List.length_nil] at h3 ⊢; omega⟩
      rw [h2, List.mem_append, List.mem_cons]
      simp [or_assoc]
theorem once_nodup (l : List Int) : (once [] l).Nodup := (once_spec l [] (by simp)).1
theorem once_mem (l : List Int) (x : Int) : x ∈ once [] l ↔ x ∈ l := by simpa using (once_spec l [] (by simp)).2.1 x
theorem once_len (l : List Int) : (once [] l).length ≤ l.length := by simpa using (once_spec l [] (by simp)).2.2
def iter (st : String) (n : Int) : Nat → Int → Int
  | 0, s => s
  | j + 1, s => iter st n j (nxt st s n)
theorem nxt_rng {st : String} {s n : Int} (hn : 0 < n) : 0 ≤ nxt st s n ∧ nxt st s n < n := by
  unfold nxt
  split
  · exact ⟨Int.emod_nonneg _ (by omega), Int.emod_lt_of_pos _ hn⟩
  · exact ⟨Int.emod_nonneg _ (by omega), Int.emod_lt_of_pos _ hn⟩
theorem iter_eq {st : String} {n : Int} (hn : 0 < n) : ∀ (j : Nat) (s : Int), 0 ≤ s → s < n → iter st n j s = if st = "up" then (s + j) % n else (s - j) % n
  | 0, s, h0, h1 => by
    unfold iter
    split
    · simp [Int.emod_eq_of_lt h0 h1]
    · simp [Int.emod_eq_of_lt h0 h1]
  | j + 1, s, h0, h1 => by
    obtain ⟨a, b⟩ := nxt_rng (st := st) (s := s) hn
    unfold iter
    rw [iter_eq hn j _ a b]
    unfold nxt
    by_cases e : st = "up"
    · simp only [e, if_true]
      rw [Int.emod_add_emod]
      congr 1
      omega
    · simp only [e, if_false]
      rw [Int.emod_sub_emod]
      congr 1
      omega
/-- each slot is met -/
theorem iter_meets {st : String} {n s e : Int} (hn : 0 < n) (h0 : 0 ≤ s) (h1 : s < n) (e0 : 0 ≤ e) (e1 : e < n) : ∃ j : Nat, (j : Int) < n ∧ iter st n j s = e := by
  by_cases hu : st = "up"
  · refine ⟨((e - s) % n).toNat, ?_, ?_⟩
    · have := Int.emod_lt_of_pos (e - s) hn
      have := Int.emod_nonneg (e - s) (by omega : n ≠ 0)
      omega
    · have h2 := Int.emod_nonneg (e - s) (by omega : n ≠ 0)
      rw [iter_eq hn _ s h0 h1, if_pos hu, Int.toNat_of_nonneg h2, Int.add_emod_emod]
      have : s + (e - s) = e := by omega
      rw [this, Int.emod_eq_of_lt e0 e1]
  · refine ⟨((s - e) % n).toNat, ?_, ?_⟩
    · have := Int.emod_lt_of_pos (s - e) hn
      have := Int.emod_nonneg (s - e) (by omega : n ≠ 0)
      omega
    · have h2 := Int.emod_nonneg (s - e) (by omega : n ≠ 0)
      rw [iter_eq hn _ s h0 h1, if_neg hu, Int.toNat_of_nonneg h2, Int.sub_emod_emod]
      have : s - (s - e) = e := by omega
      rw [this, Int.emod_eq_of_lt e0 e1]
structure Put (T T' : List Int) (k : Int) : Prop where
  len : T'.length = T.length
  mem : ∀ x ∈ T', x = k ∨ x ∈ T
  used : used T' ≤ used T + 1
theorem put_one {T : List Int} {s k : Int} (h0 : 0 ≤ s) (h : s < T.length) : Put T (put T s k) k := by
  refine ⟨put_len _ _ _, fun x hx => mem_put hx, ?_⟩
  have := used_put (x := k) h0 h
  split at this <;> split at this <;> omega
theorem frees_mem {h st c : String} {T : List Int} {k s : Int} (hn : SizeOk T.length) : s ∈ frees h st c T k ↔ (0 ≤ s ∧ s < T.length) ∧ isFree c (ga T s) = true := by
  unfold frees
  rw [List.mem_filter, path_mem hn]
theorem frees_ne {h st c : String} {T : List Int} {k : Int} (hn : SizeOk T.length) (hu : used T < T.length) : ∃ s r, frees h st c T k = s :: r ∧ (0 ≤ s ∧ s < T.length) ∧ isFree c (ga T s) = true := by
  obtain ⟨s, h0, h1, e⟩ := exists_empty hu
  have hm : s ∈ frees h st c T k := (frees_mem hn).mpr ⟨⟨h0, h1⟩, by simp [isFree, e]⟩
  cases q : frees h st c T k with
  | nil =>
    rw [q] at hm
    cases hm
  | cons a r =>
    have := (frees_mem hn).mp (show a ∈ frees h st c T k by rw [q]; exact List.mem_cons_self)
    exact ⟨a, r, rfl, this⟩
theorem shove_put {h st c : String} {n : Int} (hn : 0 < n) : ∀ (f : Nat) (T : List Int) (s m : Int), (T.length : Int) = n → 0 ≤ s → s < n → (∃ j : Nat, j < f ∧ ga T (iter st n j s) < 0) →
    (shove h st c n f T s m).length = T.length ∧ (∀ x ∈ shove h st c n f T s m, x = m ∨ x ∈ T) ∧ used (shove h st c n f T s m) ≤ used T + 1
  | 0, T, s, m, _, _, _, ⟨j, hj, _⟩ => by omega
  | f + 1, T, s, m, hl, h0, h1, ⟨j, hj, ej⟩ => by
    have h1' : s < T.length := by omega
    obtain ⟨a, b⟩ := nxt_rng (st := st) (s := s) hn
    unfold shove
    split
    · rename_i hg
      have hj0 : j ≠ 0 := fun z => by
        subst z
        unfold iter at ej
        omega
      obtain ⟨i, rfl⟩ : ∃ i, j = i + 1 := ⟨j - 1, by omega⟩
      have ej' : ga T (iter st n i (nxt st s n)) < 0 := ej
      split
      · have hne : s ≠ iter st n i (nxt st s n) := fun z => by
          rw [← z] at ej'
          omega
        have r0 : 0 ≤ iter st n i (nxt st s n) := by
          rw [iter_eq hn _ _ a b]
          split <;> exact Int.emod_nonneg _ (by omega)
        obtain ⟨p1, p2, p3⟩ := shove_put hn f (put T s m) (nxt st s n) (ga T s) (by rw [put_len]; exact hl) a b ⟨i, by omega, by rw [ga_put h0 r0 h1', if_neg hne]; exact ej'⟩
        refine ⟨by rw [p1, put_len], fun x hx => ?_, ?_⟩
        · rcases p2 x hx with z | z
          · exact .inr (z ▸ ga_mem h0 h1')
          · exact mem_put z
        · have u := used_put (x := m) h0 h1'
          have g1 : ga T s ≠ -1 := by omega
          rw [if_neg g1] at u
          split at u <;> omega
      · exact shove_put hn f T (nxt st s n) m hl a b ⟨i, by omega, ej'⟩
    · have := put_one (k := m) h0 h1'
      exact ⟨this.len, this.mem, this.used⟩
theorem place_put {h st c : String} {T : List Int} {k : Int} (hn : SizeOk T.length) (hu : used T < T.length) : Put T (placeS h st c T k) k := by
  obtain ⟨n0, n1⟩ := small hn
  unfold placeS
  split
  · obtain ⟨s, r, e, ⟨h0, h1⟩, _⟩ := frees_ne (h := h) (st := st) (c := c) (k := k) hn hu
    rw [e]
    exact put_one h0 h1
  · obtain ⟨e, e0, e1, ee⟩ := exists_empty hu
    obtain ⟨h0, h1⟩ := home_rng (h := h) (k := k) hn
    obtain ⟨j, hj, ej⟩ := iter_meets (st := st) n0 h0 h1 e0 e1
    obtain ⟨p1, p2, p3⟩ := shove_put (h := h) (c := c) n0 T.length T (homeOf h k T.length) k rfl h0 h1 ⟨j, by omega, by rw [ej, ee]; decide⟩
    exact ⟨p1, p2, p3⟩
theorem fold_put {h st c : String} : ∀ (L T : List Int), SizeOk T.length → used T + L.length ≤ T.length → (L.foldl (placeS h st c) T).length = T.length ∧ (∀ x ∈ L.foldl (placeS h st c) T, x ∈ L ∨ x ∈ T) ∧ used (L.foldl (placeS h st c) T) ≤ used T + L.length
  | [], T, _, _ => ⟨rfl, fun x hx => .inr hx, Nat.le_refl _⟩
  | k :: L, T, hn, hu => by
    simp only [List.length_cons] at hu
    have p := place_put (h := h) (st := st) (c := c) (k := k) hn (by omega)
    obtain ⟨q1, q2, q3⟩ := fold_put (h := h) (st := st) (c := c) L (placeS h st c T k) (by rw [p.len]; exact hn) (by have := p.used; have := p.len; omega)
    refine ⟨by rw [List.foldl_cons, q1, p.len], fun x hx => ?_, ?_⟩
    · rw [List.foldl_cons] at hx
      rcases q2 x hx with z | z
      · exact .inl (List.mem_cons_of_mem _ z)
      · rcases p.mem x z with z | z
        · exact .inl (z ▸ List.mem_cons_self)
        · exact .inr z
    · rw [List.foldl_cons]
      have := p.used
      simp only [List.length_cons]
      omega
theorem anew_put {h st c : String} {T : List Int} {n : Nat} (hn : SizeOk n) (hu : (once [] (keysS T)).length ≤ n) : (anewS h st c T n).length = n ∧ (∀ x ∈ anewS h st c T n, x = -1 ∨ (0 ≤ x ∧ x ∈ T)) ∧ used (anewS h st c T n) ≤ (once [] (keysS T)).length := by
  unfold anewS
  obtain ⟨q1, q2, q3⟩ := fold_put (h := h) (st := st) (c := c) (once [] (keysS T)) (List.replicate n (-1)) (by simpa using hn) (by rw [used_replicate]; simpa using hu)
  rw [used_replicate] at q3
  refine ⟨by simpa using q1, fun x hx => ?_, by omega⟩
  rcases q2 x hx with z | z
  · have := (once_mem _ _).mp z
    unfold keysS at this
    rw [List.mem_filter] at this
    exact .inr ⟨by simpa using this.2, this.1⟩
  · exact .inl (List.eq_of_mem_replicate z)
structure OkS (gr : String) (ks : List Int) (T : List Int) : Prop where
  size : SizeOk T.length
  rng : ∀ x ∈ T, x = -2 ∨ x = -1 ∨ (KeyOk x ∧ x ∈ ks)
  used : (used T : Int) ≤ growOf gr T.length
def GrowOk (gr : String) : Prop := gr = "half" ∨ gr = "three" ∨ gr = "full"
theorem grow_lt {gr : String} {n : Int} (hg : GrowOk gr) (hn : SizeOk n) : 2 ≤ growOf gr n ∧ growOf gr n < n ∧ growOf gr n + 1 ≤ growOf gr (2 * n) := by
  unfold growOf
  rcases hg with rfl | rfl | rfl <;> rcases hn with rfl | rfl | rfl | rfl | rfl <;> decide
theorem OkS.once {gr : String} {ks T : List Int} (o : OkS gr ks T) : (once [] (keysS T)).length ≤ ks.length := by
  refine nodup_le (once_nodup _) fun x hx => ?_
  have := (once_mem _ _).mp hx
  unfold keysS at this
  rw [List.mem_filter] at this
  have h0 : 0 ≤ x := by simpa using this.2
  rcases o.rng x this.1 with z | z | z
  · omega
  · omega
  · exact z.2
theorem OkS.begun {gr : String} {ks : List Int} (hg : GrowOk gr) : OkS gr ks (List.replicate 4 (-1)) := by
  refine ⟨.inl rfl, fun x hx => .inr (.inl (List.eq_of_mem_replicate hx)), ?_⟩
  rw [used_replicate]
  have := (grow_lt (n := 4) hg (.inl rfl)).1
  simp
  omega
theorem OkS.anew {h st c gr : String} {ks T : List Int} {n : Nat} (o : OkS gr ks T) (hn : SizeOk n) (hu : ((TM.once [] (keysS T)).length : Int) ≤ growOf gr n) (hg : GrowOk gr) : OkS gr ks (anewS h st c T n) ∧ (anewS h st c T n).length = n ∧ TM.used (anewS h st c T n) ≤ (TM.once [] (keysS T)).length := by
  have hl := (grow_lt hg hn).2.1
  obtain ⟨q1, q2, q3⟩ := anew_put (h := h) (st := st) (c := c) (T := T) hn (by omega)
  refine ⟨⟨by rw [q1]; exact hn, fun x hx => ?_, by rw [q1]; omega⟩, q1, q3⟩
  rcases q2 x hx with z | ⟨z1, z2⟩
  · exact .inr (.inl z)
  · rcases o.rng x z2 with z | z | z
    · omega
    · omega
    · exact .inr (.inr z)
theorem OkS.grown {h st c gr : String} {ks T : List Int} (o : OkS gr ks T) (hg : GrowOk gr) (hk : ks.length ≤ 30) : OkS gr ks (grownS h st c gr T) ∧ (TM.used (grownS h st c gr T) : Int) + 1 ≤ growOf gr (grownS h st c gr T).length := by
  have ho := o.once
  have hl := grow_lt hg o.size
  have hm : (TM.once [] (keysS T)).length ≤ TM.used T := Nat.le_trans (once_len _) (keys_le T)
  have hu := o.used
  unfold grownS
  split
  · rename_i e
    exact ⟨o, e⟩
  · split
    · rename_i e
      obtain ⟨q1, q2, q3⟩ := o.anew (h := h) (st := st) (c := c) o.size (by omega) hg
      exact ⟨q1, by rw [q2]; omega⟩
    · rename_i e1 e2
      have hs : SizeOk ((2 * T.length : Nat) : Int) := by
        have h64 : growOf gr 64 ≥ 32 := by unfold growOf; rcases hg with rfl | rfl | rfl <;> decide
        rcases o.size with z | z | z | z | z
        · exact .inr (.inl (by omega))
        · exact .inr (.inr (.inl (by omega)))
        · exact .inr (.inr (.inr (.inl (by omega))))
        · exact .inr (.inr (.inr (.inr (by omega))))
        · rw [z] at e2
          omega
      have e3 : ((2 * T.length : Nat) : Int) = 2 * (T.length : Int) := by omega
      obtain ⟨q1, q2, q3⟩ := o.anew (h := h) (st := st) (c := c) (n := 2 * T.length) hs (by rw [e3]; omega) hg
      exact ⟨q1, by rw [q2, e3]; omega⟩
theorem OkS.placed {h st c gr : String} {ks T : List Int} {k : Int} (o : OkS gr ks T) (hg : GrowOk gr) (hu : (TM.used T : Int) + 1 ≤ growOf gr T.length) (hk : KeyOk k) (hm : k ∈ ks) : OkS gr ks (placeS h st c T k) := by
  have hl := grow_lt hg o.size
  have p := place_put (h := h) (st := st) (c := c) (k := k) o.size (by omega)
  refine ⟨by rw [p.len]; exact o.size, fun x hx => ?_, by rw [p.len]; have := p.used; omega⟩
  rcases p.mem x hx with z | z
  · exact .inr (.inr ⟨z ▸ hk, z ▸ hm⟩)
  · exact o.rng x z
theorem seek_spec (T : List Int) (k : Int) : ∀ (p : List Int) (l : Int), (∀ s, (seek T k p l).1 = some s → s ∈ p ∧ ga T s = k ∧ ga T s ≠ -1) ∧ l ≤ (seek T k p l).2 ∧ (seek T k p l).2 ≤ l + p.length
  | [], l => ⟨fun s h => by simp [seek] at h, by simp [seek], by simp [seek]⟩
  | a :: r, l => by
    unfold seek
    simp only [List.length_cons]
    split
    · exact ⟨fun s h => by simp at h, by simp; omega, by simp; omega⟩
    · split
      · rename_i h1 h2
        refine ⟨fun s h => ?_, by simp; omega, by simp; omega⟩
        simp at h
        subst h
        exact ⟨List.mem_cons_self, h2, h1⟩
      · obtain ⟨q1, q2, q3⟩ := seek_spec T k r (l + 1)
        refine ⟨fun s h => ?_, by omega, by push_cast; omega⟩
        obtain ⟨z1, z2, z3⟩ := q1 s h
        exact ⟨List.mem_cons_of_mem _ z1, z2, z3⟩
theorem pull_spec {h st : String} {n : Int} (hn : 0 < n) : ∀ (f : Nat) (T : List Int) (s a : Int), (T.length : Int) = n → 0 ≤ s → s < n → 0 ≤ a → a < n → ga T s = -1 → (∃ j : Nat, j < f ∧ ga T (iter st n (j + 1) a) = -1 ∧ iter st n (j + 1) a ≠ s) →
    (pull h st n f T s a).length = T.length ∧ (∀ x ∈ pull h st n f T s a, x ∈ T) ∧ used (pull h st n f T s a) = used T
  | 0, T, s, a, _, _, _, _, _, _, ⟨j, hj, _⟩ => by omega
  | f + 1, T, s, a, hl, s0, s1, a0, a1, es, ⟨j, hj, ej, nj⟩ => by
    obtain ⟨b0, b1⟩ := nxt_rng (st := st) (s := a) hn
    unfold pull
    split
    · exact ⟨rfl, fun x hx => hx, rfl⟩
    · rename_i hg
      have hj0 : j ≠ 0 := fun z => by
        subst z
        exact hg ej
      obtain ⟨i, rfl⟩ : ∃ i, j = i + 1 := ⟨j - 1, by omega⟩
      have ej' : ga T (iter st n (i + 1) (nxt st a n)) = -1 := ej
      have nj' : iter st n (i + 1) (nxt st a n) ≠ s := nj
      split
      · have r0 : 0 ≤ iter st n (i + 1) (nxt st a n) := by
          rw [iter_eq hn _ _ b0 b1]
          split <;> exact Int.emod_nonneg _ (by omega)
        have l1 : s < T.length := by omega
        have l2 : nxt st a n < (put T s (ga T (nxt st a n))).length := by rw [put_len]; omega
        have na : nxt st a n ≠ s := fun z => hg (by rw [z]; exact es)
        have ne : nxt st a n ≠ iter st n (i + 1) (nxt st a n) := fun z => hg (by rw [z]; exact ej')
        have g1 : ga (put T s (ga T (nxt st a n))) (nxt st a n) = ga T (nxt st a n) := by
          rw [ga_put s0 b0 l1, if_neg (fun z => na z.symm)]
        obtain ⟨p1, p2, p3⟩ := pull_spec (h := h) hn f (put (put T s (ga T (nxt st a n))) (nxt st a n) (-1)) (nxt st a n) (nxt st a n) (by rw [put_len, put_len]; exact hl) b0 b1 b0 b1
          (by rw [ga_put b0 b0 l2, if_pos rfl]) ⟨i, by omega, by rw [ga_put b0 r0 l2, if_neg ne, ga_put s0 r0 l1, if_neg (fun z => nj' z.symm)]; exact ej', fun z => ne z.symm⟩
        refine ⟨by rw [p1, put_len, put_len], fun x hx => ?_, ?_⟩
        · rcases mem_put (p2 x hx) with z | z
          · rw [z, ← es]
            exact ga_mem s0 l1
          · rcases mem_put z with z | z
            · rw [z]
              exact ga_mem b0 (by omega)
            · exact z
        · have u1 := used_put (x := ga T (nxt st a n)) s0 l1
          have u2 := used_put (T := put T s (ga T (nxt st a n))) (x := -1) b0 l2
          rw [g1, if_neg hg] at u2
          rw [if_pos es, if_neg hg] at u1
          simp at u2
          omega
      · exact pull_spec hn f T s (nxt st a n) hl s0 s1 b0 b1 es ⟨i, by omega, ej', nj'⟩
theorem OkS.removed {h st c g gr : String} {ks T : List Int} {s : Int} (o : OkS gr ks T) (hg : GrowOk gr) (h0 : 0 ≤ s) (h1 : s < T.length) (hs : ga T s ≠ -1) : OkS gr ks (removedS h st c g T s) := by
  have hl := grow_lt hg o.size
  obtain ⟨n0, n1⟩ := small o.size
  have hu := o.used
  have one : ∀ x : Int, (x = -1 ∨ x = -2) → OkS gr ks (put T s x) := fun x hx => by
    refine ⟨by rw [put_len]; exact o.size, fun y hy => ?_, ?_⟩
    · rcases mem_put hy with z | z
      · rcases hx with e | e
        · exact .inr (.inl (z.trans e))
        · exact .inl (z.trans e)
      · exact o.rng y z
    · have u := used_put (x := x) h0 h1
      rw [if_neg hs] at u
      rw [put_len]
      split at u <;> omega
  have u1 := used_put (x := -1) h0 h1
  rw [if_neg hs] at u1
  simp at u1
  unfold removedS
  split
  · exact one _ (.inr rfl)
  · split
    · have hlt : TM.used T < T.length := by omega
      obtain ⟨e, e0, e1, ee⟩ := exists_empty hlt
      have ne : e ≠ s := fun z => hs (by rw [← z]; exact ee)
      obtain ⟨j, hj, ej⟩ := iter_meets (st := st) n0 h0 h1 e0 e1
      have j0 : j ≠ 0 := fun z => by
        subst z
        exact ne ej.symm
      obtain ⟨i, rfl⟩ : ∃ i, j = i + 1 := ⟨j - 1, by omega⟩
      obtain ⟨p1, p2, p3⟩ := pull_spec (h := h) (st := st) n0 T.length (put T s (-1)) s s (by rw [put_len]) h0 h1 h0 h1 (by rw [ga_put h0 h0 h1, if_pos rfl]) ⟨i, by omega, by rw [ej, ga_put h0 e0 h1, if_neg (fun z => ne z.symm)]; exact ee, by rw [ej]; exact ne⟩
      have o1 := one (-1) (.inl rfl)
      exact ⟨by rw [p1]; exact o1.size, fun x hx => o1.rng x (p2 x hx), by rw [p1, p3]; exact o1.used⟩
    · split
      · exact one _ (.inl rfl)
      · have o1 := one (-1) (.inl rfl)
        have hm : (TM.once [] (keysS (put T s (-1)))).length ≤ TM.used (put T s (-1)) := Nat.le_trans (once_len _) (keys_le _)
        have := o1.used
        rw [put_len] at this
        exact (o1.anew (h := h) (st := st) (c := c) o.size (by omega) hg).1
end TM
namespace TM
theorem rput_len (R : List (List Int)) (s : Int) (r : List Int) : (rput R s r).length = R.length := by simp [rput]
theorem rat_rput {R : List (List Int)} {s u : Int} {r : List Int} (hs : 0 ≤ s) (hu : 0 ≤ u) (h : s < R.length) : rat (rput R s r) u = if s = u then r else rat R u := by
  unfold rat rput
  rw [List.getD_eq_getElem?_getD, List.getElem?_set]
  by_cases e : s = u
  · subst e
    have : s.toNat < R.length := by omega
    simp [this]
  · have : s.toNat ≠ u.toNat := by omega
    simp [this, e]
theorem rat_mem {R : List (List Int)} {s : Int} (h0 : 0 ≤ s) (h : s < R.length) : rat R s ∈ R := by
  unfold rat
  rw [List.getD_eq_getElem?_getD, List.getElem?_eq_getElem (by omega)]
  exact List.getElem_mem _
theorem mem_rat {R : List (List Int)} {r : List Int} (h : r ∈ R) : ∃ s : Int, 0 ≤ s ∧ s < R.length ∧ rat R s = r := by
  obtain ⟨i, hi, e⟩ := List.getElem_of_mem h
  refine ⟨i, by omega, by omega, ?_⟩
  unfold rat
  rw [List.getD_eq_getElem?_getD]
  simp [List.getElem?_eq_getElem hi, e]
theorem mem_flat {R : List (List Int)} {k : Int} : k ∈ R.flatten ↔ ∃ s : Int, 0 ≤ s ∧ s < R.length ∧ k ∈ rat R s := by
  rw [List.mem_flatten]
  constructor
  · rintro ⟨r, hr, hk⟩
    obtain ⟨s, h0, h1, e⟩ := mem_rat hr
    exact ⟨s, h0, h1, e ▸ hk⟩
  · rintro ⟨s, h0, h1, hk⟩
    exact ⟨_, rat_mem h0 h1, hk⟩
theorem flat_set : ∀ (R : List (List Int)) (i : Nat) (r : List Int) (h : i < R.length), (R.set i r).flatten.length + R[i].length = R.flatten.length + r.length
  | [], i, r, h => by simp at h
  | a :: R, 0, r, h => by simp; omega
  | a :: R, i + 1, r, h => by
    have := flat_set R i r (by simpa using h)
    simp only [List.set_cons_succ, List.flatten_cons, List.length_append, List.getElem_cons_succ]
    omega
theorem flat_rput {R : List (List Int)} {s : Int} {r : List Int} (h0 : 0 ≤ s) (h : s < R.length) : (rput R s r).flatten.length + (rat R s).length = R.flatten.length + r.length := by
  have hl : s.toNat < R.length := by omega
  have := flat_set R s.toNat r hl
  unfold rput rat
  rw [List.getD_eq_getElem?_getD, List.getElem?_eq_getElem hl]
  exact this
/-- rows with their keys at home, each once -/
structure Homed (h : String) (R : List (List Int)) : Prop where
  size : SizeOk R.length
  home : ∀ s : Int, 0 ≤ s → s < R.length → ∀ k ∈ rat R s, homeOf h k R.length = s
  nodup : ∀ r ∈ R, r.Nodup
theorem Homed.flat {h : String} {R : List (List Int)} (o : Homed h R) : R.flatten.Nodup := by
  refine List.pairwise_flatten.mpr ⟨o.nodup, ?_⟩
  rw [List.pairwise_iff_getElem]
  intro i j hi hj hij x hx y hy e
  subst e
  have a1 : rat R (i : Int) = R[i] := by
    unfold rat
    simp [List.getD_eq_getElem?_getD, List.getElem?_eq_getElem hi]
  have a2 : rat R (j : Int) = R[j] := by
    unfold rat
    simp [List.getD_eq_getElem?_getD, List.getElem?_eq_getElem hj]
  have h1 := o.home i (by omega) (by omega) x (by rw [a1]; exact hx)
  have h2 := o.home j (by omega) (by omega) x (by rw [a2]; exact hy)
  omega
theorem Homed.place {h c : String} {R : List (List Int)} {k : Int} (o : Homed h R) (hk : k ∉ rat R (homeOf h k R.length)) : Homed h (placeR h c R k) ∧ (placeR h c R k).flatten.length = R.flatten.length + 1 ∧ (∀ x, x ∈ (placeR h c R k).flatten ↔ x = k ∨ x ∈ R.flatten) ∧ (placeR h c R k).length = R.length := by
  obtain ⟨h0, h1⟩ := home_rng (h := h) (k := k) o.size
  have mr : ∀ x, x ∈ (if c = "front" then k :: rat R (homeOf h k R.length) else rat R (homeOf h k R.length) ++ [k]) ↔ x = k ∨ x ∈ rat R (homeOf h k R.length) := fun x => by
    split
    · simp
    · simp [or_comm]
  have ln : (if c = "front" then k :: rat R (homeOf h k R.length) else rat R (homeOf h k R.length) ++ [k]).length = (rat R (homeOf h k R.length)).length + 1 := by
    split <;> simp
  have nd : (if c = "front" then k :: rat R (homeOf h k R.length) else rat R (homeOf h k R.length) ++ [k]).Nodup := by
    have n1 := o.nodup _ (rat_mem h0 h1)
    split
    · exact List.nodup_cons.mpr ⟨hk, n1⟩
    · rw [List.nodup_append]
      refine ⟨n1, by simp, fun a ha b hb e => ?_⟩
      simp at hb
      have : a = k := e.trans hb
      subst this
      exact hk ha
  unfold placeR
  generalize (if c = "front" then k :: rat R (homeOf h k R.length) else rat R (homeOf h k R.length) ++ [k]) = r at mr ln nd
  have hl : (rput R (homeOf h k R.length) r).length = R.length := rput_len _ _ _
  refine ⟨⟨by rw [hl]; exact o.size, fun s s0 s1 x hx => ?_, fun q hq => ?_⟩, ?_, fun x => ?_, hl⟩
  · rw [hl] at s1 ⊢
    rw [rat_rput h0 s0 h1] at hx
    split at hx
    · rename_i e
      rcases (mr x).mp hx with z | z
      · rw [z]; exact e
      · rw [o.home _ h0 h1 x z]; exact e
    · exact o.home s s0 s1 x hx
  · rcases List.mem_or_eq_of_mem_set hq with z | z
    · exact o.nodup q z
    · rw [z]; exact nd
  · have := flat_rput (r := r) h0 h1
    omega
  · rw [mem_flat, mem_flat, hl]
    constructor
    · rintro ⟨s, s0, s1, hx⟩
      rw [rat_rput h0 s0 h1] at hx
      split at hx
      · rcases (mr x).mp hx with z | z
        · exact .inl z
        · exact .inr ⟨_, h0, h1, z⟩
      · exact .inr ⟨s, s0, s1, hx⟩
    · rintro (z | ⟨s, s0, s1, hx⟩)
      · exact ⟨_, h0, h1, by rw [rat_rput h0 h0 h1, if_pos rfl]; exact (mr x).mpr (.inl z)⟩
      · refine ⟨s, s0, s1, ?_⟩
        rw [rat_rput h0 s0 h1]
        split
        · rename_i e
          exact (mr x).mpr (.inr (by rw [e]; exact hx))
        · exact hx
theorem rat_replicate (n : Nat) (s : Int) : rat (List.replicate n []) s = [] := by
  unfold rat
  rw [List.getD_eq_getElem?_getD, List.getElem?_replicate]
  split <;> rfl
theorem Homed.empty {h : String} {n : Nat} (hn : SizeOk n) : Homed h (List.replicate n []) := by
  refine ⟨by simpa using hn, fun s _ _ k hk => ?_, fun r hr => ?_⟩
  · rw [rat_replicate] at hk
    cases hk
  · rw [List.eq_of_mem_replicate hr]
    simp
theorem flat_replicate (n : Nat) : (List.replicate n ([] : List Int)).flatten = [] := by
  induction n with
  | zero => rfl
  | succ n ih => rw [List.replicate_succ, List.flatten_cons, ih]; rfl
theorem Homed.fold {h c : String} : ∀ (L : List Int) (R : List (List Int)), Homed h R → L.Nodup → (∀ x ∈ L, x ∉ R.flatten) → Homed h (L.foldl (placeR h c) R) ∧ (L.foldl (placeR h c) R).flatten.length = R.flatten.length + L.length ∧ (∀ x, x ∈ (L.foldl (placeR h c) R).flatten ↔ x ∈ L ∨ x ∈ R.flatten) ∧ (L.foldl (placeR h c) R).length = R.length
  | [], R, o, _, _ => ⟨o, rfl, fun x => by simp, rfl⟩
  | k :: L, R, o, hn, hd => by
    obtain ⟨hn1, hn2⟩ := List.nodup_cons.mp hn
    obtain ⟨h0, h1⟩ := home_rng (h := h) (k := k) o.size
    obtain ⟨p1, p2, p3, p4⟩ := o.place (c := c) (k := k) fun z => hd k List.mem_cons_self (mem_flat.mpr ⟨_, h0, h1, z⟩)
    obtain ⟨q1, q2, q3, q4⟩ := Homed.fold (c := c) L (placeR h c R k) p1 hn2 fun x hx z => by
      rcases (p3 x).mp z with z | z
      · exact hn1 (z ▸ hx)
      · exact hd x (List.mem_cons_of_mem _ hx) z
    refine ⟨q1, ?_, fun x => ?_, q4.trans p4⟩
    · rw [List.foldl_cons, q2, p2]
      simp only [List.length_cons]
      omega
    · rw [List.foldl_cons, q3, p3, List.mem_cons]
      constructor
      · rintro (z | z | z)
        · exact .inl (.inr z)
        · exact .inl (.inl z)
        · exact .inr z
      · rintro ((z | z) | z)
        · exact .inr (.inl z)
        · exact .inl z
        · exact .inr (.inr z)
theorem anewR_spec {h c : String} (R : List (List Int)) {n : Nat} (hn : SizeOk n) : Homed h (anewR h c R n) ∧ (anewR h c R n).flatten.length = (once [] R.flatten).length ∧ (∀ x, x ∈ (anewR h c R n).flatten ↔ x ∈ R.flatten) ∧ (anewR h c R n).length = n := by
  obtain ⟨q1, q2, q3, q4⟩ := Homed.fold (h := h) (c := c) (once [] R.flatten) (List.replicate n []) (.empty hn) (once_nodup _) fun x _ z => by rw [flat_replicate] at z; cases z
  unfold anewR
  refine ⟨q1, by rw [q2, flat_replicate]; simp, fun x => ?_, by rw [q4]; simp⟩
  rw [q3, flat_replicate, once_mem]
  simp
structure OkR (h o : String) (ks : List Int) (R : List (List Int)) : Prop where
  hm : Homed h R
  rng : ∀ k ∈ R.flatten, KeyOk k ∧ k ∈ ks
  many : (R.flatten.length : Int) ≤ manyOf o R.length
def OneOk (o : String) : Prop := o = "one" ∨ o = "two"
theorem many_lt {o : String} {n : Int} (ho : OneOk o) (hn : SizeOk n) : n ≤ manyOf o n ∧ manyOf o n ≤ 2 * n ∧ manyOf o n + 1 ≤ manyOf o (2 * n) := by
  unfold manyOf
  rcases ho with rfl | rfl <;> rcases hn with rfl | rfl | rfl | rfl | rfl <;> decide
theorem OkR.begun {h o : String} {ks : List Int} (ho : OneOk o) : OkR h o ks (List.replicate 4 []) := by
  refine ⟨.empty (.inl rfl), fun k hk => ?_, ?_⟩
  · rw [flat_replicate] at hk
    cases hk
  · rw [flat_replicate]
    have := (many_lt (n := 4) ho (.inl rfl)).1
    simp
    omega
theorem OkR.total {h o : String} {ks : List Int} {R : List (List Int)} (k : OkR h o ks R) : R.flatten.length ≤ ks.length := nodup_le k.hm.flat fun x hx => (k.rng x hx).2
theorem OkR.grown {h c o : String} {ks : List Int} {R : List (List Int)} (k : OkR h o ks R) (ho : OneOk o) (hk : ks.length ≤ 30) : OkR h o ks (grownR h c o R) ∧ ((grownR h c o R).flatten.length : Int) + 1 ≤ manyOf o (grownR h c o R).length ∧ (∀ x, x ∈ (grownR h c o R).flatten ↔ x ∈ R.flatten) := by
  have hl := many_lt ho k.hm.size
  have ht := k.total
  have hm := k.many
  unfold grownR
  split
  · rename_i e
    exact ⟨k, e, fun x => Iff.rfl⟩
  · rename_i e
    have hs : SizeOk ((2 * R.length : Nat) : Int) := by
      rcases k.hm.size with z | z | z | z | z
      · exact .inr (.inl (by omega))
      · exact .inr (.inr (.inl (by omega)))
      · exact .inr (.inr (.inr (.inl (by omega))))
      · exact .inr (.inr (.inr (.inr (by omega))))
      · rw [z] at hl e
        omega
    obtain ⟨q1, q2, q3, q4⟩ := anewR_spec (h := h) (c := c) R hs
    have ol := once_len R.flatten
    have e3 : ((2 * R.length : Nat) : Int) = 2 * (R.length : Int) := by omega
    refine ⟨⟨q1, fun x hx => k.rng x ((q3 x).mp hx), ?_⟩, ?_, q3⟩
    · rw [q4, q2, e3]
      omega
    · rw [q4, q2, e3]
      omega
theorem OkR.placed {h c o : String} {ks : List Int} {R : List (List Int)} {k : Int} (r : OkR h o ks R) (hn : k ∉ R.flatten) (hu : (R.flatten.length : Int) + 1 ≤ manyOf o R.length) (hk : KeyOk k) (hm : k ∈ ks) : OkR h o ks (placeR h c R k) := by
  obtain ⟨h0, h1⟩ := home_rng (h := h) (k := k) r.hm.size
  obtain ⟨p1, p2, p3, p4⟩ := r.hm.place (c := c) (k := k) fun z => hn (mem_flat.mpr ⟨_, h0, h1, z⟩)
  refine ⟨p1, fun x hx => ?_, by rw [p4, p2]; omega⟩
  rcases (p3 x).mp hx with z | z
  · exact ⟨z ▸ hk, z ▸ hm⟩
  · exact r.rng x z
theorem OkR.removed {h o : String} {ks : List Int} {R : List (List Int)} {s k : Int} (r : OkR h o ks R) (h0 : 0 ≤ s) (h1 : s < R.length) : OkR h o ks (rput R s ((rat R s).filter (· ≠ k))) := by
  have hl : (rput R s ((rat R s).filter (· ≠ k))).length = R.length := rput_len _ _ _
  have sub : ∀ x, x ∈ (rput R s ((rat R s).filter (· ≠ k))).flatten → x ∈ R.flatten := fun x hx => by
    obtain ⟨u, u0, u1, hx⟩ := mem_flat.mp hx
    rw [hl] at u1
    rw [rat_rput h0 u0 h1] at hx
    split at hx
    · exact mem_flat.mpr ⟨s, h0, h1, (List.mem_filter.mp hx).1⟩
    · exact mem_flat.mpr ⟨u, u0, u1, hx⟩
  refine ⟨⟨by rw [hl]; exact r.hm.size, fun u u0 u1 x hx => ?_, fun q hq => ?_⟩, fun x hx => r.rng x (sub x hx), ?_⟩
  · rw [hl] at u1 ⊢
    rw [rat_rput h0 u0 h1] at hx
    split at hx
    · rename_i e
      rw [← e]
      exact r.hm.home s h0 h1 x (List.mem_filter.mp hx).1
    · exact r.hm.home u u0 u1 x hx
  · rcases List.mem_or_eq_of_mem_set hq with z | z
    · exact r.hm.nodup q z
    · rw [z]
      exact (r.hm.nodup _ (rat_mem h0 h1)).filter _
  · rw [hl]
    have f := flat_rput (r := (rat R s).filter (· ≠ k)) h0 h1
    have g := List.length_filter_le (· ≠ k) (rat R s)
    have := r.many
    omega
def Ok (w : Way) (ks : List Int) (t : Tab) : Prop := match w, t with
  | .r h _ o, .r R => OkR h o ks R
  | .s _ _ _ _ gr, .s T => OkS gr ks T
  | _, _ => False
theorem Ok.begun {w : Way} (hw : w.Ok) (ks : List Int) : Ok w ks (begun w) := by
  cases w with
  | r h c o => exact OkR.begun hw.2.2
  | s h st c g gr => exact OkS.begun hw.2.2.2.2.1
theorem Ok.done {w : Way} {ks : List Int} {t : Tab} {kd : Deed3} {k : Int} (hw : w.Ok) (o : Ok w ks t) (hk : KeyOk k) (hm : k ∈ ks) (hl : ks.length ≤ 30) : Ok w ks (done w t kd k) := by
  cases w with
  | r h c oo =>
    cases t with
    | s T => exact o.elim
    | r R =>
      have o' : OkR h oo ks R := o
      obtain ⟨h0, h1⟩ := home_rng (h := h) (k := k) o'.hm.size
      have nf : (found (.r h c oo) (.r R) k).1 = none → k ∉ R.flatten := fun e z => by
        obtain ⟨s, s0, s1, hs⟩ := mem_flat.mp z
        have := o'.hm.home s s0 s1 k hs
        simp only [found] at e
        rw [this, if_pos hs] at e
        cases e
      have fd : ∀ s, (found (.r h c oo) (.r R) k).1 = some s → s = homeOf h k R.length := fun s e => by
        simp only [found] at e
        split at e
        · cases e
          rfl
        · cases e
      unfold TM.done
      cases kd with
      | ask => exact o
      | put =>
        cases e : (found (.r h c oo) (.r R) k).1 with
        | none =>
          obtain ⟨g1, g2, g3⟩ := o'.grown (c := c) hw.2.2 hl
          exact g1.placed (fun z => nf e ((g3 k).mp z)) g2 hk hm
        | some s => exact o
      | take =>
        cases e : (found (.r h c oo) (.r R) k).1 with
        | none => exact o
        | some s =>
          rw [fd s e]
          exact o'.removed h0 h1
  | s h st c g gr =>
    cases t with
    | r R => exact o.elim
    | s T =>
      have o' : OkS gr ks T := o
      unfold TM.done
      cases kd with
      | ask => exact o
      | put =>
        cases e : (found (.s h st c g gr) (.s T) k).1 with
        | none =>
          obtain ⟨g1, g2⟩ := o'.grown (h := h) (st := st) (c := c) hw.2.2.2.2.1 hl
          exact g1.placed hw.2.2.2.2.1 g2 hk hm
        | some s => exact o
      | take =>
        cases e : (found (.s h st c g gr) (.s T) k).1 with
        | none => exact o
        | some s =>
          obtain ⟨z1, z2, z3⟩ := (seek_spec T k (pathOf h st k T.length) 0).1 s e
          obtain ⟨s0, s1⟩ := (path_mem o'.size).mp z1
          exact o'.removed hw.2.2.2.2.1 s0 s1 z3
end TM
namespace TM
structure ShI (st : String) (n : Int) (f : Nat) (T : List Int) (s : Int) : Prop where
  len : (T.length : Int) = n
  s0 : 0 ≤ s
  s1 : s < n
  ex : ∃ j : Nat, j < f ∧ ga T (iter st n j s) < 0
theorem iter_rng {st : String} {n : Int} (hn : 0 < n) (j : Nat) {s : Int} (h0 : 0 ≤ s) (h1 : s < n) : 0 ≤ iter st n j s ∧ iter st n j s < n := by
  rw [iter_eq hn _ _ h0 h1]
  split <;> exact ⟨Int.emod_nonneg _ (by omega), Int.emod_lt_of_pos _ hn⟩
theorem ShI.step {st : String} {n : Int} {f : Nat} {T : List Int} {s : Int} (hn : 0 < n) (i : ShI st n f T s) (hg : 0 ≤ ga T s) (m : Int) : ∃ f', f = f' + 1 ∧ ShI st n f' (put T s m) (nxt st s n) ∧ ShI st n f' T (nxt st s n) := by
  obtain ⟨len, s0, s1, j, hj, ej⟩ := i
  obtain ⟨a, b⟩ := nxt_rng (st := st) (s := s) hn
  have hj0 : j ≠ 0 := fun z => by
    subst z
    unfold iter at ej
    omega
  obtain ⟨i, rfl⟩ : ∃ i, j = i + 1 := ⟨j - 1, by omega⟩
  have ej' : ga T (iter st n i (nxt st s n)) < 0 := ej
  have hne : s ≠ iter st n i (nxt st s n) := fun z => by
    rw [← z] at ej'
    omega
  refine ⟨f - 1, by omega, ⟨by rw [put_len]; exact len, a, b, i, by omega, ?_⟩, len, a, b, i, by omega, ej'⟩
  rw [ga_put s0 (iter_rng hn i a b).1 (by omega), if_neg hne]
  exact ej'
theorem ShI.free {st : String} {n : Int} {f : Nat} {T : List Int} {s : Int} (i : ShI st n f T s) : ∃ f', f = f' + 1 := by
  obtain ⟨j, hj, _⟩ := i.ex
  exact ⟨f - 1, by omega⟩
theorem ShI.start {st h : String} {T : List Int} {k : Int} (hn : SizeOk T.length) (hu : used T < T.length) : ShI st T.length T.length T (homeOf h k T.length) := by
  obtain ⟨n0, n1⟩ := small hn
  obtain ⟨e, e0, e1, ee⟩ := exists_empty hu
  obtain ⟨h0, h1⟩ := home_rng (h := h) (k := k) hn
  obtain ⟨j, hj, ej⟩ := iter_meets (st := st) n0 h0 h1 e0 e1
  exact ⟨rfl, h0, h1, j, by omega, by rw [ej, ee]; decide⟩
structure PuI (st : String) (n : Int) (f : Nat) (T : List Int) (s a : Int) : Prop where
  len : (T.length : Int) = n
  s0 : 0 ≤ s
  s1 : s < n
  a0 : 0 ≤ a
  a1 : a < n
  gap : ga T s = -1
  ex : ∃ j : Nat, j < f ∧ ga T (iter st n (j + 1) a) = -1 ∧ iter st n (j + 1) a ≠ s
theorem PuI.free {st : String} {n : Int} {f : Nat} {T : List Int} {s a : Int} (i : PuI st n f T s a) : ∃ f', f = f' + 1 := by
  obtain ⟨j, hj, _⟩ := i.ex
  exact ⟨f - 1, by omega⟩
theorem PuI.step {st : String} {n : Int} {f : Nat} {T : List Int} {s a : Int} (hn : 0 < n) (i : PuI st n f T s a) (hg : ga T (nxt st a n) ≠ -1) : ∃ f', f = f' + 1 ∧ PuI st n f' (put (put T s (ga T (nxt st a n))) (nxt st a n) (-1)) (nxt st a n) (nxt st a n) ∧ PuI st n f' T s (nxt st a n) := by
  obtain ⟨len, s0, s1, a0, a1, es, j, hj, ej, nj⟩ := i
  obtain ⟨b0, b1⟩ := nxt_rng (st := st) (s := a) hn
  have hj0 : j ≠ 0 := fun z => by
    subst z
    exact hg ej
  obtain ⟨i, rfl⟩ : ∃ i, j = i + 1 := ⟨j - 1, by omega⟩
  have ej' : ga T (iter st n (i + 1) (nxt st a n)) = -1 := ej
  have nj' : iter st n (i + 1) (nxt st a n) ≠ s := nj
  have r0 := (iter_rng (st := st) hn (i + 1) b0 b1).1
  have l1 : s < T.length := by omega
  have l2 : nxt st a n < (put T s (ga T (nxt st a n))).length := by rw [put_len]; omega
  have ne : nxt st a n ≠ iter st n (i + 1) (nxt st a n) := fun z => hg (by rw [z]; exact ej')
  refine ⟨f - 1, by omega, ⟨by rw [put_len, put_len]; exact len, b0, b1, b0, b1, by rw [ga_put b0 b0 l2, if_pos rfl], i, by omega, ?_, fun z => ne z.symm⟩, len, s0, s1, b0, b1, es, i, by omega, ej', nj'⟩
  rw [ga_put b0 r0 l2, if_neg ne, ga_put s0 r0 l1, if_neg (fun z => nj' z.symm)]
  exact ej'
theorem PuI.start {st : String} {T : List Int} {s : Int} (hn : SizeOk T.length) (hu : used T < T.length) (h0 : 0 ≤ s) (h1 : s < T.length) (hs : ga T s ≠ -1) : PuI st T.length T.length (put T s (-1)) s s := by
  obtain ⟨n0, n1⟩ := small hn
  obtain ⟨e, e0, e1, ee⟩ := exists_empty hu
  have ne : e ≠ s := fun z => hs (by rw [← z]; exact ee)
  obtain ⟨j, hj, ej⟩ := iter_meets (st := st) n0 h0 h1 e0 e1
  have j0 : j ≠ 0 := fun z => by
    subst z
    exact ne ej.symm
  obtain ⟨i, rfl⟩ : ∃ i, j = i + 1 := ⟨j - 1, by omega⟩
  exact ⟨by rw [put_len], h0, h1, h0, h1, by rw [ga_put h0 h0 h1, if_pos rfl], i, by omega, by rw [ej, ga_put h0 e0 h1, if_neg (fun z => ne z.symm)]; exact ee, by rw [ej]; exact ne⟩
theorem shove_turn (h st c : String) (n : Int) (f : Nat) (T : List Int) (s m : Int) : shove h st c n (f + 1) T s m = if 0 ≤ ga T s then
      (if c = "first" ∨ dist h st (ga T s) s n < dist h st m s n then shove h st c n f (put T s m) (nxt st s n) (ga T s) else shove h st c n f T (nxt st s n) m)
    else put T s m := rfl
theorem pull_turn (h st : String) (n : Int) (f : Nat) (T : List Int) (s a : Int) : pull h st n (f + 1) T s a = if ga T (nxt st a n) = -1 then T else
      if dist h st (ga T (nxt st a n)) s n ≤ dist h st (ga T (nxt st a n)) (nxt st a n) n then pull h st n f (put (put T s (ga T (nxt st a n))) (nxt st a n) (-1)) (nxt st a n) (nxt st a n)
      else pull h st n f T s (nxt st a n) := rfl
end TM
namespace TM
abbrev RowT := List (Deed3 × Int)
/-- behind each deed: the table, whether the key was found, the looks -/
def hist (w : Way) : Tab → RowT → List (Tab × Bool × Int)
  | _, [] => []
  | t, p :: r => (done w t p.1 p.2, (found w t p.2).1.isSome, (found w t p.2).2) :: hist w (done w t p.1 p.2) r
def endT (w : Way) : Tab → RowT → Tab
  | t, [] => t
  | t, p :: r => endT w (done w t p.1 p.2) r
structure RowOk (ks : List Int) (r : RowT) : Prop where
  keys : ∀ p ∈ r, KeyOk p.2 ∧ p.2 ∈ ks
  len : r.length ≤ 24
theorem hist_len (w : Way) : ∀ (t : Tab) (r : RowT), (hist w t r).length = r.length
  | _, [] => rfl
  | t, p :: r => by simp [hist, hist_len w _ r]
theorem Ok.hist {w : Way} {ks : List Int} (hw : w.Ok) (hl : ks.length ≤ 30) : ∀ {t : Tab} {r : RowT}, Ok w ks t → (∀ p ∈ r, KeyOk p.2 ∧ p.2 ∈ ks) → ∀ x ∈ TM.hist w t r, Ok w ks x.1
  | t, [], _, _, x, hx => by cases hx
  | t, p :: r, o, hr, x, hx => by
    have h1 := hr p List.mem_cons_self
    have o1 := o.done (kd := p.1) hw h1.1 h1.2 hl
    rcases List.mem_cons.mp hx with z | z
    · rw [z]
      exact o1
    · exact Ok.hist hw hl o1 (fun q hq => hr q (List.mem_cons_of_mem _ hq)) x z
theorem Ok.endT {w : Way} {ks : List Int} (hw : w.Ok) (hl : ks.length ≤ 30) : ∀ {t : Tab} {r : RowT}, Ok w ks t → (∀ p ∈ r, KeyOk p.2 ∧ p.2 ∈ ks) → Ok w ks (TM.endT w t r)
  | t, [], o, _ => o
  | t, p :: r, o, hr => by
    have o1 := o.done (kd := p.1) hw (hr p List.mem_cons_self).1 (hr p List.mem_cons_self).2 hl
    exact Ok.endT (t := TM.done w t p.1 p.2) (r := r) hw hl o1 fun q hq => hr q (List.mem_cons_of_mem _ hq)
theorem endT_hist (w : Way) : ∀ (t : Tab) (r : RowT), (t :: (hist w t r).map (·.1)).getLast? = some (endT w t r)
  | t, [] => rfl
  | t, p :: r => by
    simp only [hist, List.map_cons, endT]
    rw [List.getLast?_cons_cons]
    exact endT_hist w _ r
end TM
local macro_rules
  | `(tactic| simp_arith only) => `(tactic| simp only [DL.zA,DL.zB,DL.zC,DL.zD,DL.zE,DL.zF,DL.zG,DL.zH,DL.zI,DL.zJ,DL.zK,DL.zL,DL.zM,DL.zN,DL.zO,DL.zP,DL.zQ,DL.zR,DL.zS,DL.zT,DL.zU,DL.zV,DL.zW,DL.zX,DL.zY,DL.zZ,DL.zc,DL.zd,DL.ze,DL.zg,DL.zh,DL.zi,DL.zj,DL.zk,DL.zm,DL.zn,DL.zo,DL.zp,DL.zq,DL.zr,DL.zt,DL.zu,DL.zv,DL.zw,DL.zx,DL.zy,DL.zz,DL.yA,DL.startE,DL.full,DL.fullE,DL.clean,DL.cleanE,DL.yB,DL.yC,DL.yD,DL.yE,DL.yF,DL.yG,DL.yH,DL.yI,DL.yJ,DL.yK,DL.yL,DL.yM,DL.yN,DL.yO,DL.yP,DL.yQ,DL.yR,DL.yS,DL.yT,DL.yU,DL.yV,DL.yW,DL.yX,DL.yY,DL.yZ,DL.ya,DL.yb,DL.yc,DL.yd,DL.ye,DL.yf,DL.yg,DL.yh,DL.yi,DL.yj,DL.yk,DL.yl,DL.ym,DL.yn,DL.yo,DL.yp,DL.yq,DL.yr,DL.yt,DL.yu,DL.yw,Bool.bne_false,Bool.bne_true,DL.yx,DL.yy,DL.yz,DL.xA,DL.xB,DL.xC,DL.xD,DL.xE,DL.xH,DL.xI,DL.xJ,DL.xK,DL.xL,DL.xM,DL.xN,DL.xO,DL.xP,DL.xQ,DL.xR,DL.xS,DL.xT,DL.xU,DL.xV,DL.xW,DL.xX,DL.setAll,DL.wipeR,DL.setV,DL.xY,DL.xZ,DL.xb,DL.xi,DL.xj,DL.xk,DL.xl,DL.xm,DL.xn,DL.xp,DL.xq,DL.xr,DL.xt,DL.xw,List.any_cons,List.any_nil,List.map_cons,List.map_nil,List.length_cons,List.length_nil,List.replicate,Nat.sub_self,List.cons_append,List.nil_append,List.append_nil,List.getElem?_cons_zero,List.getElem?_cons_succ,List.set_cons_zero,List.set_cons_succ,List.set_nil,DL.xy,DL.xz,DL.qA,DL.qB,DL.qC,DL.qD,DL.qE,DL.qF,DL.qG,DL.qH,DL.qI,DL.qJ,DL.qK,DL.qL,DL.qM,DL.qN,DL.qO,DL.qP,DL.qQ,DL.qR,DL.qS,DL.qT,DL.qU,DL.qV,DL.qW,DL.qX,DL.qY,DL.qZ,DL.qc,DL.qe,DL.qf,DL.qg,DL.qh,DL.qi,DL.qj,DL.qk,DL.qm,DL.qn,DL.qo,DL.qp,DL.qr,DL.qt,DL.qu,DL.qv,DL.qw,DL.wA,DL.wB,DL.wC,DL.wD,DL.wE,DL.wF,DL.wG,DL.wH,DL.wI,DL.wJ,DL.wK,DL.wL,DL.wM,DL.wN,DL.wO,DL.wP,DL.wQ,DL.wR,DL.wS])
  | `(tactic| simp_arith only $l:location) => `(tactic| simp only [DL.zA,DL.zB,DL.zC,DL.zD,DL.zE,DL.zF,DL.zG,DL.zH,DL.zI,DL.zJ,DL.zK,DL.zL,DL.zM,DL.zN,DL.zO,DL.zP,DL.zQ,DL.zR,DL.zS,DL.zT,DL.zU,DL.zV,DL.zW,DL.zX,DL.zY,DL.zZ,DL.zc,DL.zd,DL.ze,DL.zg,DL.zh,DL.zi,DL.zj,DL.zk,DL.zm,DL.zn,DL.zo,DL.zp,DL.zq,DL.zr,DL.zt,DL.zu,DL.zv,DL.zw,DL.zx,DL.zy,DL.zz,DL.yA,DL.startE,DL.full,DL.fullE,DL.clean,DL.cleanE,DL.yB,DL.yC,DL.yD,DL.yE,DL.yF,DL.yG,DL.yH,DL.yI,DL.yJ,DL.yK,DL.yL,DL.yM,DL.yN,DL.yO,DL.yP,DL.yQ,DL.yR,DL.yS,DL.yT,DL.yU,DL.yV,DL.yW,DL.yX,DL.yY,DL.yZ,DL.ya,DL.yb,DL.yc,DL.yd,DL.ye,DL.yf,DL.yg,DL.yh,DL.yi,DL.yj,DL.yk,DL.yl,DL.ym,DL.yn,DL.yo,DL.yp,DL.yq,DL.yr,DL.yt,DL.yu,DL.yw,Bool.bne_false,Bool.bne_true,DL.yx,DL.yy,DL.yz,DL.xA,DL.xB,DL.xC,DL.xD,DL.xE,DL.xH,DL.xI,DL.xJ,DL.xK,DL.xL,DL.xM,DL.xN,DL.xO,DL.xP,DL.xQ,DL.xR,DL.xS,DL.xT,DL.xU,DL.xV,DL.xW,DL.xX,DL.setAll,DL.wipeR,DL.setV,DL.xY,DL.xZ,DL.xb,DL.xi,DL.xj,DL.xk,DL.xl,DL.xm,DL.xn,DL.xp,DL.xq,DL.xr,DL.xt,DL.xw,List.any_cons,List.any_nil,List.map_cons,List.map_nil,List.length_cons,List.length_nil,List.replicate,Nat.sub_self,List.cons_append,List.nil_append,List.append_nil,List.getElem?_cons_zero,List.getElem?_cons_succ,List.set_cons_zero,List.set_cons_succ,List.set_nil,DL.xy,DL.xz,DL.qA,DL.qB,DL.qC,DL.qD,DL.qE,DL.qF,DL.qG,DL.qH,DL.qI,DL.qJ,DL.qK,DL.qL,DL.qM,DL.qN,DL.qO,DL.qP,DL.qQ,DL.qR,DL.qS,DL.qT,DL.qU,DL.qV,DL.qW,DL.qX,DL.qY,DL.qZ,DL.qc,DL.qe,DL.qf,DL.qg,DL.qh,DL.qi,DL.qj,DL.qk,DL.qm,DL.qn,DL.qo,DL.qp,DL.qr,DL.qt,DL.qu,DL.qv,DL.qw,DL.wA,DL.wB,DL.wC,DL.wD,DL.wE,DL.wF,DL.wG,DL.wH,DL.wI,DL.wJ,DL.wK,DL.wL,DL.wM,DL.wN,DL.wO,DL.wP,DL.wQ,DL.wR,DL.wS] $l:location)
  | `(tactic| simp_arith only [$a,*]) => `(tactic| simp only [$a,*,DL.zA,DL.zB,DL.zC,DL.zD,DL.zE,DL.zF,DL.zG,DL.zH,DL.zI,DL.zJ,DL.zK,DL.zL,DL.zM,DL.zN,DL.zO,DL.zP,DL.zQ,DL.zR,DL.zS,DL.zT,DL.zU,DL.zV,DL.zW,DL.zX,DL.zY,DL.zZ,DL.zc,DL.zd,DL.ze,DL.zg,DL.zh,DL.zi,DL.zj,DL.zk,DL.zm,DL.zn,DL.zo,DL.zp,DL.zq,DL.zr,DL.zt,DL.zu,DL.zv,DL.zw,DL.zx,DL.zy,DL.zz,DL.yA,DL.startE,DL.full,DL.fullE,DL.clean,DL.cleanE,DL.yB,DL.yC,DL.yD,DL.yE,DL.yF,DL.yG,DL.yH,DL.yI,DL.yJ,DL.yK,DL.yL,DL.yM,DL.yN,DL.yO,DL.yP,DL.yQ,DL.yR,DL.yS,DL.yT,DL.yU,DL.yV,DL.yW,DL.yX,DL.yY,DL.yZ,DL.ya,DL.yb,DL.yc,DL.yd,DL.ye,DL.yf,DL.yg,DL.yh,DL.yi,DL.yj,DL.yk,DL.yl,DL.ym,DL.yn,DL.yo,DL.yp,DL.yq,DL.yr,DL.yt,DL.yu,DL.yw,Bool.bne_false,Bool.bne_true,DL.yx,DL.yy,DL.yz,DL.xA,DL.xB,DL.xC,DL.xD,DL.xE,DL.xH,DL.xI,DL.xJ,DL.xK,DL.xL,DL.xM,DL.xN,DL.xO,DL.xP,DL.xQ,DL.xR,DL.xS,DL.xT,DL.xU,DL.xV,DL.xW,DL.xX,DL.setAll,DL.wipeR,DL.setV,DL.xY,DL.xZ,DL.xb,DL.xi,DL.xj,DL.xk,DL.xl,DL.xm,DL.xn,DL.xp,DL.xq,DL.xr,DL.xt,DL.xw,List.any_cons,List.any_nil,List.map_cons,List.map_nil,List.length_cons,List.length_nil,List.replicate,Nat.sub_self,List.cons_append,List.nil_append,List.append_nil,List.getElem?_cons_zero,List.getElem?_cons_succ,List.set_cons_zero,List.set_cons_succ,List.set_nil,DL.xy,DL.xz,DL.qA,DL.qB,DL.qC,DL.qD,DL.qE,DL.qF,DL.qG,DL.qH,DL.qI,DL.qJ,DL.qK,DL.qL,DL.qM,DL.qN,DL.qO,DL.qP,DL.qQ,DL.qR,DL.qS,DL.qT,DL.qU,DL.qV,DL.qW,DL.qX,DL.qY,DL.qZ,DL.qc,DL.qe,DL.qf,DL.qg,DL.qh,DL.qi,DL.qj,DL.qk,DL.qm,DL.qn,DL.qo,DL.qp,DL.qr,DL.qt,DL.qu,DL.qv,DL.qw,DL.wA,DL.wB,DL.wC,DL.wD,DL.wE,DL.wF,DL.wG,DL.wH,DL.wI,DL.wJ,DL.wK,DL.wL,DL.wM,DL.wN,DL.wO,DL.wP,DL.wQ,DL.wR,DL.wS])
  | `(tactic| simp_arith only [$a,*] $l:location) => `(tactic| simp only [$a,*,DL.zA,DL.zB,DL.zC,DL.zD,DL.zE,DL.zF,DL.zG,DL.zH,DL.zI,DL.zJ,DL.zK,DL.zL,DL.zM,DL.zN,DL.zO,DL.zP,DL.zQ,DL.zR,DL.zS,DL.zT,DL.zU,DL.zV,DL.zW,DL.zX,DL.zY,DL.zZ,DL.zc,DL.zd,DL.ze,DL.zg,DL.zh,DL.zi,DL.zj,DL.zk,DL.zm,DL.zn,DL.zo,DL.zp,DL.zq,DL.zr,DL.zt,DL.zu,DL.zv,DL.zw,DL.zx,DL.zy,DL.zz,DL.yA,DL.startE,DL.full,DL.fullE,DL.clean,DL.cleanE,DL.yB,DL.yC,DL.yD,DL.yE,DL.yF,DL.yG,DL.yH,DL.yI,DL.yJ,DL.yK,DL.yL,DL.yM,DL.yN,DL.yO,DL.yP,DL.yQ,DL.yR,DL.yS,DL.yT,DL.yU,DL.yV,DL.yW,DL.yX,DL.yY,DL.yZ,DL.ya,DL.yb,DL.yc,DL.yd,DL.ye,DL.yf,DL.yg,DL.yh,DL.yi,DL.yj,DL.yk,DL.yl,DL.ym,DL.yn,DL.yo,DL.yp,DL.yq,DL.yr,DL.yt,DL.yu,DL.yw,Bool.bne_false,Bool.bne_true,DL.yx,DL.yy,DL.yz,DL.xA,DL.xB,DL.xC,DL.xD,DL.xE,DL.xH,DL.xI,DL.xJ,DL.xK,DL.xL,DL.xM,DL.xN,DL.xO,DL.xP,DL.xQ,DL.xR,DL.xS,DL.xT,DL.xU,DL.xV,DL.xW,DL.xX,DL.setAll,DL.wipeR,DL.setV,DL.xY,DL.xZ,DL.xb,DL.xi,DL.xj,DL.xk,DL.xl,DL.xm,DL.xn,DL.xp,DL.xq,DL.xr,DL.xt,DL.xw,List.any_cons,List.any_nil,List.map_cons,List.map_nil,List.length_cons,List.length_nil,List.replicate,Nat.sub_self,List.cons_append,List.nil_append,List.append_nil,List.getElem?_cons_zero,List.getElem?_cons_succ,List.set_cons_zero,List.set_cons_succ,List.set_nil,DL.xy,DL.xz,DL.qA,DL.qB,DL.qC,DL.qD,DL.qE,DL.qF,DL.qG,DL.qH,DL.qI,DL.qJ,DL.qK,DL.qL,DL.qM,DL.qN,DL.qO,DL.qP,DL.qQ,DL.qR,DL.qS,DL.qT,DL.qU,DL.qV,DL.qW,DL.qX,DL.qY,DL.qZ,DL.qc,DL.qe,DL.qf,DL.qg,DL.qh,DL.qi,DL.qj,DL.qk,DL.qm,DL.qn,DL.qo,DL.qp,DL.qr,DL.qt,DL.qu,DL.qv,DL.qw,DL.wA,DL.wB,DL.wC,DL.wD,DL.wE,DL.wF,DL.wG,DL.wH,DL.wI,DL.wJ,DL.wK,DL.wL,DL.wM,DL.wN,DL.wO,DL.wP,DL.wQ,DL.wR,DL.wS] $l:location)
namespace G6
open PySem PySem.Spec L2 DL TM
def rowsW (h c o : String) : D := .tuple [.str (Str.ofString "rows"), .str (Str.ofString h), .str (Str.ofString c), .str (Str.ofString o)]
def slotsW (h st c g gr : String) : D := .tuple [.str (Str.ofString "slots"), .str (Str.ofString h), .str (Str.ofString st), .str (Str.ofString c), .str (Str.ofString g), .str (Str.ofString gr)]
def wayD : Way → D
  | .r h c o => rowsW h c o
  | .s h st c g gr => slotsW h st c g gr
def tabD : Tab → D
  | .r R => .tuple (R.map fun r => .tuple (intsD r))
  | .s T => .tuple (intsD T)
theorem tabD_r (R : List (List Int)) : tabD (.r R) = .tuple (R.map fun r => .tuple (intsD r)) := rfl
theorem tabD_s (T : List Int) : tabD (.s T) = .tuple (intsD T) := rfl
section
variable {Q : D → Prop} {E : Str → Prop}
theorem between_ok {v lo hi : Int} (q : Q (.bool (decide (lo ≤ v ∧ v ≤ hi)))) : m_is_between [.int v, .int lo, .int hi] Q E := by
  simp [b1_is_between_r,m_is_between_r,zA,zB,zC,zD,zE,zF,zG,zH,zI,zJ,zK,zL,zM,zN,zO,zP,zQ,zR,zS,zT,zU,zV,zW,zX,zY,zZ,zc,zd,ze,zg,zh,zi,zj,zk,zm,zn,zo,zp,zq,zr,zt,zu,zv,zw,zx,zy,zz,yA,startE,full,fullE,clean,cleanE,yB,yC,yD,yE,yF,yG,yH,yI,yJ,yK,yL,yM,yN,yO,yP,yQ,yR,yS,yT,yU,yV,yW,yX,yY,yZ,ya,yb,yc,yd,ye,yf,yg,yh,yi,yj,yk,yl,ym,yn,yo,yp,yq,yr,yt,yu,yw,Bool.bne_false,Bool.bne_true,yx,yy,yz,xA,xB,xC,xD,xE,xH,xI,xJ,xK,xL,xM,xN,xO,xP,xQ,xR,xS,xT,xU,xV,xW,xX,setAll,wipeR,setV,xY,xZ,xb,xi,xj,xk,xl,xm,xn,xp,xq,xr,xt,xw,List.any_cons,List.any_nil,List.map_cons,List.map_nil,List.length_cons,List.length_nil,List.replicate,Nat.sub_self,List.cons_append,List.nil_append,List.append_nil,List.getElem?_cons_zero,List.getElem?_cons_succ,List.set_cons_zero,List.set_cons_succ,List.set_nil,xy,xz,qA,qB,qC,qD,qE,qF,qG,qH,qI,qJ,qK,qL,qM,qN,qO,qP,qQ,qR,qS,qT,qU,qV,qW,qX,qY,qZ,qc,qe,qf,qg,qh,qi,qj,qk,qm,qn,qo,qp,qr,qt,qu,qv,qw,wA,wB,wC,wD,wE,wF,wG,wH,wI,wJ,wK,wL,wM,wN,wO,wP,wQ,wR,wS]
  by_cases h : lo ≤ v
  · simpa [h] using q
  · simpa [h] using q
theorem way_ok {w : Way} (hd : w.Ok) (q : Q (.bool true)) : m_is_way [wayD w] Q E := by
  cases w with
  | r h c o =>
    obtain ⟨h1, h2, h3⟩ := hd
    simp [b1_is_way_r,b2_is_way_r,b3_is_way_r,b4_is_way_r,m_is_way_r,b1_is_word_r,m_is_word_r,wayD,rowsW,c_HOMES,zA,zB,zC,zD,zE,zF,zG,zH,zI,zJ,zK,zL,zM,zN,zO,zP,zQ,zR,zS,zT,zU,zV,zW,zX,zY,zZ,zc,zd,ze,zg,zh,zi,zj,zk,zm,zn,zo,zp,zq,zr,zt,zu,zv,zw,zx,zy,zz,yA,startE,full,fullE,clean,cleanE,yB,yC,yD,yE,yF,yG,yH,yI,yJ,yK,yL,yM,yN,yO,yP,yQ,yR,yS,yT,yU,yV,yW,yX,yY,yZ,ya,yb,yc,yd,ye,yf,yg,yh,yi,yj,yk,yl,ym,yn,yo,yp,yq,yr,yt,yu,yw,Bool.bne_false,Bool.bne_true,yx,yy,yz,xA,xB,xC,xD,xE,xH,xI,xJ,xK,xL,xM,xN,xO,xP,xQ,xR,xS,xT,xU,xV,xW,xX,setAll,wipeR,setV,xY,xZ,xb,xi,xj,xk,xl,xm,xn,xp,xq,xr,xt,xw,List.any_cons,List.any_nil,List.map_cons,List.map_nil,List.length_cons,List.length_nil,List.replicate,Nat.sub_self,List.cons_append,List.nil_append,List.append_nil,List.getElem?_cons_zero,List.getElem?_cons_succ,List.set_cons_zero,List.set_cons_succ,List.set_nil,xy,xz,qA,qB,qC,qD,qE,qF,qG,qH,qI,qJ,qK,qL,qM,qN,qO,qP,qQ,qR,qS,qT,qU,qV,qW,qX,qY,qZ,qc,qe,qf,qg,qh,qi,qj,qk,qm,qn,qo,qp,qr,qt,qu,qv,qw,wA,wB,wC,wD,wE,wF,wG,wH,wI,wJ,wK,wL,wM,wN,wO,wP,wQ,wR,wS]
    rw [if_pos (by rcases h1 with rfl | rfl <;> simp), if_pos (by rcases h2 with rfl | rfl <;> simp)]
    rcases h3 with rfl | rfl <;> simpa using q
  | s h st c g gr =>
    obtain ⟨h1, h2, h3, h4, h5, h6⟩ := hd
    simp [b1_is_way_r,b2_is_way_r,b3_is_way_r,b4_is_way_r,m_is_way_r,b1_is_slot_way_r,b2_is_slot_way_r,b3_is_slot_way_r,m_is_slot_way_r,b1_is_word_r,m_is_word_r,wayD,slotsW,c_HOMES,c_STEPS,c_COMES,c_GONES,c_GROWS,zA,zB,zC,zD,zE,zF,zG,zH,zI,zJ,zK,zL,zM,zN,zO,zP,zQ,zR,zS,zT,zU,zV,zW,zX,zY,zZ,zc,zd,ze,zg,zh,zi,zj,zk,zm,zn,zo,zp,zq,zr,zt,zu,zv,zw,zx,zy,zz,yA,startE,full,fullE,clean,cleanE,yB,yC,yD,yE,yF,yG,yH,yI,yJ,yK,yL,yM,yN,yO,yP,yQ,yR,yS,yT,yU,yV,yW,yX,yY,yZ,ya,yb,yc,yd,ye,yf,yg,yh,yi,yj,yk,yl,ym,yn,yo,yp,yq,yr,yt,yu,yw,Bool.bne_false,Bool.bne_true,yx,yy,yz,xA,xB,xC,xD,xE,xH,xI,xJ,xK,xL,xM,xN,xO,xP,xQ,xR,xS,xT,xU,xV,xW,xX,setAll,wipeR,setV,xY,xZ,xb,xi,xj,xk,xl,xm,xn,xp,xq,xr,xt,xw,List.any_cons,List.any_nil,List.map_cons,List.map_nil,List.length_cons,List.length_nil,List.replicate,Nat.sub_self,List.cons_append,List.nil_append,List.append_nil,List.getElem?_cons_zero,List.getElem?_cons_succ,List.set_cons_zero,List.set_cons_succ,List.set_nil,xy,xz,qA,qB,qC,qD,qE,qF,qG,qH,qI,qJ,qK,qL,qM,qN,qO,qP,qQ,qR,qS,qT,qU,qV,qW,qX,qY,qZ,qc,qe,qf,qg,qh,qi,qj,qk,qm,qn,qo,qp,qr,qt,qu,qv,qw,wA,wB,wC,wD,wE,wF,wG,wH,wI,wJ,wK,wL,wM,wN,wO,wP,wQ,wR,wS]
    rw [if_pos (by rcases h1 with rfl | rfl <;> simp), if_pos (by rcases h2 with rfl | rfl | rfl | rfl <;> simp), if_pos (by rcases h3 with rfl | rfl | rfl | rfl <;> simp), if_pos (by rcases h4 with rfl | rfl | rfl | rfl <;> simp), if_pos (by rcases h5 with rfl | rfl | rfl <;> simp)]
    rcases h6 with h6 | ⟨h6, h7⟩
    · rw [if_pos (by rcases h6 with rfl | rfl <;> simp)]
      exact q
    · split
      · exact q
      · rw [if_pos (by rcases h6 with rfl | rfl <;> simp)]
        simpa [h7] using q
theorem check_way_ok {w : Way} (hd : w.Ok) (q : Q .none) : m_check_way [wayD w] Q E := by
  simp_arith only [b1_check_way_r, m_check_way_r]
  refine way_ok hd ?_
  simpa [zA,zB,zC,zD,zE,zF,zG,zH,zI,zJ,zK,zL,zM,zN,zO,zP,zQ,zR,zS,zT,zU,zV,zW,zX,zY,zZ,zc,zd,ze,zg,zh,zi,zj,zk,zm,zn,zo,zp,zq,zr,zt,zu,zv,zw,zx,zy,zz,yA,startE,full,fullE,clean,cleanE,yB,yC,yD,yE,yF,yG,yH,yI,yJ,yK,yL,yM,yN,yO,yP,yQ,yR,yS,yT,yU,yV,yW,yX,yY,yZ,ya,yb,yc,yd,ye,yf,yg,yh,yi,yj,yk,yl,ym,yn,yo,yp,yq,yr,yt,yu,yw,Bool.bne_false,Bool.bne_true,yx,yy,yz,xA,xB,xC,xD,xE,xH,xI,xJ,xK,xL,xM,xN,xO,xP,xQ,xR,xS,xT,xU,xV,xW,xX,setAll,wipeR,setV,xY,xZ,xb,xi,xj,xk,xl,xm,xn,xp,xq,xr,xt,xw,List.any_cons,List.any_nil,List.map_cons,List.map_nil,List.length_cons,List.length_nil,List.replicate,Nat.sub_self,List.cons_append,List.nil_append,List.append_nil,List.getElem?_cons_zero,List.getElem?_cons_succ,List.set_cons_zero,List.set_cons_succ,List.set_nil,xy,xz,qA,qB,qC,qD,qE,qF,qG,qH,qI,qJ,qK,qL,qM,qN,qO,qP,qQ,qR,qS,qT,qU,qV,qW,qX,qY,qZ,qc,qe,qf,qg,qh,qi,qj,qk,qm,qn,qo,qp,qr,qt,qu,qv,qw,wA,wB,wC,wD,wE,wF,wG,wH,wI,wJ,wK,wL,wM,wN,wO,wP,wQ,wR,wS] using q
theorem home_rows {h c o : String} {k n : Int} (hn : SizeOk n) (q : Q (.int (homeOf h k n))) : m_home_of [rowsW h c o, .int k, .int n] Q E := by
  have hn0 := (small hn).1
  unfold homeOf foldK at q
  simp [b1_home_of_r,m_home_of_r,rowsW,zA,zB,zC,zD,zE,zF,zG,zH,zI,zJ,zK,zL,zM,zN,zO,zP,zQ,zR,zS,zT,zU,zV,zW,zX,zY,zZ,zc,zd,ze,zg,zh,zi,zj,zk,zm,zn,zo,zp,zq,zr,zt,zu,zv,zw,zx,zy,zz,yA,startE,full,fullE,clean,cleanE,yB,yC,yD,yE,yF,yG,yH,yI,yJ,yK,yL,yM,yN,yO,yP,yQ,yR,yS,yT,yU,yV,yW,yX,yY,yZ,ya,yb,yc,yd,ye,yf,yg,yh,yi,yj,yk,yl,ym,yn,yo,yp,yq,yr,yt,yu,yw,Bool.bne_false,Bool.bne_true,yx,yy,yz,xA,xB,xC,xD,xE,xH,xI,xJ,xK,xL,xM,xN,xO,xP,xQ,xR,xS,xT,xU,xV,xW,xX,setAll,wipeR,setV,xY,xZ,xb,xi,xj,xk,xl,xm,xn,xp,xq,xr,xt,xw,List.any_cons,List.any_nil,List.map_cons,List.map_nil,List.length_cons,List.length_nil,List.replicate,Nat.sub_self,List.cons_append,List.nil_append,List.append_nil,List.getElem?_cons_zero,List.getElem?_cons_succ,List.set_cons_zero,List.set_cons_succ,List.set_nil,xy,xz,qA,qB,qC,qD,qE,qF,qG,qH,qI,qJ,qK,qL,qM,qN,qO,qP,qQ,qR,qS,qT,qU,qV,qW,qX,qY,qZ,qc,qe,qf,qg,qh,qi,qj,qk,qm,qn,qo,qp,qr,qt,qu,qv,qw,wA,wB,wC,wD,wE,wF,wG,wH,wI,wJ,wK,wL,wM,wN,wO,wP,wQ,wR,wS]
  split
  · rename_i e
    simp only [e, if_true] at q
    exact ⟨hn0, q⟩
  · rename_i e
    simp only [e, if_false] at q
    exact ⟨⟨by decide, by decide⟩, hn0, q⟩
theorem home_slots {h st c g gr : String} {k n : Int} (hn : SizeOk n) (q : Q (.int (homeOf h k n))) : m_home_of [slotsW h st c g gr, .int k, .int n] Q E := by
  have hn0 := (small hn).1
  unfold homeOf foldK at q
  simp [b1_home_of_r,m_home_of_r,slotsW,zA,zB,zC,zD,zE,zF,zG,zH,zI,zJ,zK,zL,zM,zN,zO,zP,zQ,zR,zS,zT,zU,zV,zW,zX,zY,zZ,zc,zd,ze,zg,zh,zi,zj,zk,zm,zn,zo,zp,zq,zr,zt,zu,zv,zw,zx,zy,zz,yA,startE,full,fullE,clean,cleanE,yB,yC,yD,yE,yF,yG,yH,yI,yJ,yK,yL,yM,yN,yO,yP,yQ,yR,yS,yT,yU,yV,yW,yX,yY,yZ,ya,yb,yc,yd,ye,yf,yg,yh,yi,yj,yk,yl,ym,yn,yo,yp,yq,yr,yt,yu,yw,Bool.bne_false,Bool.bne_true,yx,yy,yz,xA,xB,xC,xD,xE,xH,xI,xJ,xK,xL,xM,xN,xO,xP,xQ,xR,xS,xT,xU,xV,xW,xX,setAll,wipeR,setV,xY,xZ,xb,xi,xj,xk,xl,xm,xn,xp,xq,xr,xt,xw,List.any_cons,List.any_nil,List.map_cons,List.map_nil,List.length_cons,List.length_nil,List.replicate,Nat.sub_self,List.cons_append,List.nil_append,List.append_nil,List.getElem?_cons_zero,List.getElem?_cons_succ,List.set_cons_zero,List.set_cons_succ,List.set_nil,xy,xz,qA,qB,qC,qD,qE,qF,qG,qH,qI,qJ,qK,qL,qM,qN,qO,qP,qQ,qR,qS,qT,qU,qV,qW,qX,qY,qZ,qc,qe,qf,qg,qh,qi,qj,qk,qm,qn,qo,qp,qr,qt,qu,qv,qw,wA,wB,wC,wD,wE,wF,wG,wH,wI,wJ,wK,wL,wM,wN,wO,wP,wQ,wR,wS]
  split
  · rename_i e
    simp only [e, if_true] at q
    exact ⟨hn0, q⟩
  · rename_i e
    simp only [e, if_false] at q
    exact ⟨⟨by decide, by decide⟩, hn0, q⟩
theorem cm {i j : Int} (h : -1000000 < i ∧ i < 1000000) : CMul i j := .inl ⟨by omega, by omega⟩
theorem upLen (n : Int) (h : n ≤ 64) : (upTo 0 n.toNat).length ≤ 1000000 := by
  rw [upTo_len]
  omega
theorem walk_slots {h st c g gr : String} {k n : Int} (hn : SizeOk n) (q : Q (.tuple (intsD (pathOf h st k n)))) : m_walk_of [slotsW h st c g gr, .int k, .int n] Q E := by
  obtain ⟨hn0, hn1⟩ := small hn
  simp_arith only [m_walk_of_r, b1_walk_of_r]
  refine home_slots hn ?_
  unfold pathOf stepOf at q
  simp [b1_walk_of_r,b2_walk_of_r,b3_walk_of_r,b4_walk_of_r,b5_walk_of_r,b6_walk_of_r,b7_walk_of_r,b8_walk_of_r,b9_walk_of_r,m_walk_of_r,slotsW,zA,zB,zC,zD,zE,zF,zG,zH,zI,zJ,zK,zL,zM,zN,zO,zP,zQ,zR,zS,zT,zU,zV,zW,zX,zY,zZ,zc,zd,ze,zg,zh,zi,zj,zk,zm,zn,zo,zp,zq,zr,zt,zu,zv,zw,zx,zy,zz,yA,startE,full,fullE,clean,cleanE,yB,yC,yD,yE,yF,yG,yH,yI,yJ,yK,yL,yM,yN,yO,yP,yQ,yR,yS,yT,yU,yV,yW,yX,yY,yZ,ya,yb,yc,yd,ye,yf,yg,yh,yi,yj,yk,yl,ym,yn,yo,yp,yq,yr,yt,yu,yw,Bool.bne_false,Bool.bne_true,yx,yy,yz,xA,xB,xC,xD,xE,xH,xI,xJ,xK,xL,xM,xN,xO,xP,xQ,xR,xS,xT,xU,xV,xW,xX,setAll,wipeR,setV,xY,xZ,xb,xi,xj,xk,xl,xm,xn,xp,xq,xr,xt,xw,List.any_cons,List.any_nil,List.map_cons,List.map_nil,List.length_cons,List.length_nil,List.replicate,Nat.sub_self,List.cons_append,List.nil_append,List.append_nil,List.getElem?_cons_zero,List.getElem?_cons_succ,List.set_cons_zero,List.set_cons_succ,List.set_nil,xy,xz,qA,qB,qC,qD,qE,qF,qG,qH,qI,qJ,qK,qL,qM,qN,qO,qP,qQ,qR,qS,qT,qU,qV,qW,qX,qY,qZ,qc,qe,qf,qg,qh,qi,qj,qk,qm,qn,qo,qp,qr,qt,qu,qv,qw,wA,wB,wC,wD,wE,wF,wG,wH,wI,wJ,wK,wL,wM,wN,wO,wP,wQ,wR,wS]
  split
  · rename_i e
    subst e
    refine ⟨by omega, by omega, upLen n hn1, lcLoop_ints (fun i => (homeOf h k n + i) % n) _ (fun i hi kk hk => ?_) ?_⟩
    · simp_arith only [if_true]
      exact ⟨hn0, hk⟩
    · simpa using q
  · rename_i e1
    split
    · rename_i e
      subst e
      refine ⟨by omega, by omega, upLen n hn1, lcLoop_ints (fun i => (homeOf h k n + -i) % n) _ (fun i hi kk hk => ?_) ?_⟩
      · simp_arith only [if_true]
        exact ⟨hn0, by rwa [Int.sub_eq_add_neg]⟩
      · simpa using q
    · rename_i e2
      split
      · rename_i e
        subst e
        refine ⟨by omega, by omega, upLen n hn1, lcLoop_ints (fun i => (homeOf h k n + i * (i + 1) / 2) % n) _ (fun i hi kk hk => ?_) ?_⟩
        · simp_arith only [if_true]
          exact ⟨cm (by omega), ⟨by decide, by decide⟩, hn0, hk⟩
        · simpa using q
      · rename_i e3
        refine ⟨by omega, by omega, upLen n hn1, lcLoop_ints (fun i => (homeOf h k n + i * (1 + 2 * (k / 8 % 2))) % n) _ (fun i hi kk hk2 => ?_) ?_⟩
        · simp_arith only [if_true]
          exact ⟨⟨by decide, by decide⟩, by decide, cm (by omega), cm (by omega), hn0, hk2⟩
        · simpa [e1, e2, e3] using q
theorem bound_rows {h c o : String} {n : Int} (hn : SizeOk n) (q : Q (.int (manyOf o n))) : m_bound_of [rowsW h c o, .int n] Q E := by
  obtain ⟨hn0, hn1⟩ := small hn
  unfold manyOf at q
  simp [b1_bound_of_r,b2_bound_of_r,b3_bound_of_r,m_bound_of_r,rowsW,zA,zB,zC,zD,zE,zF,zG,zH,zI,zJ,zK,zL,zM,zN,zO,zP,zQ,zR,zS,zT,zU,zV,zW,zX,zY,zZ,zc,zd,ze,zg,zh,zi,zj,zk,zm,zn,zo,zp,zq,zr,zt,zu,zv,zw,zx,zy,zz,yA,startE,full,fullE,clean,cleanE,yB,yC,yD,yE,yF,yG,yH,yI,yJ,yK,yL,yM,yN,yO,yP,yQ,yR,yS,yT,yU,yV,yW,yX,yY,yZ,ya,yb,yc,yd,ye,yf,yg,yh,yi,yj,yk,yl,ym,yn,yo,yp,yq,yr,yt,yu,yw,Bool.bne_false,Bool.bne_true,yx,yy,yz,xA,xB,xC,xD,xE,xH,xI,xJ,xK,xL,xM,xN,xO,xP,xQ,xR,xS,xT,xU,xV,xW,xX,setAll,wipeR,setV,xY,xZ,xb,xi,xj,xk,xl,xm,xn,xp,xq,xr,xt,xw,List.any_cons,List.any_nil,List.map_cons,List.map_nil,List.length_cons,List.length_nil,List.replicate,Nat.sub_self,List.cons_append,List.nil_append,List.append_nil,List.getElem?_cons_zero,List.getElem?_cons_succ,List.set_cons_zero,List.set_cons_succ,List.set_nil,xy,xz,qA,qB,qC,qD,qE,qF,qG,qH,qI,qJ,qK,qL,qM,qN,qO,qP,qQ,qR,qS,qT,qU,qV,qW,qX,qY,qZ,qc,qe,qf,qg,qh,qi,qj,qk,qm,qn,qo,qp,qr,qt,qu,qv,qw,wA,wB,wC,wD,wE,wF,wG,wH,wI,wJ,wK,wL,wM,wN,wO,wP,wQ,wR,wS]
  split
  · rename_i e
    simpa [e] using q
  · rename_i e
    refine ⟨cm (by omega), by simpa [e] using q⟩
theorem bound_slots {h st c g gr : String} {n : Int} (hn : SizeOk n) (hg : gr = "half" ∨ gr = "three" ∨ gr = "full") (q : Q (.int (growOf gr n))) : m_bound_of [slotsW h st c g gr, .int n] Q E := by
  obtain ⟨hn0, hn1⟩ := small hn
  unfold growOf at q
  simp [b1_bound_of_r,b2_bound_of_r,b3_bound_of_r,m_bound_of_r,slotsW,zA,zB,zC,zD,zE,zF,zG,zH,zI,zJ,zK,zL,zM,zN,zO,zP,zQ,zR,zS,zT,zU,zV,zW,zX,zY,zZ,zc,zd,ze,zg,zh,zi,zj,zk,zm,zn,zo,zp,zq,zr,zt,zu,zv,zw,zx,zy,zz,yA,startE,full,fullE,clean,cleanE,yB,yC,yD,yE,yF,yG,yH,yI,yJ,yK,yL,yM,yN,yO,yP,yQ,yR,yS,yT,yU,yV,yW,yX,yY,yZ,ya,yb,yc,yd,ye,yf,yg,yh,yi,yj,yk,yl,ym,yn,yo,yp,yq,yr,yt,yu,yw,Bool.bne_false,Bool.bne_true,yx,yy,yz,xA,xB,xC,xD,xE,xH,xI,xJ,xK,xL,xM,xN,xO,xP,xQ,xR,xS,xT,xU,xV,xW,xX,setAll,wipeR,setV,xY,xZ,xb,xi,xj,xk,xl,xm,xn,xp,xq,xr,xt,xw,List.any_cons,List.any_nil,List.map_cons,List.map_nil,List.length_cons,List.length_nil,List.replicate,Nat.sub_self,List.cons_append,List.nil_append,List.append_nil,List.getElem?_cons_zero,List.getElem?_cons_succ,List.set_cons_zero,List.set_cons_succ,List.set_nil,xy,xz,qA,qB,qC,qD,qE,qF,qG,qH,qI,qJ,qK,qL,qM,qN,qO,qP,qQ,qR,qS,qT,qU,qV,qW,qX,qY,qZ,qc,qe,qf,qg,qh,qi,qj,qk,qm,qn,qo,qp,qr,qt,qu,qv,qw,wA,wB,wC,wD,wE,wF,wG,wH,wI,wJ,wK,wL,wM,wN,wO,wP,wQ,wR,wS]
  refine ⟨⟨by decide, by decide⟩, cm (by omega), ⟨by decide, by decide⟩, ?_⟩
  rcases hg with rfl | rfl | rfl <;> simpa [zA,zB,zC,zD,zE,zF,zG,zH,zI,zJ,zK,zL,zM,zN,zO,zP,zQ,zR,zS,zT,zU,zV,zW,zX,zY,zZ,zc,zd,ze,zg,zh,zi,zj,zk,zm,zn,zo,zp,zq,zr,zt,zu,zv,zw,zx,zy,zz,yA,startE,full,fullE,clean,cleanE,yB,yC,yD,yE,yF,yG,yH,yI,yJ,yK,yL,yM,yN,yO,yP,yQ,yR,yS,yT,yU,yV,yW,yX,yY,yZ,ya,yb,yc,yd,ye,yf,yg,yh,yi,yj,yk,yl,ym,yn,yo,yp,yq,yr,yt,yu,yw,Bool.bne_false,Bool.bne_true,yx,yy,yz,xA,xB,xC,xD,xE,xH,xI,xJ,xK,xL,xM,xN,xO,xP,xQ,xR,xS,xT,xU,xV,xW,xX,setAll,wipeR,setV,xY,xZ,xb,xi,xj,xk,xl,xm,xn,xp,xq,xr,xt,xw,List.any_cons,List.any_nil,List.map_cons,List.map_nil,List.length_cons,List.length_nil,List.replicate,Nat.sub_self,List.cons_append,List.nil_append,List.append_nil,List.getElem?_cons_zero,List.getElem?_cons_succ,List.set_cons_zero,List.set_cons_succ,List.set_nil,xy,xz,qA,qB,qC,qD,qE,qF,qG,qH,qI,qJ,qK,qL,qM,qN,qO,qP,qQ,qR,qS,qT,qU,qV,qW,qX,qY,qZ,qc,qe,qf,qg,qh,qi,qj,qk,qm,qn,qo,qp,qr,qt,qu,qv,qw,wA,wB,wC,wD,wE,wF,wG,wH,wI,wJ,wK,wL,wM,wN,wO,wP,wQ,wR,wS] using q
theorem begun_rows {h c o : String} {n : Int} (hn : SizeOk n) (q : Q (tabD (.r (List.replicate n.toNat [])))) : m_begun [rowsW h c o, .int n] Q E := by
  obtain ⟨hn0, hn1⟩ := small hn
  have := four hn
  simp [b1_begun_r,m_begun_r,rowsW,zA,zB,zC,zD,zE,zF,zG,zH,zI,zJ,zK,zL,zM,zN,zO,zP,zQ,zR,zS,zT,zU,zV,zW,zX,zY,zZ,zc,zd,ze,zg,zh,zi,zj,zk,zm,zn,zo,zp,zq,zr,zt,zu,zv,zw,zx,zy,zz,yA,startE,full,fullE,clean,cleanE,yB,yC,yD,yE,yF,yG,yH,yI,yJ,yK,yL,yM,yN,yO,yP,yQ,yR,yS,yT,yU,yV,yW,yX,yY,yZ,ya,yb,yc,yd,ye,yf,yg,yh,yi,yj,yk,yl,ym,yn,yo,yp,yq,yr,yt,yu,yw,Bool.bne_false,Bool.bne_true,yx,yy,yz,xA,xB,xC,xD,xE,xH,xI,xJ,xK,xL,xM,xN,xO,xP,xQ,xR,xS,xT,xU,xV,xW,xX,setAll,wipeR,setV,xY,xZ,xb,xi,xj,xk,xl,xm,xn,xp,xq,xr,xt,xw,List.any_cons,List.any_nil,List.map_cons,List.map_nil,List.length_cons,List.length_nil,List.replicate,Nat.sub_self,List.cons_append,List.nil_append,List.append_nil,List.getElem?_cons_zero,List.getElem?_cons_succ,List.set_cons_zero,List.set_cons_succ,List.set_nil,xy,xz,qA,qB,qC,qD,qE,qF,qG,qH,qI,qJ,qK,qL,qM,qN,qO,qP,qQ,qR,qS,qT,qU,qV,qW,qX,qY,qZ,qc,qe,qf,qg,qh,qi,qj,qk,qm,qn,qo,qp,qr,qt,qu,qv,qw,wA,wB,wC,wD,wE,wF,wG,wH,wI,wJ,wK,wL,wM,wN,wO,wP,wQ,wR,wS]
  refine ⟨by omega, by omega, ?_⟩
  simpa [tabD, intsD] using q
theorem begun_slots {h st c g gr : String} {n : Int} (hn : SizeOk n) (q : Q (tabD (.s (List.replicate n.toNat (-1))))) : m_begun [slotsW h st c g gr, .int n] Q E := by
  obtain ⟨hn0, hn1⟩ := small hn
  have := four hn
  simp [b1_begun_r,m_begun_r,slotsW,zA,zB,zC,zD,zE,zF,zG,zH,zI,zJ,zK,zL,zM,zN,zO,zP,zQ,zR,zS,zT,zU,zV,zW,zX,zY,zZ,zc,zd,ze,zg,zh,zi,zj,zk,zm,zn,zo,zp,zq,zr,zt,zu,zv,zw,zx,zy,zz,yA,startE,full,fullE,clean,cleanE,yB,yC,yD,yE,yF,yG,yH,yI,yJ,yK,yL,yM,yN,yO,yP,yQ,yR,yS,yT,yU,yV,yW,yX,yY,yZ,ya,yb,yc,yd,ye,yf,yg,yh,yi,yj,yk,yl,ym,yn,yo,yp,yq,yr,yt,yu,yw,Bool.bne_false,Bool.bne_true,yx,yy,yz,xA,xB,xC,xD,xE,xH,xI,xJ,xK,xL,xM,xN,xO,xP,xQ,xR,xS,xT,xU,xV,xW,xX,setAll,wipeR,setV,xY,xZ,xb,xi,xj,xk,xl,xm,xn,xp,xq,xr,xt,xw,List.any_cons,List.any_nil,List.map_cons,List.map_nil,List.length_cons,List.length_nil,List.replicate,Nat.sub_self,List.cons_append,List.nil_append,List.append_nil,List.getElem?_cons_zero,List.getElem?_cons_succ,List.set_cons_zero,List.set_cons_succ,List.set_nil,xy,xz,qA,qB,qC,qD,qE,qF,qG,qH,qI,qJ,qK,qL,qM,qN,qO,qP,qQ,qR,qS,qT,qU,qV,qW,qX,qY,qZ,qc,qe,qf,qg,qh,qi,qj,qk,qm,qn,qo,qp,qr,qt,qu,qv,qw,wA,wB,wC,wD,wE,wF,wG,wH,wI,wJ,wK,wL,wM,wN,wO,wP,wQ,wR,wS]
  refine ⟨by omega, by omega, ?_⟩
  simpa [tabD, intsD] using q
theorem with_slot_ok {ds : List D} {s : Int} {d : D} (h0 : 0 ≤ s) (h1 : s < ds.length) (hl : ds.length ≤ 1000) (q : Q (.tuple (ds.set s.toNat d))) : m_with_slot [.tuple ds, .int s, d] Q E := by
  simp_arith only [b1_with_slot_r, m_with_slot_r]
  rw [set_cut ds d h0 h1]
  have l1 : (cutL ds none (some s)).length ≤ ds.length := by
    rw [cut_to ds h0, List.length_take]
    omega
  have l2 : (cutL ds (some (s + 1)) none).length ≤ ds.length := by
    rw [cut_from ds (by omega), List.length_drop]
    omega
  refine ⟨by omega, by omega, ?_, q⟩
  simp only [List.length_append, List.length_cons, List.length_nil]
  omega
theorem tset {T : List Int} {s x : Int} {Q : D → Prop} (h0 : 0 ≤ s) (h1 : s < T.length) (hl : T.length ≤ 1000) (q : Q (tabD (.s (put T s x)))) : m_with_slot [.tuple (intsD T), .int s, .int x] Q E := by
  refine with_slot_ok h0 (by rw [intsD_len]; exact h1) (by rw [intsD_len]; exact hl) ?_
  rw [intsD_set]
  exact q
theorem rset {R : List (List Int)} {s : Int} {r : List Int} {Q : D → Prop} (h0 : 0 ≤ s) (h1 : s < R.length) (hl : R.length ≤ 1000) (q : Q (tabD (.r (rput R s r)))) : m_with_slot [tabD (.r R), .int s, .tuple (intsD r)] Q E := by
  refine with_slot_ok h0 (by simpa using h1) (by simpa using hl) ?_
  rw [tabD_r] at q
  unfold rput at q
  rw [List.map_set] at q
  exact q
theorem tget {T : List Int} {s : Int} (h0 : 0 ≤ s) (h1 : s < T.length) : atI (intsD T) s = some (.int (ga T s)) := atI_ints h0 h1
theorem rget {R : List (List Int)} {s : Int} (h0 : 0 ≤ s) (h1 : s < R.length) : atI (R.map fun r => PyData.tuple (intsD r)) s = some (.tuple (intsD (rat R s))) := by
  have hl : s.toNat < R.length := by omega
  rw [atI_nat h0 (by simpa using h1), List.getElem_map]
  unfold rat
  rw [List.getD_eq_getElem?_getD, List.getElem?_eq_getElem hl]
  rfl
theorem keys_slots {h st c g gr : String} {T : List Int} (hl : T.length ≤ 1000) (q : Q (.list (intsD (keysS T)))) : m_keys_in [slotsW h st c g gr, .tuple (intsD T)] Q E := by
  simp [b1_keys_in_r,b2_keys_in_r,b3_keys_in_r,m_keys_in_r,slotsW,zA,zB,zC,zD,zE,zF,zG,zH,zI,zJ,zK,zL,zM,zN,zO,zP,zQ,zR,zS,zT,zU,zV,zW,zX,zY,zZ,zc,zd,ze,zg,zh,zi,zj,zk,zm,zn,zo,zp,zq,zr,zt,zu,zv,zw,zx,zy,zz,yA,startE,full,fullE,clean,cleanE,yB,yC,yD,yE,yF,yG,yH,yI,yJ,yK,yL,yM,yN,yO,yP,yQ,yR,yS,yT,yU,yV,yW,yX,yY,yZ,ya,yb,yc,yd,ye,yf,yg,yh,yi,yj,yk,yl,ym,yn,yo,yp,yq,yr,yt,yu,yw,Bool.bne_false,Bool.bne_true,yx,yy,yz,xA,xB,xC,xD,xE,xH,xI,xJ,xK,xL,xM,xN,xO,xP,xQ,xR,xS,xT,xU,xV,xW,xX,setAll,wipeR,setV,xY,xZ,xb,xi,xj,xk,xl,xm,xn,xp,xq,xr,xt,xw,List.any_cons,List.any_nil,List.map_cons,List.map_nil,List.length_cons,List.length_nil,List.replicate,Nat.sub_self,List.cons_append,List.nil_append,List.append_nil,List.getElem?_cons_zero,List.getElem?_cons_succ,List.set_cons_zero,List.set_cons_succ,List.set_nil,xy,xz,qA,qB,qC,qD,qE,qF,qG,qH,qI,qJ,qK,qL,qM,qN,qO,qP,qQ,qR,qS,qT,qU,qV,qW,qX,qY,qZ,qc,qe,qf,qg,qh,qi,qj,qk,qm,qn,qo,qp,qr,qt,qu,qv,qw,wA,wB,wC,wD,wE,wF,wG,wH,wI,wJ,wK,wL,wM,wN,wO,wP,wQ,wR,wS]
  refine ⟨by rw [intsD_len]; omega, lcLoop_fm PyData.int (fun x => decide (0 ≤ x)) PyData.int (fun a ha k hk => ?_) q⟩
  simp_arith only
  by_cases e : 0 ≤ a
  · simpa [e] using hk
  · simpa [e] using hk
theorem lcIn_all {ρ : Rho} (hρ : ∃ a b c d, ρ = [a, b, c, d]) : ∀ (ns : List Int) (acc : List D) (R : List D → Prop), R (acc ++ intsD ns) → lcIn (.name 2) [2] tYesD (eVar 2) ρ (intsD ns) acc R
  | [], acc, R, q => by simpa [lcIn, lcLoop, intsD] using q
  | n :: ns, acc, R, q => by
    obtain ⟨a, b, c, d, rfl⟩ := hρ
    show lcLoop _ (.int n :: intsD ns) acc R
    unfold lcLoop
    simp_arith only [if_true]
    refine lcIn_all ⟨a, b, c, d, rfl⟩ ns _ R ?_
    simpa [intsD] using q
theorem keys_rows_loop {w : D} {t : D} : ∀ (R : List (List Int)) (acc : List D) (Q : List D → Prop), (acc.length : Int) + R.flatten.length ≤ 1000 → Q (acc ++ intsD R.flatten) → lcLoop2 (.name 3) [3, 2] tYesD (sItems (eVar 3)) (.name 2) [2] tYesD (eVar 2) [some w, some t, none, none] (R.map fun r => PyData.tuple (intsD r)) acc Q
  | [], acc, Q, _, q => by simpa [lcLoop2, intsD] using q
  | r :: R, acc, Q, hl, q => by
    rw [List.map_cons]
    unfold lcLoop2
    simp_arith only [if_true]
    rw [List.flatten_cons, List.length_append] at hl
    refine ⟨by rw [intsD_len]; omega, lcIn_all ⟨_, _, _, _, rfl⟩ r acc _ (keys_rows_loop R _ Q ?_ ?_)⟩
    · rw [List.length_append, intsD_len]
      push_cast at hl ⊢
      omega
    · rw [List.flatten_cons, intsD_app, ← List.append_assoc] at q
      exact q
theorem keys_rows {h c o : String} {R : List (List Int)} (hl : R.flatten.length ≤ 1000) (q : Q (.list (intsD R.flatten))) : m_keys_in [rowsW h c o, tabD (.r R)] Q E := by
  simp_arith only [b1_keys_in_r, b2_keys_in_r, b3_keys_in_r, m_keys_in_r, rowsW]
  simp [zA,zB,zC,zD,zE,zF,zG,zH,zI,zJ,zK,zL,zM,zN,zO,zP,zQ,zR,zS,zT,zU,zV,zW,zX,zY,zZ,zc,zd,ze,zg,zh,zi,zj,zk,zm,zn,zo,zp,zq,zr,zt,zu,zv,zw,zx,zy,zz,yA,startE,full,fullE,clean,cleanE,yB,yC,yD,yE,yF,yG,yH,yI,yJ,yK,yL,yM,yN,yO,yP,yQ,yR,yS,yT,yU,yV,yW,yX,yY,yZ,ya,yb,yc,yd,ye,yf,yg,yh,yi,yj,yk,yl,ym,yn,yo,yp,yq,yr,yt,yu,yw,Bool.bne_false,Bool.bne_true,yx,yy,yz,xA,xB,xC,xD,xE,xH,xI,xJ,xK,xL,xM,xN,xO,xP,xQ,xR,xS,xT,xU,xV,xW,xX,setAll,wipeR,setV,xY,xZ,xb,xi,xj,xk,xl,xm,xn,xp,xq,xr,xt,xw,List.any_cons,List.any_nil,List.map_cons,List.map_nil,List.length_cons,List.length_nil,List.replicate,Nat.sub_self,List.cons_append,List.nil_append,List.append_nil,List.getElem?_cons_zero,List.getElem?_cons_succ,List.set_cons_zero,List.set_cons_succ,List.set_nil,xy,xz,qA,qB,qC,qD,qE,qF,qG,qH,qI,qJ,qK,qL,qM,qN,qO,qP,qQ,qR,qS,qT,qU,qV,qW,qX,qY,qZ,qc,qe,qf,qg,qh,qi,qj,qk,qm,qn,qo,qp,qr,qt,qu,qv,qw,wA,wB,wC,wD,wE,wF,wG,wH,wI,wJ,wK,wL,wM,wN,wO,wP,wQ,wR,wS]
  exact keys_rows_loop R [] _ (by simp only [List.length_nil]; omega) (by simpa using q)
theorem order_slots {h st c g gr : String} {T : List Int} (hl : T.length ≤ 1000) (q : Q (.tuple (intsD (keysS T)))) : m_order_in [slotsW h st c g gr, .tuple (intsD T)] Q E := by
  simp_arith only [b1_order_in_r, m_order_in_r]
  exact keys_slots hl q
theorem order_rows {h c o : String} {R : List (List Int)} (hl : R.flatten.length ≤ 1000) (q : Q (.tuple (intsD R.flatten))) : m_order_in [rowsW h c o, tabD (.r R)] Q E := by
  simp_arith only [b1_order_in_r, m_order_in_r]
  exact keys_rows hl q
theorem once_ok {l : List Int} (hl : l.length ≤ 1000) (q : Q (.list (intsD (once [] l)))) : m_each_once [.list (intsD l)] Q E := by
  simp_arith only [b1_each_once_r, m_each_once_r]
  refine ⟨by decide, ?_⟩
  generalize e0 : once [] l = m at q
  refine forLoop_mp PyData.int (fun r Γ => ∃ acc x, Γ = [some (.val (.list (intsD l))), some (.own (.lst (intsD acc))), x] ∧ acc.length + r.length ≤ 1000 ∧ once acc r = m) (fun Γ ⟨acc, x, e, _, h⟩ => ?_) l (fun a r Γ ⟨acc, x, e, hl, h⟩ nx hnx => ?_) _ ⟨[], none, rfl, by simpa using hl, e0⟩
  · subst e
    simp_arith only
    rw [once_nil] at h
    rw [h]
    exact q
  · subst e
    simp only [List.length_cons] at hl
    simp_arith only [b1_each_once_r, m_each_once_r, sh_intsL, anyI, true_and]
    rw [once_cons] at h
    by_cases hm : a ∈ acc
    · rw [if_pos hm] at h
      simp_arith only [hm, reduceIte, Bool.false_eq_true, decide_true, decide_false, Bool.not_true, Bool.not_false, true_and, and_true, decide_not, Bool.true_bne, Bool.false_bne, Bool.not_not]
      exact hnx _ ⟨acc, _, rfl, by omega, h⟩
    · rw [if_neg hm] at h
      simp_arith only [hm, reduceIte, Bool.false_eq_true, decide_true, decide_false, Bool.not_true, Bool.not_false, true_and, and_true, decide_not, Bool.true_bne, Bool.false_bne, Bool.not_not]
      refine ⟨by rw [intsD_len]; omega, ?_⟩
      refine hnx _ ⟨acc ++ [a], some (.val (.int a)), ?_, by simp; omega, h⟩
      simp [intsD]
theorem used_slots {h st c g gr : String} {T : List Int} (hl : T.length ≤ 1000) (q : Q (.int (used T))) : m_used_in [slotsW h st c g gr, .tuple (intsD T)] Q E := by
  simp [b1_used_in_r,b2_used_in_r,b3_used_in_r,m_used_in_r,slotsW,zA,zB,zC,zD,zE,zF,zG,zH,zI,zJ,zK,zL,zM,zN,zO,zP,zQ,zR,zS,zT,zU,zV,zW,zX,zY,zZ,zc,zd,ze,zg,zh,zi,zj,zk,zm,zn,zo,zp,zq,zr,zt,zu,zv,zw,zx,zy,zz,yA,startE,full,fullE,clean,cleanE,yB,yC,yD,yE,yF,yG,yH,yI,yJ,yK,yL,yM,yN,yO,yP,yQ,yR,yS,yT,yU,yV,yW,yX,yY,yZ,ya,yb,yc,yd,ye,yf,yg,yh,yi,yj,yk,yl,ym,yn,yo,yp,yq,yr,yt,yu,yw,Bool.bne_false,Bool.bne_true,yx,yy,yz,xA,xB,xC,xD,xE,xH,xI,xJ,xK,xL,xM,xN,xO,xP,xQ,xR,xS,xT,xU,xV,xW,xX,setAll,wipeR,setV,xY,xZ,xb,xi,xj,xk,xl,xm,xn,xp,xq,xr,xt,xw,List.any_cons,List.any_nil,List.map_cons,List.map_nil,List.length_cons,List.length_nil,List.replicate,Nat.sub_self,List.cons_append,List.nil_append,List.append_nil,List.getElem?_cons_zero,List.getElem?_cons_succ,List.set_cons_zero,List.set_cons_succ,List.set_nil,xy,xz,qA,qB,qC,qD,qE,qF,qG,qH,qI,qJ,qK,qL,qM,qN,qO,qP,qQ,qR,qS,qT,qU,qV,qW,qX,qY,qZ,qc,qe,qf,qg,qh,qi,qj,qk,qm,qn,qo,qp,qr,qt,qu,qv,qw,wA,wB,wC,wD,wE,wF,wG,wH,wI,wJ,wK,wL,wM,wN,wO,wP,wQ,wR,wS]
  refine ⟨by rw [intsD_len]; omega, lcLoop_fm PyData.int (fun x => decide (x ≠ -1)) PyData.int (fun a ha k hk => ?_) ?_⟩
  · simp_arith only
    by_cases e : a = -1
    · simpa [e] using hk
    · simpa [e] using hk
  · rw [List.length_map, ← List.countP_eq_length_filter]
    exact q
theorem used_rows {h c o : String} {R : List (List Int)} (hl : R.flatten.length ≤ 1000) (q : Q (.int R.flatten.length)) : m_used_in [rowsW h c o, tabD (.r R)] Q E := by
  simp_arith only [b1_used_in_r, b2_used_in_r, b3_used_in_r, m_used_in_r, rowsW]
  simp [zA,zB,zC,zD,zE,zF,zG,zH,zI,zJ,zK,zL,zM,zN,zO,zP,zQ,zR,zS,zT,zU,zV,zW,zX,zY,zZ,zc,zd,ze,zg,zh,zi,zj,zk,zm,zn,zo,zp,zq,zr,zt,zu,zv,zw,zx,zy,zz,yA,startE,full,fullE,clean,cleanE,yB,yC,yD,yE,yF,yG,yH,yI,yJ,yK,yL,yM,yN,yO,yP,yQ,yR,yS,yT,yU,yV,yW,yX,yY,yZ,ya,yb,yc,yd,ye,yf,yg,yh,yi,yj,yk,yl,ym,yn,yo,yp,yq,yr,yt,yu,yw,Bool.bne_false,Bool.bne_true,yx,yy,yz,xA,xB,xC,xD,xE,xH,xI,xJ,xK,xL,xM,xN,xO,xP,xQ,xR,xS,xT,xU,xV,xW,xX,setAll,wipeR,setV,xY,xZ,xb,xi,xj,xk,xl,xm,xn,xp,xq,xr,xt,xw,List.any_cons,List.any_nil,List.map_cons,List.map_nil,List.length_cons,List.length_nil,List.replicate,Nat.sub_self,List.cons_append,List.nil_append,List.append_nil,List.getElem?_cons_zero,List.getElem?_cons_succ,List.set_cons_zero,List.set_cons_succ,List.set_nil,xy,xz,qA,qB,qC,qD,qE,qF,qG,qH,qI,qJ,qK,qL,qM,qN,qO,qP,qQ,qR,qS,qT,qU,qV,qW,qX,qY,qZ,qc,qe,qf,qg,qh,qi,qj,qk,qm,qn,qo,qp,qr,qt,qu,qv,qw,wA,wB,wC,wD,wE,wF,wG,wH,wI,wJ,wK,wL,wM,wN,wO,wP,wQ,wR,wS]
  refine keys_rows hl ?_
  simp_arith only [intsD_len]
  exact q
end
end G6
namespace G6
open PySem PySem.Spec L2 DL TM
section
variable {Q : D → Prop} {E : Str → Prop}
theorem distance_ok {h st c g gr : String} {k s n : Int} (hn : SizeOk n) (q : Q (.int (dist h st k s n))) : m_distance [slotsW h st c g gr, .int k, .int s, .int n] Q E := by
  obtain ⟨hn0, hn1⟩ := small hn
  unfold dist at q
  simp_arith only [m_distance_r, b1_distance_r]
  refine home_slots hn ?_
  simp_arith only [b2_distance_r, slotsW, reduceIte, Bool.false_eq_true, decide_true, decide_false, Bool.not_true, Bool.not_false, true_and, and_true, decide_not, Bool.true_bne, Bool.false_bne, Bool.not_not]
  by_cases e : st = "up"
  · rw [if_pos e] at q
    simp_arith only [e, reduceIte, Bool.false_eq_true, decide_true, decide_false, Bool.not_true, Bool.not_false, true_and, and_true, decide_not, Bool.true_bne, Bool.false_bne, Bool.not_not]
    exact ⟨hn0, q⟩
  · rw [if_neg e] at q
    simp_arith only [e, reduceIte, Bool.false_eq_true, decide_true, decide_false, Bool.not_true, Bool.not_false, true_and, and_true, decide_not, Bool.true_bne, Bool.false_bne, Bool.not_not]
    exact ⟨hn0, q⟩
def optD : Option Int → D
  | none => .none
  | some s => .int s
theorem found_slots_loop {w : D} {T : List Int} {k : Int} {a : Option Ent} {kk : KS} (hT : T.length ≤ 1000) : ∀ (p : List Int) (l : Int), (∀ s ∈ p, 0 ≤ s ∧ s < T.length) → kk.rt (.tuple [optD (seek T k p l).1, .int (seek T k p l).2]) →
    (∀ Γ, (∃ x l', Γ = [some (.val w), some (.val (.tuple (intsD T))), some (.val (.int k)), some (.val (.int l')), x, a] ∧ kk.rt (.tuple [.none, .int l'])) → kk.nx Γ) →
    ∀ x, forLoop (.name 4) b8_found_at kk (intsD p) [some (.val w), some (.val (.tuple (intsD T))), some (.val (.int k)), some (.val (.int l)), x, a]
  | [], l, _, q, hn, x => by
    show kk.nx _
    exact hn _ ⟨x, l, rfl, by simpa [seek, optD] using q⟩
  | s :: p, l, hp, q, hn, x => by
    obtain ⟨h0, h1⟩ := hp s List.mem_cons_self
    show orStuck (bindT _ (.int s)) _
    simp_arith only [b8_found_at_r, b6_found_at_r, b7_found_at_r, tget h0 h1, reduceIte, Bool.false_eq_true, decide_true, decide_false, Bool.not_true, Bool.not_false, true_and, and_true, decide_not, Bool.true_bne, Bool.false_bne, Bool.not_not]
    unfold seek at q
    by_cases e1 : ga T s = -1
    · rw [if_pos e1] at q
      simp_arith only [e1, reduceIte, Bool.false_eq_true, decide_true, decide_false, Bool.not_true, Bool.not_false, true_and, and_true, decide_not, Bool.true_bne, Bool.false_bne, Bool.not_not]
      simpa [optD] using q
    · rw [if_neg e1] at q
      simp_arith only [e1, reduceIte, Bool.false_eq_true, decide_true, decide_false, Bool.not_true, Bool.not_false, true_and, and_true, decide_not, Bool.true_bne, Bool.false_bne, Bool.not_not, tget h0 h1]
      by_cases e2 : ga T s = k
      · rw [if_pos e2] at q
        simp_arith only [e2, reduceIte, Bool.false_eq_true, decide_true, decide_false, Bool.not_true, Bool.not_false, true_and, and_true, decide_not, Bool.true_bne, Bool.false_bne, Bool.not_not]
        simpa [optD] using q
      · rw [if_neg e2] at q
        simp_arith only [e2, reduceIte, Bool.false_eq_true, decide_true, decide_false, Bool.not_true, Bool.not_false, true_and, and_true, decide_not, Bool.true_bne, Bool.false_bne, Bool.not_not]
        exact found_slots_loop hT p (l + 1) (fun s hs => hp s (List.mem_cons_of_mem _ hs)) q hn _
theorem found_slots {h st c g gr : String} {T : List Int} {k : Int} (hn : SizeOk T.length) (q : Q (.tuple [optD (found (.s h st c g gr) (.s T) k).1, .int (found (.s h st c g gr) (.s T) k).2])) : m_found_at [slotsW h st c g gr, .tuple (intsD T), .int k] Q E := by
  obtain ⟨hn0, hn1⟩ := small hn
  simp_arith only [m_found_at_r, b5_found_at_r, slotsW, reduceIte, Bool.false_eq_true, decide_true, decide_false, Bool.not_true, Bool.not_false, true_and, and_true, decide_not, Bool.true_bne, Bool.false_bne, Bool.not_not]
  simp [zA,zB,zC,zD,zE,zF,zG,zH,zI,zJ,zK,zL,zM,zN,zO,zP,zQ,zR,zS,zT,zU,zV,zW,zX,zY,zZ,zc,zd,ze,zg,zh,zi,zj,zk,zm,zn,zo,zp,zq,zr,zt,zu,zv,zw,zx,zy,zz,yA,startE,full,fullE,clean,cleanE,yB,yC,yD,yE,yF,yG,yH,yI,yJ,yK,yL,yM,yN,yO,yP,yQ,yR,yS,yT,yU,yV,yW,yX,yY,yZ,ya,yb,yc,yd,ye,yf,yg,yh,yi,yj,yk,yl,ym,yn,yo,yp,yq,yr,yt,yu,yw,Bool.bne_false,Bool.bne_true,yx,yy,yz,xA,xB,xC,xD,xE,xH,xI,xJ,xK,xL,xM,xN,xO,xP,xQ,xR,xS,xT,xU,xV,xW,xX,setAll,wipeR,setV,xY,xZ,xb,xi,xj,xk,xl,xm,xn,xp,xq,xr,xt,xw,List.any_cons,List.any_nil,List.map_cons,List.map_nil,List.length_cons,List.length_nil,List.replicate,Nat.sub_self,List.cons_append,List.nil_append,List.append_nil,List.getElem?_cons_zero,List.getElem?_cons_succ,List.set_cons_zero,List.set_cons_succ,List.set_nil,xy,xz,qA,qB,qC,qD,qE,qF,qG,qH,qI,qJ,qK,qL,qM,qN,qO,qP,qQ,qR,qS,qT,qU,qV,qW,qX,qY,qZ,qc,qe,qf,qg,qh,qi,qj,qk,qm,qn,qo,qp,qr,qt,qu,qv,qw,wA,wB,wC,wD,wE,wF,wG,wH,wI,wJ,wK,wL,wM,wN,wO,wP,wQ,wR,wS]
  simp_arith only [b9_found_at_r]
  show m_walk_of [slotsW h st c g gr, _, _] _ _
  rw [intsD_len]
  refine walk_slots hn ?_
  simp_arith only
  refine found_slots_loop (by omega) _ _ (fun s hs => (path_mem hn).mp hs) q (fun Γ ⟨x, l', e, hl⟩ => ?_) _
  subst e
  simp_arith only
  exact hl
theorem found_rows {h c o : String} {R : List (List Int)} {k : Int} (hn : SizeOk R.length) (hl : ∀ r ∈ R, r.length ≤ 1000) (q : Q (.tuple [optD (found (.r h c o) (.r R) k).1, .int (found (.r h c o) (.r R) k).2])) : m_found_at [rowsW h c o, tabD (.r R), .int k] Q E := by
  obtain ⟨hn0, hn1⟩ := small hn
  obtain ⟨h0, h1⟩ := home_rng (h := h) (k := k) hn
  simp_arith only [m_found_at_r, b5_found_at_r, rowsW, reduceIte, Bool.false_eq_true, decide_true, decide_false, Bool.not_true, Bool.not_false, true_and, and_true, decide_not, Bool.true_bne, Bool.false_bne, Bool.not_not]
  simp [zA,zB,zC,zD,zE,zF,zG,zH,zI,zJ,zK,zL,zM,zN,zO,zP,zQ,zR,zS,zT,zU,zV,zW,zX,zY,zZ,zc,zd,ze,zg,zh,zi,zj,zk,zm,zn,zo,zp,zq,zr,zt,zu,zv,zw,zx,zy,zz,yA,startE,full,fullE,clean,cleanE,yB,yC,yD,yE,yF,yG,yH,yI,yJ,yK,yL,yM,yN,yO,yP,yQ,yR,yS,yT,yU,yV,yW,yX,yY,yZ,ya,yb,yc,yd,ye,yf,yg,yh,yi,yj,yk,yl,ym,yn,yo,yp,yq,yr,yt,yu,yw,Bool.bne_false,Bool.bne_true,yx,yy,yz,xA,xB,xC,xD,xE,xH,xI,xJ,xK,xL,xM,xN,xO,xP,xQ,xR,xS,xT,xU,xV,xW,xX,setAll,wipeR,setV,xY,xZ,xb,xi,xj,xk,xl,xm,xn,xp,xq,xr,xt,xw,List.any_cons,List.any_nil,List.map_cons,List.map_nil,List.length_cons,List.length_nil,List.replicate,Nat.sub_self,List.cons_append,List.nil_append,List.append_nil,List.getElem?_cons_zero,List.getElem?_cons_succ,List.set_cons_zero,List.set_cons_succ,List.set_nil,xy,xz,qA,qB,qC,qD,qE,qF,qG,qH,qI,qJ,qK,qL,qM,qN,qO,qP,qQ,qR,qS,qT,qU,qV,qW,qX,qY,qZ,qc,qe,qf,qg,qh,qi,qj,qk,qm,qn,qo,qp,qr,qt,qu,qv,qw,wA,wB,wC,wD,wE,wF,wG,wH,wI,wJ,wK,wL,wM,wN,wO,wP,wQ,wR,wS]
  simp_arith only [b1_found_at_r, tabD_r, List.length_map]
  show m_home_of [rowsW h c o, _, _] _ _
  refine home_rows hn ?_
  simp_arith only [rget h0 h1]
  simp_arith only [b3_found_at_r, anyI, sh_ints, reduceIte, Bool.false_eq_true, decide_true, decide_false, Bool.not_true, Bool.not_false, true_and, and_true, decide_not, Bool.true_bne, Bool.false_bne, Bool.not_not]
  simp only [found] at q
  by_cases e : k ∈ rat R (homeOf h k R.length)
  · rw [if_pos e] at q
    simp_arith only [e, reduceIte, Bool.false_eq_true, decide_true, decide_false, Bool.not_true, Bool.not_false, true_and, and_true, decide_not, Bool.true_bne, Bool.false_bne, Bool.not_not]
    simp_arith only [b2_found_at_r, List.length_map]
    show m_home_of [rowsW h c o, _, _] _ _
    refine home_rows hn ?_
    simp_arith only [place_ints _ _ e, sh_intsL, reduceIte, Bool.false_eq_true, decide_true, decide_false, Bool.not_true, Bool.not_false, true_and, and_true, decide_not, Bool.true_bne, Bool.false_bne, Bool.not_not]
    refine ⟨by decide, ?_⟩
    simpa [optD] using q
  · rw [if_neg e] at q
    simp_arith only [e, reduceIte, Bool.false_eq_true, decide_true, decide_false, Bool.not_true, Bool.not_false, true_and, and_true, decide_not, Bool.true_bne, Bool.false_bne, Bool.not_not]
    simp_arith only [b4_found_at_r, intsD_len]
    refine ⟨by decide, ?_⟩
    simpa [optD] using q
theorem placed_rows {h c o : String} {R : List (List Int)} {k : Int} (hn : SizeOk R.length) (hl : ∀ r ∈ R, r.length ≤ 1000) (q : Q (tabD (.r (placeR h c R k)))) : m_placed [rowsW h c o, tabD (.r R), .int k] Q E := by
  obtain ⟨hn0, hn1⟩ := small hn
  obtain ⟨h0, h1⟩ := home_rng (h := h) (k := k) hn
  have hr := hl _ (rat_mem h0 h1)
  simp_arith only [m_placed_r, b3_placed_r, rowsW, reduceIte, Bool.false_eq_true, decide_true, decide_false, Bool.not_true, Bool.not_false, true_and, and_true, decide_not, Bool.true_bne, Bool.false_bne, Bool.not_not, tabD_r, List.length_map]
  simp [zA,zB,zC,zD,zE,zF,zG,zH,zI,zJ,zK,zL,zM,zN,zO,zP,zQ,zR,zS,zT,zU,zV,zW,zX,zY,zZ,zc,zd,ze,zg,zh,zi,zj,zk,zm,zn,zo,zp,zq,zr,zt,zu,zv,zw,zx,zy,zz,yA,startE,full,fullE,clean,cleanE,yB,yC,yD,yE,yF,yG,yH,yI,yJ,yK,yL,yM,yN,yO,yP,yQ,yR,yS,yT,yU,yV,yW,yX,yY,yZ,ya,yb,yc,yd,ye,yf,yg,yh,yi,yj,yk,yl,ym,yn,yo,yp,yq,yr,yt,yu,yw,Bool.bne_false,Bool.bne_true,yx,yy,yz,xA,xB,xC,xD,xE,xH,xI,xJ,xK,xL,xM,xN,xO,xP,xQ,xR,xS,xT,xU,xV,xW,xX,setAll,wipeR,setV,xY,xZ,xb,xi,xj,xk,xl,xm,xn,xp,xq,xr,xt,xw,List.any_cons,List.any_nil,List.map_cons,List.map_nil,List.length_cons,List.length_nil,List.replicate,Nat.sub_self,List.cons_append,List.nil_append,List.append_nil,List.getElem?_cons_zero,List.getElem?_cons_succ,List.set_cons_zero,List.set_cons_succ,List.set_nil,xy,xz,qA,qB,qC,qD,qE,qF,qG,qH,qI,qJ,qK,qL,qM,qN,qO,qP,qQ,qR,qS,qT,qU,qV,qW,qX,qY,qZ,qc,qe,qf,qg,qh,qi,qj,qk,qm,qn,qo,qp,qr,qt,qu,qv,qw,wA,wB,wC,wD,wE,wF,wG,wH,wI,wJ,wK,wL,wM,wN,wO,wP,wQ,wR,wS]
  simp_arith only [b1_placed_r]
  show m_home_of [rowsW h c o, _, _] _ _
  refine home_rows hn ?_
  simp_arith only [b2_placed_r, rget h0 h1]
  unfold placeR at q
  by_cases e : c = "front"
  · rw [if_pos e] at q
    simp_arith only [e, reduceIte, Bool.false_eq_true, decide_true, decide_false, Bool.not_true, Bool.not_false, true_and, and_true, decide_not, Bool.true_bne, Bool.false_bne, Bool.not_not]
    refine ⟨by decide, by rw [intsD_len]; omega, ?_⟩
    exact rset (r := k :: rat R (homeOf h k R.length)) h0 h1 (by omega) q
  · rw [if_neg e] at q
    simp_arith only [e, reduceIte, Bool.false_eq_true, decide_true, decide_false, Bool.not_true, Bool.not_false, true_and, and_true, decide_not, Bool.true_bne, Bool.false_bne, Bool.not_not]
    refine ⟨by decide, by rw [intsD_len]; omega, ?_⟩
    have : intsD (rat R (homeOf h k R.length)) ++ [PyData.int k] = intsD (rat R (homeOf h k R.length) ++ [k]) := by simp [intsD]
    rw [this]
    exact rset h0 h1 (by omega) q
theorem deq (a x : Int) : decide (a = x) = (x == a) := by
  by_cases z : x = a
  · simp [z]
  · have : ¬ a = x := fun w => z w.symm
    simp [z, this]
theorem head_at {l : List Int} {s : Int} {r : List Int} (e : l = s :: r) : atI (intsD l) 0 = some (.int s) := by
  subst e
  exact ye _ _
theorem placed_line {h st c g gr : String} {T : List Int} {k : Int} (hn : SizeOk T.length) (hc : c = "late" ∨ c = "empty") (hu : used T < T.length) (q : Q (tabD (.s (placeS h st c T k)))) : m_placed [slotsW h st c g gr, .tuple (intsD T), .int k] Q E := by
  obtain ⟨hn0, hn1⟩ := small hn
  obtain ⟨s, r, es, ⟨s0, s1⟩, _⟩ := frees_ne (h := h) (st := st) (c := c) (k := k) hn hu
  unfold placeS at q
  rw [if_pos hc, es] at q
  simp_arith only [m_placed_r, b3_placed_r, slotsW, reduceIte, Bool.false_eq_true, decide_true, decide_false, Bool.not_true, Bool.not_false, true_and, and_true, decide_not, Bool.true_bne, Bool.false_bne, Bool.not_not, intsD_len]
  simp [zA,zB,zC,zD,zE,zF,zG,zH,zI,zJ,zK,zL,zM,zN,zO,zP,zQ,zR,zS,zT,zU,zV,zW,zX,zY,zZ,zc,zd,ze,zg,zh,zi,zj,zk,zm,zn,zo,zp,zq,zr,zt,zu,zv,zw,zx,zy,zz,yA,startE,full,fullE,clean,cleanE,yB,yC,yD,yE,yF,yG,yH,yI,yJ,yK,yL,yM,yN,yO,yP,yQ,yR,yS,yT,yU,yV,yW,yX,yY,yZ,ya,yb,yc,yd,ye,yf,yg,yh,yi,yj,yk,yl,ym,yn,yo,yp,yq,yr,yt,yu,yw,Bool.bne_false,Bool.bne_true,yx,yy,yz,xA,xB,xC,xD,xE,xH,xI,xJ,xK,xL,xM,xN,xO,xP,xQ,xR,xS,xT,xU,xV,xW,xX,setAll,wipeR,setV,xY,xZ,xb,xi,xj,xk,xl,xm,xn,xp,xq,xr,xt,xw,List.any_cons,List.any_nil,List.map_cons,List.map_nil,List.length_cons,List.length_nil,List.replicate,Nat.sub_self,List.cons_append,List.nil_append,List.append_nil,List.getElem?_cons_zero,List.getElem?_cons_succ,List.set_cons_zero,List.set_cons_succ,List.set_nil,xy,xz,qA,qB,qC,qD,qE,qF,qG,qH,qI,qJ,qK,qL,qM,qN,qO,qP,qQ,qR,qS,qT,qU,qV,qW,qX,qY,qZ,qc,qe,qf,qg,qh,qi,qj,qk,qm,qn,qo,qp,qr,qt,qu,qv,qw,wA,wB,wC,wD,wE,wF,wG,wH,wI,wJ,wK,wL,wM,wN,wO,wP,wQ,wR,wS]
  simp_arith only [b6_placed_r, reduceIte, Bool.false_eq_true, decide_true, decide_false, Bool.not_true, Bool.not_false, true_and, and_true, decide_not, Bool.true_bne, Bool.false_bne, Bool.not_not]
  have hin : (decide ("late" = c) || (decide ("empty" = c) || false)) = true := by
    rcases hc with rfl | rfl <;> simp
  rw [hin]
  simp only [reduceIte, Bool.false_eq_true, decide_true, decide_false, Bool.not_true, Bool.not_false, true_and, and_true, decide_not, Bool.true_bne, Bool.false_bne, Bool.not_not]
  simp_arith only [b4_placed_r, reduceIte, Bool.false_eq_true, decide_true, decide_false, Bool.not_true, Bool.not_false, true_and, and_true, decide_not, Bool.true_bne, Bool.false_bne, Bool.not_not]
  have fin : ∀ fr : List D, (∀ x : Int, (fr.any fun z => PyData.eqv z (.int x)) = isFree c x) → SeqAt.shaped (.tuple fr) = true → b5_placed [some (.val (slotsW h st c g gr)), some (.val (.tuple (intsD T))), some (.val (.int k)), some (.val (.int T.length)), none, none, some (.val (.tuple fr)), none, none] { nx := fun Γ' => b7_placed Γ' { nx := fun Γ' => b12_placed Γ' { nx := fun Γ' => b13_placed Γ' { nx := fun _ => Q .none, rt := Q, ex := E }, rt := Q, ex := E }, rt := Q, ex := E }, rt := Q, ex := E } := by
    intro fr hfr hsh
    simp_arith only [b5_placed_r]
    refine walk_slots hn ?_
    simp_arith only
    refine ⟨by rw [intsD_len, path_len]; omega, lcLoop_fm PyData.int (fun s => isFree c (ga T s)) PyData.int (fun a ha kk hk => ?_) ?_⟩
    · obtain ⟨a0, a1⟩ := (path_mem hn).mp ha
      simp_arith only [tget a0 a1, hfr, hsh, reduceIte, Bool.false_eq_true, decide_true, decide_false, Bool.not_true, Bool.not_false, true_and, and_true, decide_not, Bool.true_bne, Bool.false_bne, Bool.not_not]
      by_cases e : isFree c (ga T a) = true
      · simpa [e] using hk
      · simpa [e] using hk
    · show orStuck (atI (intsD (frees h st c T k)) 0) _
      rw [head_at es]
      simp_arith only
      exact tset s0 s1 (by omega) q
  by_cases e : c = "late"
  · simp_arith only [e, reduceIte, Bool.false_eq_true, decide_true, decide_false, Bool.not_true, Bool.not_false, true_and, and_true, decide_not, Bool.true_bne, Bool.false_bne, Bool.not_not]
    refine ⟨by decide, ?_⟩
    have := fin [.int (-1), .int (-2)] (fun x => ?_) rfl
    · simpa [slotsW, e] using this
    · simp only [List.any_cons, List.any_nil, yt, isFree, e, deq, Bool.or_false, beq_self_eq_true, Bool.true_and]
  · simp_arith only [e, reduceIte, Bool.false_eq_true, decide_true, decide_false, Bool.not_true, Bool.not_false, true_and, and_true, decide_not, Bool.true_bne, Bool.false_bne, Bool.not_not]
    refine ⟨by decide, ?_⟩
    have := fin [.int (-1)] (fun x => ?_) rfl
    · simpa [slotsW, e] using this
    · simp only [List.any_cons, List.any_nil, yt, isFree, deq, Bool.or_false, beq_eq_false_iff_ne.mpr e, Bool.false_and]
end
end G6
namespace G6
open PySem PySem.Spec L2 DL TM
section
variable {Q : D → Prop} {E : Str → Prop}
theorem shoved {h st c g gr : String} {n : Int} (hn : SizeOk n) {k : D} {b0 b1 : Option Ent} {kk : KS} {res : List Int} (q : kk.rt (tabD (.s res))) : ∀ (f : Nat) (Γ : DL.Env),
    (∃ T s m x, Γ = [some (.val (slotsW h st c g gr)), some (.val (.tuple (intsD T))), some (.val k), some (.val (.int n)), some (.val (.int s)), b0, b1, some (.val (.int m)), x] ∧ ShI st n f T s ∧ shove h st c n f T s m = res) →
    b12_placed Γ { kk with nx := fun Γ' => b13_placed Γ' kk } := by
  obtain ⟨hn0, hn1⟩ := small hn
  intro f Γ hI
  rw [b12_placed_r]
  refine while_ind (fun f Γ => ∃ T s m x, Γ = [some (.val (slotsW h st c g gr)), some (.val (.tuple (intsD T))), some (.val k), some (.val (.int n)), some (.val (.int s)), b0, b1, some (.val (.int m)), x] ∧ ShI st n f T s ∧ shove h st c n f T s m = res) ?_ f Γ hI
  rintro f Γ ⟨T, s, m, x, rfl, i, e⟩ nx hnx
  have s1 : s < T.length := by have := i.len; have := i.s1; omega
  have hT : T.length ≤ 1000 := by have := i.len; omega
  obtain ⟨f', rfl⟩ := i.free
  rw [shove_turn] at e
  simp_arith only [tget i.s0 s1]
  by_cases hg : 0 ≤ ga T s
  · rw [if_pos hg] at e
    obtain ⟨f2, e2, i1, i2⟩ := i.step hn0 hg m
    have : f2 = f' := by omega
    subst this
    simp_arith only [hg, reduceIte, Bool.false_eq_true, decide_true, decide_false, Bool.not_true, Bool.not_false, true_and, and_true, decide_not, Bool.true_bne, Bool.false_bne, Bool.not_not, b11_placed_r, tget i.s0 s1]
    simp_arith only [b9_placed_r, slotsW, reduceIte, Bool.false_eq_true, decide_true, decide_false, Bool.not_true, Bool.not_false, true_and, and_true, decide_not, Bool.true_bne, Bool.false_bne, Bool.not_not]
    have tl : ∀ (T' : List Int) (m' : Int), ShI st n f2 T' (nxt st s n) → shove h st c n f2 T' (nxt st s n) m' = res → b10_placed [some (.val (slotsW h st c g gr)), some (.val (.tuple (intsD T'))), some (.val k), some (.val (.int n)), some (.val (.int s)), b0, b1, some (.val (.int m')), some (.val (.int (ga T s)))] { kk with nx := nx, bk := fun Γ' => b13_placed Γ' kk, ct := nx } := by
      intro T' m' i' e'
      simp_arith only [b10_placed_r, slotsW, reduceIte, Bool.false_eq_true, decide_true, decide_false, Bool.not_true, Bool.not_false, true_and, and_true, decide_not, Bool.true_bne, Bool.false_bne, Bool.not_not]
      by_cases hu : st = "up"
      · have en : nxt st s n = (s + 1) % n := by unfold nxt; rw [if_pos hu]
        rw [en] at i' e'
        simp_arith only [decide_eq_true hu, reduceIte, Bool.false_eq_true, decide_true, decide_false, Bool.not_true, Bool.not_false, true_and, and_true, decide_not, Bool.true_bne, Bool.false_bne, Bool.not_not]
        exact ⟨hn0, hnx f2 _ rfl ⟨T', _, m', _, rfl, i', e'⟩⟩
      · have en : nxt st s n = (s - 1) % n := by unfold nxt; rw [if_neg hu]
        rw [en] at i' e'
        simp_arith only [decide_eq_false hu, reduceIte, Bool.false_eq_true, decide_true, decide_false, Bool.not_true, Bool.not_false, true_and, and_true, decide_not, Bool.true_bne, Bool.false_bne, Bool.not_not]
        exact ⟨hn0, hnx f2 _ rfl ⟨T', _, m', _, rfl, i', e'⟩⟩
    have mv : shove h st c n f2 (put T s m) (nxt st s n) (ga T s) = res → b8_placed [some (.val (slotsW h st c g gr)), some (.val (.tuple (intsD T))), some (.val k), some (.val (.int n)), some (.val (.int s)), b0, b1, some (.val (.int m)), some (.val (.int (ga T s)))] { kk with nx := fun Γ' => b10_placed Γ' { kk with nx := nx, bk := fun Γ' => b13_placed Γ' kk, ct := nx }, bk := fun Γ' => b13_placed Γ' kk, ct := nx } := by
      intro e'
      simp_arith only [b8_placed_r]
      refine tset i.s0 s1 hT ?_
      simp_arith only [tabD_s]
      exact ⟨by decide, tl (put T s m) (ga T s) i1 e'⟩
    by_cases e1 : c = "first"
    · rw [if_pos (.inl e1)] at e
      simp only [decide_eq_true e1, reduceIte, Bool.false_eq_true, decide_true, decide_false, Bool.not_true, Bool.not_false, true_and, and_true, decide_not, Bool.true_bne, Bool.false_bne, Bool.not_not]
      exact mv e
    · simp_arith only [decide_eq_false e1, reduceIte, Bool.false_eq_true, decide_true, decide_false, Bool.not_true, Bool.not_false, true_and, and_true, decide_not, Bool.true_bne, Bool.false_bne, Bool.not_not]
      show m_distance [slotsW h st c g gr, _, _, _] _ _
      refine distance_ok hn ?_
      show m_distance [slotsW h st c g gr, _, _, _] _ _
      refine distance_ok hn ?_
      simp_arith only
      by_cases e2 : dist h st (ga T s) s n < dist h st m s n
      · rw [if_pos (.inr e2)] at e
        simp only [decide_eq_true e2, reduceIte, Bool.false_eq_true, decide_true, decide_false, Bool.not_true, Bool.not_false, true_and, and_true, decide_not, Bool.true_bne, Bool.false_bne, Bool.not_not]
        exact mv e
      · rw [if_neg (fun z => z.elim e1 e2)] at e
        simp_arith only [decide_eq_false e2, reduceIte, Bool.false_eq_true, decide_true, decide_false, Bool.not_true, Bool.not_false, true_and, and_true, decide_not, Bool.true_bne, Bool.false_bne, Bool.not_not]
        exact tl T m i2 e
  · rw [if_neg hg] at e
    simp_arith only [hg, reduceIte, Bool.false_eq_true, decide_true, decide_false, Bool.not_true, Bool.not_false, true_and, and_true, decide_not, Bool.true_bne, Bool.false_bne, Bool.not_not]
    simp_arith only [b13_placed_r]
    exact tset i.s0 s1 hT (e ▸ q)
theorem placed_move {h st c g gr : String} {T : List Int} {k : Int} (hn : SizeOk T.length) (hc : ¬ (c = "late" ∨ c = "empty")) (hu : used T < T.length) (q : Q (tabD (.s (placeS h st c T k)))) : m_placed [slotsW h st c g gr, .tuple (intsD T), .int k] Q E := by
  obtain ⟨hn0, hn1⟩ := small hn
  unfold placeS at q
  rw [if_neg hc] at q
  simp_arith only [m_placed_r, b3_placed_r, slotsW, reduceIte, Bool.false_eq_true, decide_true, decide_false, Bool.not_true, Bool.not_false, true_and, and_true, decide_not, Bool.true_bne, Bool.false_bne, Bool.not_not, intsD_len]
  simp [zA,zB,zC,zD,zE,zF,zG,zH,zI,zJ,zK,zL,zM,zN,zO,zP,zQ,zR,zS,zT,zU,zV,zW,zX,zY,zZ,zc,zd,ze,zg,zh,zi,zj,zk,zm,zn,zo,zp,zq,zr,zt,zu,zv,zw,zx,zy,zz,yA,startE,full,fullE,clean,cleanE,yB,yC,yD,yE,yF,yG,yH,yI,yJ,yK,yL,yM,yN,yO,yP,yQ,yR,yS,yT,yU,yV,yW,yX,yY,yZ,ya,yb,yc,yd,ye,yf,yg,yh,yi,yj,yk,yl,ym,yn,yo,yp,yq,yr,yt,yu,yw,Bool.bne_false,Bool.bne_true,yx,yy,yz,xA,xB,xC,xD,xE,xH,xI,xJ,xK,xL,xM,xN,xO,xP,xQ,xR,xS,xT,xU,xV,xW,xX,setAll,wipeR,setV,xY,xZ,xb,xi,xj,xk,xl,xm,xn,xp,xq,xr,xt,xw,List.any_cons,List.any_nil,List.map_cons,List.map_nil,List.length_cons,List.length_nil,List.replicate,Nat.sub_self,List.cons_append,List.nil_append,List.append_nil,List.getElem?_cons_zero,List.getElem?_cons_succ,List.set_cons_zero,List.set_cons_succ,List.set_nil,xy,xz,qA,qB,qC,qD,qE,qF,qG,qH,qI,qJ,qK,qL,qM,qN,qO,qP,qQ,qR,qS,qT,qU,qV,qW,qX,qY,qZ,qc,qe,qf,qg,qh,qi,qj,qk,qm,qn,qo,qp,qr,qt,qu,qv,qw,wA,wB,wC,wD,wE,wF,wG,wH,wI,wJ,wK,wL,wM,wN,wO,wP,wQ,wR,wS]
  simp_arith only [b6_placed_r, reduceIte, Bool.false_eq_true, decide_true, decide_false, Bool.not_true, Bool.not_false, true_and, and_true, decide_not, Bool.true_bne, Bool.false_bne, Bool.not_not]
  have hin : (decide ("late" = c) || (decide ("empty" = c) || false)) = false := by
    have h1 : ¬ "late" = c := fun z => hc (.inl z.symm)
    have h2 : ¬ "empty" = c := fun z => hc (.inr z.symm)
    simp [h1, h2]
  rw [hin]
  simp_arith only [reduceIte, Bool.false_eq_true, decide_true, decide_false, Bool.not_true, Bool.not_false, true_and, and_true, decide_not, Bool.true_bne, Bool.false_bne, Bool.not_not, b7_placed_r]
  refine ⟨by decide, ?_⟩
  show m_home_of [slotsW h st c g gr, _, _] _ _
  refine home_slots hn ?_
  exact shoved (kk := { nx := fun _ => Q .none, rt := Q, ex := E }) (g := g) (gr := gr) hn q T.length _ ⟨T, _, k, none, rfl, ShI.start hn hu, rfl⟩
theorem placed_slots {h st c g gr : String} {T : List Int} {k : Int} (hn : SizeOk T.length) (hu : used T < T.length) (q : Q (tabD (.s (placeS h st c T k)))) : m_placed [slotsW h st c g gr, .tuple (intsD T), .int k] Q E := by
  by_cases hc : c = "late" ∨ c = "empty"
  · exact placed_line hn hc hu q
  · exact placed_move hn hc hu q
theorem anew_slots {h st c g gr : String} {T : List Int} {n : Nat} (hn : SizeOk n) (hl : T.length ≤ 1000) (hu : (once [] (keysS T)).length ≤ n) (q : Q (tabD (.s (anewS h st c T n)))) : m_laid_anew [slotsW h st c g gr, .tuple (intsD T), .int n] Q E := by
  obtain ⟨hn0, hn1⟩ := small hn
  simp_arith only [m_laid_anew_r, b1_laid_anew_r]
  refine begun_slots hn ?_
  simp_arith only [b3_laid_anew_r]
  refine keys_slots hl ?_
  have hkl : (keysS T).length ≤ 1000 := by
    have := List.length_filter_le (fun x : Int => decide (0 ≤ x)) T
    unfold keysS
    omega
  refine once_ok hkl ?_
  simp_arith only
  unfold anewS at q
  generalize e0 : (once [] (keysS T)).foldl (placeS h st c) (List.replicate n (-1)) = res at q
  refine forLoop_mp PyData.int (fun r Γ => ∃ A x, Γ = [some (.val (slotsW h st c g gr)), some (.val (.tuple (intsD T))), some (.val (.int n)), some (.val (tabD (.s A))), x] ∧ A.length = n ∧ used A + r.length ≤ n ∧ r.foldl (placeS h st c) A = res) (fun Γ ⟨A, x, e, _, _, hh⟩ => ?_) _ (fun a r Γ ⟨A, x, e, hA, hu, hh⟩ nx hnx => ?_) _ ⟨List.replicate n (-1), none, by simp, by simp, by rw [used_replicate]; omega, e0⟩
  · subst e
    simp_arith only
    rw [← show A = res from hh] at q
    exact q
  · subst e
    simp only [List.length_cons] at hu
    simp_arith only [b2_laid_anew_r, tabD_s]
    have hs : SizeOk A.length := by rw [hA]; exact hn
    refine placed_slots hs (by omega) ?_
    have p := place_put (h := h) (st := st) (c := c) (k := a) hs (by omega)
    exact hnx _ ⟨_, _, rfl, by rw [p.len]; exact hA, by have := p.used; omega, hh⟩
theorem anew_rows {h c o : String} {R : List (List Int)} {n : Nat} (hn : SizeOk n) (hl : R.flatten.length ≤ 1000) (q : Q (tabD (.r (anewR h c R n)))) : m_laid_anew [rowsW h c o, tabD (.r R), .int n] Q E := by
  obtain ⟨hn0, hn1⟩ := small hn
  simp_arith only [m_laid_anew_r, b1_laid_anew_r]
  refine begun_rows hn ?_
  simp_arith only [b3_laid_anew_r]
  refine keys_rows hl ?_
  refine once_ok hl ?_
  simp_arith only
  unfold anewR at q
  have ol := once_len R.flatten
  have on := once_nodup R.flatten
  generalize once [] R.flatten = L at ol on q
  generalize e0 : L.foldl (placeR h c) (List.replicate n []) = res at q
  refine forLoop_mp PyData.int (fun r Γ => ∃ A x, Γ = [some (.val (rowsW h c o)), some (.val (tabD (.r R))), some (.val (.int n)), some (.val (tabD (.r A))), x] ∧ A.length = n ∧ A.flatten.length + r.length ≤ 1000 ∧ r.foldl (placeR h c) A = res) (fun Γ ⟨A, x, e, _, _, hh⟩ => ?_) _ (fun a r Γ ⟨A, x, e, hA, hu, hh⟩ nx hnx => ?_) _ ⟨List.replicate n [], none, by simp, by simp, by rw [flat_replicate]; simp; omega, e0⟩
  · subst e
    simp_arith only
    rw [← show A = res from hh] at q
    exact q
  · subst e
    simp only [List.length_cons] at hu
    simp_arith only [b2_laid_anew_r]
    have hs : SizeOk A.length := by rw [hA]; exact hn
    obtain ⟨h0, h1⟩ := home_rng (h := h) (k := a) hs
    have rl : ∀ r ∈ A, r.length ≤ A.flatten.length := fun r hr => (List.sublist_flatten_of_mem hr).length_le
    refine placed_rows hs (fun r hr => by have := rl r hr; omega) ?_
    refine hnx _ ⟨_, _, rfl, by unfold placeR; rw [rput_len]; exact hA, ?_, hh⟩
    have := flat_rput (R := A) (r := if c = "front" then a :: rat A (homeOf h a A.length) else rat A (homeOf h a A.length) ++ [a]) h0 h1
    unfold placeR
    have l : (if c = "front" then a :: rat A (homeOf h a A.length) else rat A (homeOf h a A.length) ++ [a]).length = (rat A (homeOf h a A.length)).length + 1 := by split <;> simp
    omega
end
end G6
namespace G6
open PySem PySem.Spec L2 DL TM
section
variable {Q : D → Prop} {E : Str → Prop}
theorem row_le {R : List (List Int)} {r : List Int} (h : r ∈ R) : r.length ≤ R.flatten.length := (List.sublist_flatten_of_mem h).length_le
theorem pulled_ok {h st c g gr : String} {T : List Int} {s : Int} (hn : SizeOk T.length) (hu : used T < T.length) (h0 : 0 ≤ s) (h1 : s < T.length) (hs : ga T s ≠ -1) (q : Q (tabD (.s (pull h st T.length T.length (put T s (-1)) s s)))) : m_pulled [slotsW h st c g gr, .tuple (intsD T), .int s] Q E := by
  obtain ⟨hn0, hn1⟩ := small hn
  simp_arith only [m_pulled_r, b1_pulled_r, intsD_len]
  refine tset h0 h1 (by omega) ?_
  generalize e0 : pull h st T.length T.length (put T s (-1)) s s = res at q
  have i0 := PuI.start (st := st) hn hu h0 h1 hs
  revert i0 e0
  generalize (T.length : Int) = n at hn hn0 hn1
  generalize put T s (-1) = T0
  generalize T.length = f
  intro e0 i0
  refine while_ind (fun f Γ => ∃ T s a x, Γ = [some (.val (slotsW h st c g gr)), some (.val (.tuple (intsD T))), some (.val (.int s)), some (.val (.int n)), some (.val (.int a)), x] ∧ PuI st n f T s a ∧ pull h st n f T s a = res) ?_ f _ ⟨T0, s, s, _, rfl, i0, e0⟩
  rintro f Γ ⟨T, s, a, x, rfl, i, e⟩ nx hnx
  obtain ⟨b0, b1⟩ := nxt_rng (st := st) (s := a) hn0
  have l1 : nxt st a n < T.length := by have := i.len; omega
  have s1 : s < T.length := by have := i.len; have := i.s1; omega
  have hT : T.length ≤ 1000 := by have := i.len; omega
  obtain ⟨f', rfl⟩ := i.free
  rw [pull_turn] at e
  simp_arith only [reduceIte, Bool.false_eq_true, decide_true, decide_false, Bool.not_true, Bool.not_false, true_and, and_true, decide_not, Bool.true_bne, Bool.false_bne, Bool.not_not]
  simp_arith only [b6_pulled_r, b2_pulled_r, slotsW, reduceIte, Bool.false_eq_true, decide_true, decide_false, Bool.not_true, Bool.not_false, true_and, and_true, decide_not, Bool.true_bne, Bool.false_bne, Bool.not_not]
  have tl : ∀ a' : Int, a' = nxt st a n → b3_pulled [some (.val (slotsW h st c g gr)), some (.val (.tuple (intsD T))), some (.val (.int s)), some (.val (.int n)), some (.val (.int a')), x] { nx := fun Γ' => (sSeq (sSet 5 (eOp idxD (eVar 1) (eVar 4))) b5_pulled) Γ' { nx := nx, rt := Q, bk := fun _ => Q .none, ct := nx, ex := E }, rt := Q, bk := fun _ => Q .none, ct := nx, ex := E } := by
    rintro a' rfl
    simp_arith only [b3_pulled_r, tget b0 l1]
    by_cases hg : ga T (nxt st a n) = -1
    · rw [if_pos hg] at e
      simp_arith only [decide_eq_true hg, reduceIte, Bool.false_eq_true, decide_true, decide_false, Bool.not_true, Bool.not_false, true_and, and_true, decide_not, Bool.true_bne, Bool.false_bne, Bool.not_not]
      rw [← e] at q
      exact q
    · rw [if_neg hg] at e
      obtain ⟨f2, e2, i1, i2⟩ := i.step hn0 hg
      have : f2 = f' := by omega
      subst this
      simp_arith only [decide_eq_false hg, reduceIte, Bool.false_eq_true, decide_true, decide_false, Bool.not_true, Bool.not_false, true_and, and_true, decide_not, Bool.true_bne, Bool.false_bne, Bool.not_not, tget b0 l1]
      simp_arith only [b5_pulled_r]
      refine distance_ok hn (distance_ok hn ?_)
      simp_arith only
      by_cases e3 : dist h st (ga T (nxt st a n)) s n ≤ dist h st (ga T (nxt st a n)) (nxt st a n) n
      · rw [if_pos e3] at e
        simp_arith only [decide_eq_true e3, reduceIte, Bool.false_eq_true, decide_true, decide_false, Bool.not_true, Bool.not_false, true_and, and_true, decide_not, Bool.true_bne, Bool.false_bne, Bool.not_not, b4_pulled_r]
        refine tset i.s0 s1 hT ?_
        rw [tabD_s]
        refine tset b0 (by rw [put_len]; exact l1) (by rw [put_len]; exact hT) ?_
        exact hnx f2 _ rfl ⟨_, _, _, _, rfl, i1, e⟩
      · rw [if_neg e3] at e
        simp_arith only [decide_eq_false e3, reduceIte, Bool.false_eq_true, decide_true, decide_false, Bool.not_true, Bool.not_false, true_and, and_true, decide_not, Bool.true_bne, Bool.false_bne, Bool.not_not]
        exact hnx f2 _ rfl ⟨_, _, _, _, rfl, i2, e⟩
  by_cases hu : st = "up"
  · have en : nxt st a n = (a + 1) % n := by unfold nxt; rw [if_pos hu]
    simp_arith only [decide_eq_true hu, reduceIte, Bool.false_eq_true, decide_true, decide_false, Bool.not_true, Bool.not_false, true_and, and_true, decide_not, Bool.true_bne, Bool.false_bne, Bool.not_not]
    exact ⟨hn0, tl _ en.symm⟩
  · have en : nxt st a n = (a - 1) % n := by unfold nxt; rw [if_neg hu]
    simp_arith only [decide_eq_false hu, reduceIte, Bool.false_eq_true, decide_true, decide_false, Bool.not_true, Bool.not_false, true_and, and_true, decide_not, Bool.true_bne, Bool.false_bne, Bool.not_not]
    exact ⟨hn0, tl _ en.symm⟩
theorem removed_slots {h st c g gr : String} {ks T : List Int} {s k : Int} (o : OkS gr ks T) (hg : GrowOk gr) (h0 : 0 ≤ s) (h1 : s < T.length) (hs : ga T s ≠ -1) (q : Q (tabD (.s (removedS h st c g T s)))) : m_removed [slotsW h st c g gr, .tuple (intsD T), .int s, .int k] Q E := by
  obtain ⟨hn0, hn1⟩ := small o.size
  have hl := grow_lt hg o.size
  have hu := o.used
  have hT : T.length ≤ 1000 := by omega
  unfold removedS at q
  simp_arith only [m_removed_r, b2_removed_r, slotsW, reduceIte, Bool.false_eq_true, decide_true, decide_false, Bool.not_true, Bool.not_false, true_and, and_true, decide_not, Bool.true_bne, Bool.false_bne, Bool.not_not]
  simp [zA,zB,zC,zD,zE,zF,zG,zH,zI,zJ,zK,zL,zM,zN,zO,zP,zQ,zR,zS,zT,zU,zV,zW,zX,zY,zZ,zc,zd,ze,zg,zh,zi,zj,zk,zm,zn,zo,zp,zq,zr,zt,zu,zv,zw,zx,zy,zz,yA,startE,full,fullE,clean,cleanE,yB,yC,yD,yE,yF,yG,yH,yI,yJ,yK,yL,yM,yN,yO,yP,yQ,yR,yS,yT,yU,yV,yW,yX,yY,yZ,ya,yb,yc,yd,ye,yf,yg,yh,yi,yj,yk,yl,ym,yn,yo,yp,yq,yr,yt,yu,yw,Bool.bne_false,Bool.bne_true,yx,yy,yz,xA,xB,xC,xD,xE,xH,xI,xJ,xK,xL,xM,xN,xO,xP,xQ,xR,xS,xT,xU,xV,xW,xX,setAll,wipeR,setV,xY,xZ,xb,xi,xj,xk,xl,xm,xn,xp,xq,xr,xt,xw,List.any_cons,List.any_nil,List.map_cons,List.map_nil,List.length_cons,List.length_nil,List.replicate,Nat.sub_self,List.cons_append,List.nil_append,List.append_nil,List.getElem?_cons_zero,List.getElem?_cons_succ,List.set_cons_zero,List.set_cons_succ,List.set_nil,xy,xz,qA,qB,qC,qD,qE,qF,qG,qH,qI,qJ,qK,qL,qM,qN,qO,qP,qQ,qR,qS,qT,qU,qV,qW,qX,qY,qZ,qc,qe,qf,qg,qh,qi,qj,qk,qm,qn,qo,qp,qr,qt,qu,qv,qw,wA,wB,wC,wD,wE,wF,wG,wH,wI,wJ,wK,wL,wM,wN,wO,wP,wQ,wR,wS]
  simp_arith only [b4_removed_r, reduceIte, Bool.false_eq_true, decide_true, decide_false, Bool.not_true, Bool.not_false, true_and, and_true, decide_not, Bool.true_bne, Bool.false_bne, Bool.not_not]
  by_cases e1 : g = "mark"
  · rw [if_pos e1] at q
    simp_arith only [decide_eq_true e1, reduceIte, Bool.false_eq_true, decide_true, decide_false, Bool.not_true, Bool.not_false, true_and, and_true, decide_not, Bool.true_bne, Bool.false_bne, Bool.not_not, b3_removed_r]
    exact tset h0 h1 hT q
  · rw [if_neg e1] at q
    simp_arith only [decide_eq_false e1, reduceIte, Bool.false_eq_true, decide_true, decide_false, Bool.not_true, Bool.not_false, true_and, and_true, decide_not, Bool.true_bne, Bool.false_bne, Bool.not_not, b6_removed_r]
    by_cases e2 : g = "pull"
    · rw [if_pos e2] at q
      simp_arith only [decide_eq_true e2, reduceIte, Bool.false_eq_true, decide_true, decide_false, Bool.not_true, Bool.not_false, true_and, and_true, decide_not, Bool.true_bne, Bool.false_bne, Bool.not_not, b5_removed_r]
      exact pulled_ok (c := c) (g := g) (gr := gr) o.size (by omega) h0 h1 hs q
    · rw [if_neg e2] at q
      simp_arith only [decide_eq_false e2, reduceIte, Bool.false_eq_true, decide_true, decide_false, Bool.not_true, Bool.not_false, true_and, and_true, decide_not, Bool.true_bne, Bool.false_bne, Bool.not_not, b7_removed_r]
      refine tset h0 h1 hT ?_
      simp_arith only [b8_removed_r, tabD_s]
      by_cases e3 : g = "hole"
      · rw [if_pos e3] at q
        simp only [decide_eq_true e3, reduceIte, Bool.false_eq_true, decide_true, decide_false, Bool.not_true, Bool.not_false, true_and, and_true, decide_not, Bool.true_bne, Bool.false_bne, Bool.not_not]
        exact q
      · rw [if_neg e3] at q
        simp only [decide_eq_false e3,reduceIte,Bool.false_eq_true,decide_true,decide_false,Bool.not_true,Bool.not_false,true_and,and_true,decide_not,Bool.true_bne,Bool.false_bne,Bool.not_not,intsD_len,put_len]
        have u := used_put (x := -1) h0 h1
        rw [if_neg hs] at u
        simp at u
        have hm : (once [] (keysS (put T s (-1)))).length ≤ used (put T s (-1)) := Nat.le_trans (once_len _) (keys_le _)
        exact anew_slots (g := g) (gr := gr) o.size (by rw [put_len]; exact hT) (by omega) q
theorem removed_rows {h c o : String} {R : List (List Int)} {s k : Int} (hn : SizeOk R.length) (hl : R.flatten.length ≤ 1000) (h0 : 0 ≤ s) (h1 : s < R.length) (q : Q (tabD (.r (rput R s ((rat R s).filter (· ≠ k)))))) : m_removed [rowsW h c o, tabD (.r R), .int s, .int k] Q E := by
  obtain ⟨hn0, hn1⟩ := small hn
  simp_arith only [m_removed_r, b2_removed_r, rowsW, reduceIte, Bool.false_eq_true, decide_true, decide_false, Bool.not_true, Bool.not_false, true_and, and_true, decide_not, Bool.true_bne, Bool.false_bne, Bool.not_not]
  rw [tabD_r]
  simp_arith only [rget h0 h1, b1_removed_r]
  have := row_le (rat_mem h0 h1)
  refine ⟨by rw [intsD_len]; omega, lcLoop_fm PyData.int (fun x => decide (x ≠ k)) PyData.int (fun a ha kk hk => ?_) ?_⟩
  · simp_arith only
    by_cases e : a = k
    · simpa [e] using hk
    · simpa [e] using hk
  · exact rset h0 h1 (by omega) q
theorem grown_slots {h st c g gr : String} {ks T : List Int} (o : OkS gr ks T) (hg : GrowOk gr) (hk : ks.length ≤ 30) (q : Q (tabD (.s (grownS h st c gr T)))) : m_grown [slotsW h st c g gr, .tuple (intsD T)] Q E := by
  obtain ⟨hn0, hn1⟩ := small o.size
  have hl := grow_lt hg o.size
  have hu := o.used
  have ho := o.once
  have hT : T.length ≤ 1000 := by omega
  have hm : (once [] (keysS T)).length ≤ used T := Nat.le_trans (once_len _) (keys_le T)
  have hkl := keys_le T
  unfold grownS at q
  simp_arith only [m_grown_r, b1_grown_r, intsD_len]
  refine used_slots hT ?_
  simp_arith only
  refine bound_slots o.size hg ?_
  simp_arith only
  by_cases e1 : (used T : Int) + 1 ≤ growOf gr T.length
  · rw [if_pos e1] at q
    simp_arith only [decide_eq_true e1, reduceIte, Bool.false_eq_true, decide_true, decide_false, Bool.not_true, Bool.not_false, true_and, and_true, decide_not, Bool.true_bne, Bool.false_bne, Bool.not_not]
    exact q
  · rw [if_neg e1] at q
    simp_arith only [decide_eq_false e1, reduceIte, Bool.false_eq_true, decide_true, decide_false, Bool.not_true, Bool.not_false, true_and, and_true, decide_not, Bool.true_bne, Bool.false_bne, Bool.not_not, b3_grown_r]
    simp_arith only [slotsW, reduceIte, Bool.false_eq_true, decide_true, decide_false, Bool.not_true, Bool.not_false, true_and, and_true, decide_not, Bool.true_bne, Bool.false_bne, Bool.not_not]
    show m_keys_in [slotsW h st c g gr, _] _ _
    refine keys_slots hT (once_ok (by omega) ?_)
    simp_arith only [intsD_len]
    show m_bound_of [slotsW h st c g gr, _] _ _
    refine bound_slots o.size hg ?_
    simp_arith only
    by_cases e2 : ((once [] (keysS T)).length : Int) + 1 ≤ growOf gr T.length
    · rw [if_pos e2] at q
      simp_arith only [decide_eq_true e2, reduceIte, Bool.false_eq_true, decide_true, decide_false, Bool.not_true, Bool.not_false, true_and, and_true, decide_not, Bool.true_bne, Bool.false_bne, Bool.not_not, b2_grown_r]
      show m_laid_anew [slotsW h st c g gr, _, _] _ _
      exact anew_slots o.size hT (by omega) q
    · rw [if_neg e2] at q
      simp_arith only [decide_eq_false e2, reduceIte, Bool.false_eq_true, decide_true, decide_false, Bool.not_true, Bool.not_false, true_and, and_true, decide_not, Bool.true_bne, Bool.false_bne, Bool.not_not, b4_grown_r]
      refine ⟨cm (by omega), ?_⟩
      have hs : SizeOk ((2 * T.length : Nat) : Int) := by
        have h64 : growOf gr 64 ≥ 32 := by unfold growOf; rcases hg with rfl | rfl | rfl <;> decide
        rcases o.size with z | z | z | z | z
        · exact .inr (.inl (by omega))
        · exact .inr (.inr (.inl (by omega)))
        · exact .inr (.inr (.inr (.inl (by omega))))
        · exact .inr (.inr (.inr (.inr (by omega))))
        · rw [z] at e2
          omega
      have e3 : 2 * (T.length : Int) = ((2 * T.length : Nat) : Int) := by omega
      rw [e3]
      show m_laid_anew [slotsW h st c g gr, _, _] _ _
      exact anew_slots hs hT (by omega) q
theorem grown_rows {h c o : String} {ks : List Int} {R : List (List Int)} (k : OkR h o ks R) (ho : OneOk o) (hk : ks.length ≤ 30) (q : Q (tabD (.r (grownR h c o R)))) : m_grown [rowsW h c o, tabD (.r R)] Q E := by
  obtain ⟨hn0, hn1⟩ := small k.hm.size
  have hl := many_lt ho k.hm.size
  have ht := k.total
  unfold grownR at q
  rw [tabD_r]
  simp_arith only [m_grown_r, b1_grown_r, List.length_map]
  rw [← tabD_r]
  refine used_rows (by omega) ?_
  simp_arith only
  refine bound_rows k.hm.size ?_
  simp_arith only
  by_cases e1 : (R.flatten.length : Int) + 1 ≤ manyOf o R.length
  · rw [if_pos e1] at q
    simp_arith only [decide_eq_true e1, reduceIte, Bool.false_eq_true, decide_true, decide_false, Bool.not_true, Bool.not_false, true_and, and_true, decide_not, Bool.true_bne, Bool.false_bne, Bool.not_not]
    exact q
  · rw [if_neg e1] at q
    simp_arith only [decide_eq_false e1, reduceIte, Bool.false_eq_true, decide_true, decide_false, Bool.not_true, Bool.not_false, true_and, and_true, decide_not, Bool.true_bne, Bool.false_bne, Bool.not_not, b3_grown_r]
    simp_arith only [rowsW, reduceIte, Bool.false_eq_true, decide_true, decide_false, Bool.not_true, Bool.not_false, true_and, and_true, decide_not, Bool.true_bne, Bool.false_bne, Bool.not_not]
    simp [zA,zB,zC,zD,zE,zF,zG,zH,zI,zJ,zK,zL,zM,zN,zO,zP,zQ,zR,zS,zT,zU,zV,zW,zX,zY,zZ,zc,zd,ze,zg,zh,zi,zj,zk,zm,zn,zo,zp,zq,zr,zt,zu,zv,zw,zx,zy,zz,yA,startE,full,fullE,clean,cleanE,yB,yC,yD,yE,yF,yG,yH,yI,yJ,yK,yL,yM,yN,yO,yP,yQ,yR,yS,yT,yU,yV,yW,yX,yY,yZ,ya,yb,yc,yd,ye,yf,yg,yh,yi,yj,yk,yl,ym,yn,yo,yp,yq,yr,yt,yu,yw,Bool.bne_false,Bool.bne_true,yx,yy,yz,xA,xB,xC,xD,xE,xH,xI,xJ,xK,xL,xM,xN,xO,xP,xQ,xR,xS,xT,xU,xV,xW,xX,setAll,wipeR,setV,xY,xZ,xb,xi,xj,xk,xl,xm,xn,xp,xq,xr,xt,xw,List.any_cons,List.any_nil,List.map_cons,List.map_nil,List.length_cons,List.length_nil,List.replicate,Nat.sub_self,List.cons_append,List.nil_append,List.append_nil,List.getElem?_cons_zero,List.getElem?_cons_succ,List.set_cons_zero,List.set_cons_succ,List.set_nil,xy,xz,qA,qB,qC,qD,qE,qF,qG,qH,qI,qJ,qK,qL,qM,qN,qO,qP,qQ,qR,qS,qT,qU,qV,qW,qX,qY,qZ,qc,qe,qf,qg,qh,qi,qj,qk,qm,qn,qo,qp,qr,qt,qu,qv,qw,wA,wB,wC,wD,wE,wF,wG,wH,wI,wJ,wK,wL,wM,wN,wO,wP,wQ,wR,wS]
    simp_arith only [b4_grown_r]
    refine ⟨cm (by omega), ?_⟩
    have hs : SizeOk ((2 * R.length : Nat) : Int) := by
      rcases k.hm.size with z | z | z | z | z
      · exact .inr (.inl (by omega))
      · exact .inr (.inr (.inl (by omega)))
      · exact .inr (.inr (.inr (.inl (by omega))))
      · exact .inr (.inr (.inr (.inr (by omega))))
      · rw [z] at hl e1
        omega
    have e3 : 2 * (R.length : Int) = ((2 * R.length : Nat) : Int) := by omega
    rw [e3]
    show m_laid_anew [rowsW h c o, tabD (.r R), _] _ _
    exact anew_rows hs (by omega) q
def kindS : Deed3 → String
  | .ask => "ask"
  | .put => "put"
  | .take => "take"
abbrev deedD (kd : Deed3) (k : Int) : D := .tuple [.str (Str.ofString (kindS kd)), .int k]
theorem found_ok {w : Way} {ks : List Int} {t : Tab} {k : Int} (o : Ok w ks t) (hl : ks.length ≤ 30) (q : Q (.tuple [optD (found w t k).1, .int (found w t k).2])) : m_found_at [wayD w, tabD t, .int k] Q E := by
  cases w with
  | r h c oo =>
    cases t with
    | s T => exact o.elim
    | r R =>
      have o' : OkR h oo ks R := o
      have := o'.total
      exact found_rows o'.hm.size (fun r hr => by have := row_le hr; omega) q
  | s h st c g gr =>
    cases t with
    | r R => exact o.elim
    | s T =>
      have o' : OkS gr ks T := o
      exact found_slots o'.size q
theorem put_ok {w : Way} {ks : List Int} {t : Tab} {k : Int} (hw : w.Ok) (o : Ok w ks t) (hl : ks.length ≤ 30) (q : Q (tabD (placed w (grown w t) k))) : m_grown [wayD w, tabD t] (fun d => m_placed [wayD w, d, .int k] Q E) E := by
  cases w with
  | r h c oo =>
    cases t with
    | s T => exact o.elim
    | r R =>
      have o' : OkR h oo ks R := o
      obtain ⟨g1, g2, g3⟩ := o'.grown (c := c) hw.2.2 hl
      refine grown_rows o' hw.2.2 hl ?_
      have := g1.total
      exact placed_rows g1.hm.size (fun r hr => by have := row_le hr; omega) q
  | s h st c g gr =>
    cases t with
    | r R => exact o.elim
    | s T =>
      have o' : OkS gr ks T := o
      obtain ⟨g1, g2⟩ := o'.grown (h := h) (st := st) (c := c) hw.2.2.2.2.1 hl
      have := grow_lt hw.2.2.2.2.1 g1.size
      refine grown_slots o' hw.2.2.2.2.1 hl ?_
      exact placed_slots g1.size (by omega) q
theorem take_ok {w : Way} {ks : List Int} {t : Tab} {k s : Int} (hw : w.Ok) (o : Ok w ks t) (hl : ks.length ≤ 30) (hf : (found w t k).1 = some s) (q : Q (tabD (removed w t s k))) : m_removed [wayD w, tabD t, .int s, .int k] Q E := by
  cases w with
  | r h c oo =>
    cases t with
    | s T => exact o.elim
    | r R =>
      have o' : OkR h oo ks R := o
      obtain ⟨h0, h1⟩ := home_rng (h := h) (k := k) o'.hm.size
      have := o'.total
      have e : s = homeOf h k R.length := by
        simp only [found] at hf
        split at hf
        · cases hf
          rfl
        · cases hf
      subst e
      exact removed_rows o'.hm.size (by omega) h0 h1 q
  | s h st c g gr =>
    cases t with
    | r R => exact o.elim
    | s T =>
      have o' : OkS gr ks T := o
      obtain ⟨z1, z2, z3⟩ := (seek_spec T k (pathOf h st k T.length) 0).1 s hf
      obtain ⟨s0, s1⟩ := (path_mem o'.size).mp z1
      exact removed_slots o' hw.2.2.2.2.1 s0 s1 z3 q
theorem done_ok {w : Way} {ks : List Int} {t : Tab} {kd : Deed3} {k : Int} (hw : w.Ok) (o : Ok w ks t) (hl : ks.length ≤ 30) (q : Q (.tuple [tabD (done w t kd k), .bool ((found w t k).1.isSome), .int (found w t k).2])) : m_done [wayD w, tabD t, deedD kd k] Q E := by
  simp_arith only [m_done_r, b1_done_r]
  refine found_ok o hl ?_
  simp_arith only
  unfold done at q
  have fin : ∀ t', Q (.tuple [tabD t', .bool ((found w t k).1.isSome), .int (found w t k).2]) → b6_done [some (.val (wayD w)), some (.val (tabD t')), some (.val (deedD kd k)), some (.val (.str (Str.ofString (kindS kd)))), some (.val (.int k)), some (.val (optD (found w t k).1)), some (.val (.int (found w t k).2))] { nx := fun _ => Q .none, rt := Q, ex := E } := by
    intro t' q'
    simp_arith only [b6_done_r]
    cases e : (found w t k).1 with
    | none =>
      rw [e] at q'
      simp_arith only [optD]
      exact ⟨by decide, q'⟩
    | some s =>
      rw [e] at q'
      simp_arith only [optD]
      exact ⟨by decide, q'⟩
  cases e : (found w t k).1 with
  | none =>
    rw [e] at q fin
    cases kd with
    | ask =>
      simp_arith only [b3_done_r, b5_done_r, kindS, optD]
      simp [zA,zB,zC,zD,zE,zF,zG,zH,zI,zJ,zK,zL,zM,zN,zO,zP,zQ,zR,zS,zT,zU,zV,zW,zX,zY,zZ,zc,zd,ze,zg,zh,zi,zj,zk,zm,zn,zo,zp,zq,zr,zt,zu,zv,zw,zx,zy,zz,yA,startE,full,fullE,clean,cleanE,yB,yC,yD,yE,yF,yG,yH,yI,yJ,yK,yL,yM,yN,yO,yP,yQ,yR,yS,yT,yU,yV,yW,yX,yY,yZ,ya,yb,yc,yd,ye,yf,yg,yh,yi,yj,yk,yl,ym,yn,yo,yp,yq,yr,yt,yu,yw,Bool.bne_false,Bool.bne_true,yx,yy,yz,xA,xB,xC,xD,xE,xH,xI,xJ,xK,xL,xM,xN,xO,xP,xQ,xR,xS,xT,xU,xV,xW,xX,setAll,wipeR,setV,xY,xZ,xb,xi,xj,xk,xl,xm,xn,xp,xq,xr,xt,xw,List.any_cons,List.any_nil,List.map_cons,List.map_nil,List.length_cons,List.length_nil,List.replicate,Nat.sub_self,List.cons_append,List.nil_append,List.append_nil,List.getElem?_cons_zero,List.getElem?_cons_succ,List.set_cons_zero,List.set_cons_succ,List.set_nil,xy,xz,qA,qB,qC,qD,qE,qF,qG,qH,qI,qJ,qK,qL,qM,qN,qO,qP,qQ,qR,qS,qT,qU,qV,qW,qX,qY,qZ,qc,qe,qf,qg,qh,qi,qj,qk,qm,qn,qo,qp,qr,qt,qu,qv,qw,wA,wB,wC,wD,wE,wF,wG,wH,wI,wJ,wK,wL,wM,wN,wO,wP,wQ,wR,wS]
      exact fin t q
    | take =>
      simp_arith only [b3_done_r, b5_done_r, kindS, optD]
      simp [zA,zB,zC,zD,zE,zF,zG,zH,zI,zJ,zK,zL,zM,zN,zO,zP,zQ,zR,zS,zT,zU,zV,zW,zX,zY,zZ,zc,zd,ze,zg,zh,zi,zj,zk,zm,zn,zo,zp,zq,zr,zt,zu,zv,zw,zx,zy,zz,yA,startE,full,fullE,clean,cleanE,yB,yC,yD,yE,yF,yG,yH,yI,yJ,yK,yL,yM,yN,yO,yP,yQ,yR,yS,yT,yU,yV,yW,yX,yY,yZ,ya,yb,yc,yd,ye,yf,yg,yh,yi,yj,yk,yl,ym,yn,yo,yp,yq,yr,yt,yu,yw,Bool.bne_false,Bool.bne_true,yx,yy,yz,xA,xB,xC,xD,xE,xH,xI,xJ,xK,xL,xM,xN,xO,xP,xQ,xR,xS,xT,xU,xV,xW,xX,setAll,wipeR,setV,xY,xZ,xb,xi,xj,xk,xl,xm,xn,xp,xq,xr,xt,xw,List.any_cons,List.any_nil,List.map_cons,List.map_nil,List.length_cons,List.length_nil,List.replicate,Nat.sub_self,List.cons_append,List.nil_append,List.append_nil,List.getElem?_cons_zero,List.getElem?_cons_succ,List.set_cons_zero,List.set_cons_succ,List.set_nil,xy,xz,qA,qB,qC,qD,qE,qF,qG,qH,qI,qJ,qK,qL,qM,qN,qO,qP,qQ,qR,qS,qT,qU,qV,qW,qX,qY,qZ,qc,qe,qf,qg,qh,qi,qj,qk,qm,qn,qo,qp,qr,qt,qu,qv,qw,wA,wB,wC,wD,wE,wF,wG,wH,wI,wJ,wK,wL,wM,wN,wO,wP,wQ,wR,wS]
      exact fin t q
    | put =>
      simp_arith only [b3_done_r, kindS, optD]
      simp [zA,zB,zC,zD,zE,zF,zG,zH,zI,zJ,zK,zL,zM,zN,zO,zP,zQ,zR,zS,zT,zU,zV,zW,zX,zY,zZ,zc,zd,ze,zg,zh,zi,zj,zk,zm,zn,zo,zp,zq,zr,zt,zu,zv,zw,zx,zy,zz,yA,startE,full,fullE,clean,cleanE,yB,yC,yD,yE,yF,yG,yH,yI,yJ,yK,yL,yM,yN,yO,yP,yQ,yR,yS,yT,yU,yV,yW,yX,yY,yZ,ya,yb,yc,yd,ye,yf,yg,yh,yi,yj,yk,yl,ym,yn,yo,yp,yq,yr,yt,yu,yw,Bool.bne_false,Bool.bne_true,yx,yy,yz,xA,xB,xC,xD,xE,xH,xI,xJ,xK,xL,xM,xN,xO,xP,xQ,xR,xS,xT,xU,xV,xW,xX,setAll,wipeR,setV,xY,xZ,xb,xi,xj,xk,xl,xm,xn,xp,xq,xr,xt,xw,List.any_cons,List.any_nil,List.map_cons,List.map_nil,List.length_cons,List.length_nil,List.replicate,Nat.sub_self,List.cons_append,List.nil_append,List.append_nil,List.getElem?_cons_zero,List.getElem?_cons_succ,List.set_cons_zero,List.set_cons_succ,List.set_nil,xy,xz,qA,qB,qC,qD,qE,qF,qG,qH,qI,qJ,qK,qL,qM,qN,qO,qP,qQ,qR,qS,qT,qU,qV,qW,qX,qY,qZ,qc,qe,qf,qg,qh,qi,qj,qk,qm,qn,qo,qp,qr,qt,qu,qv,qw,wA,wB,wC,wD,wE,wF,wG,wH,wI,wJ,wK,wL,wM,wN,wO,wP,wQ,wR,wS]
      simp_arith only [b2_done_r]
      refine put_ok hw o hl ?_
      simp_arith only [b5_done_r, optD]
      simp [zA,zB,zC,zD,zE,zF,zG,zH,zI,zJ,zK,zL,zM,zN,zO,zP,zQ,zR,zS,zT,zU,zV,zW,zX,zY,zZ,zc,zd,ze,zg,zh,zi,zj,zk,zm,zn,zo,zp,zq,zr,zt,zu,zv,zw,zx,zy,zz,yA,startE,full,fullE,clean,cleanE,yB,yC,yD,yE,yF,yG,yH,yI,yJ,yK,yL,yM,yN,yO,yP,yQ,yR,yS,yT,yU,yV,yW,yX,yY,yZ,ya,yb,yc,yd,ye,yf,yg,yh,yi,yj,yk,yl,ym,yn,yo,yp,yq,yr,yt,yu,yw,Bool.bne_false,Bool.bne_true,yx,yy,yz,xA,xB,xC,xD,xE,xH,xI,xJ,xK,xL,xM,xN,xO,xP,xQ,xR,xS,xT,xU,xV,xW,xX,setAll,wipeR,setV,xY,xZ,xb,xi,xj,xk,xl,xm,xn,xp,xq,xr,xt,xw,List.any_cons,List.any_nil,List.map_cons,List.map_nil,List.length_cons,List.length_nil,List.replicate,Nat.sub_self,List.cons_append,List.nil_append,List.append_nil,List.getElem?_cons_zero,List.getElem?_cons_succ,List.set_cons_zero,List.set_cons_succ,List.set_nil,xy,xz,qA,qB,qC,qD,qE,qF,qG,qH,qI,qJ,qK,qL,qM,qN,qO,qP,qQ,qR,qS,qT,qU,qV,qW,qX,qY,qZ,qc,qe,qf,qg,qh,qi,qj,qk,qm,qn,qo,qp,qr,qt,qu,qv,qw,wA,wB,wC,wD,wE,wF,wG,wH,wI,wJ,wK,wL,wM,wN,wO,wP,wQ,wR,wS]
      exact fin _ q
  | some s =>
    rw [e] at q fin
    cases kd with
    | ask =>
      simp_arith only [b3_done_r, b5_done_r, kindS, optD]
      simp [zA,zB,zC,zD,zE,zF,zG,zH,zI,zJ,zK,zL,zM,zN,zO,zP,zQ,zR,zS,zT,zU,zV,zW,zX,zY,zZ,zc,zd,ze,zg,zh,zi,zj,zk,zm,zn,zo,zp,zq,zr,zt,zu,zv,zw,zx,zy,zz,yA,startE,full,fullE,clean,cleanE,yB,yC,yD,yE,yF,yG,yH,yI,yJ,yK,yL,yM,yN,yO,yP,yQ,yR,yS,yT,yU,yV,yW,yX,yY,yZ,ya,yb,yc,yd,ye,yf,yg,yh,yi,yj,yk,yl,ym,yn,yo,yp,yq,yr,yt,yu,yw,Bool.bne_false,Bool.bne_true,yx,yy,yz,xA,xB,xC,xD,xE,xH,xI,xJ,xK,xL,xM,xN,xO,xP,xQ,xR,xS,xT,xU,xV,xW,xX,setAll,wipeR,setV,xY,xZ,xb,xi,xj,xk,xl,xm,xn,xp,xq,xr,xt,xw,List.any_cons,List.any_nil,List.map_cons,List.map_nil,List.length_cons,List.length_nil,List.replicate,Nat.sub_self,List.cons_append,List.nil_append,List.append_nil,List.getElem?_cons_zero,List.getElem?_cons_succ,List.set_cons_zero,List.set_cons_succ,List.set_nil,xy,xz,qA,qB,qC,qD,qE,qF,qG,qH,qI,qJ,qK,qL,qM,qN,qO,qP,qQ,qR,qS,qT,qU,qV,qW,qX,qY,qZ,qc,qe,qf,qg,qh,qi,qj,qk,qm,qn,qo,qp,qr,qt,qu,qv,qw,wA,wB,wC,wD,wE,wF,wG,wH,wI,wJ,wK,wL,wM,wN,wO,wP,wQ,wR,wS]
      exact fin t q
    | put =>
      simp_arith only [b3_done_r, b5_done_r, kindS, optD]
      simp [zA,zB,zC,zD,zE,zF,zG,zH,zI,zJ,zK,zL,zM,zN,zO,zP,zQ,zR,zS,zT,zU,zV,zW,zX,zY,zZ,zc,zd,ze,zg,zh,zi,zj,zk,zm,zn,zo,zp,zq,zr,zt,zu,zv,zw,zx,zy,zz,yA,startE,full,fullE,clean,cleanE,yB,yC,yD,yE,yF,yG,yH,yI,yJ,yK,yL,yM,yN,yO,yP,yQ,yR,yS,yT,yU,yV,yW,yX,yY,yZ,ya,yb,yc,yd,ye,yf,yg,yh,yi,yj,yk,yl,ym,yn,yo,yp,yq,yr,yt,yu,yw,Bool.bne_false,Bool.bne_true,yx,yy,yz,xA,xB,xC,xD,xE,xH,xI,xJ,xK,xL,xM,xN,xO,xP,xQ,xR,xS,xT,xU,xV,xW,xX,setAll,wipeR,setV,xY,xZ,xb,xi,xj,xk,xl,xm,xn,xp,xq,xr,xt,xw,List.any_cons,List.any_nil,List.map_cons,List.map_nil,List.length_cons,List.length_nil,List.replicate,Nat.sub_self,List.cons_append,List.nil_append,List.append_nil,List.getElem?_cons_zero,List.getElem?_cons_succ,List.set_cons_zero,List.set_cons_succ,List.set_nil,xy,xz,qA,qB,qC,qD,qE,qF,qG,qH,qI,qJ,qK,qL,qM,qN,qO,qP,qQ,qR,qS,qT,qU,qV,qW,qX,qY,qZ,qc,qe,qf,qg,qh,qi,qj,qk,qm,qn,qo,qp,qr,qt,qu,qv,qw,wA,wB,wC,wD,wE,wF,wG,wH,wI,wJ,wK,wL,wM,wN,wO,wP,wQ,wR,wS]
      exact fin t q
    | take =>
      simp_arith only [b3_done_r, b5_done_r, kindS, optD]
      simp [zA,zB,zC,zD,zE,zF,zG,zH,zI,zJ,zK,zL,zM,zN,zO,zP,zQ,zR,zS,zT,zU,zV,zW,zX,zY,zZ,zc,zd,ze,zg,zh,zi,zj,zk,zm,zn,zo,zp,zq,zr,zt,zu,zv,zw,zx,zy,zz,yA,startE,full,fullE,clean,cleanE,yB,yC,yD,yE,yF,yG,yH,yI,yJ,yK,yL,yM,yN,yO,yP,yQ,yR,yS,yT,yU,yV,yW,yX,yY,yZ,ya,yb,yc,yd,ye,yf,yg,yh,yi,yj,yk,yl,ym,yn,yo,yp,yq,yr,yt,yu,yw,Bool.bne_false,Bool.bne_true,yx,yy,yz,xA,xB,xC,xD,xE,xH,xI,xJ,xK,xL,xM,xN,xO,xP,xQ,xR,xS,xT,xU,xV,xW,xX,setAll,wipeR,setV,xY,xZ,xb,xi,xj,xk,xl,xm,xn,xp,xq,xr,xt,xw,List.any_cons,List.any_nil,List.map_cons,List.map_nil,List.length_cons,List.length_nil,List.replicate,Nat.sub_self,List.cons_append,List.nil_append,List.append_nil,List.getElem?_cons_zero,List.getElem?_cons_succ,List.set_cons_zero,List.set_cons_succ,List.set_nil,xy,xz,qA,qB,qC,qD,qE,qF,qG,qH,qI,qJ,qK,qL,qM,qN,qO,qP,qQ,qR,qS,qT,qU,qV,qW,qX,qY,qZ,qc,qe,qf,qg,qh,qi,qj,qk,qm,qn,qo,qp,qr,qt,qu,qv,qw,wA,wB,wC,wD,wE,wF,wG,wH,wI,wJ,wK,wL,wM,wN,wO,wP,wQ,wR,wS]
      simp_arith only [b4_done_r]
      refine take_ok hw o hl e ?_
      exact fin _ q
end
end G6
namespace G6
open PySem PySem.Spec L2 DL TM
abbrev pD (p : Deed3 × Int) : D := deedD p.1 p.2
def rowD (r : RowT) : D := .tuple (r.map pD)
def SightOk (x : String) : Prop := x = "both" ∨ x = "looks" ∨ x = "order"
def seeD (x : String) (t : Tab) (l : Int) : D := if x = "looks" then .int l else if x = "order" then .tuple (intsD (order t)) else .tuple [.int l, .tuple (intsD (order t))]
theorem bools_true {α : Type} (l : List α) : boolsD (l.map fun _ => PyData.bool true) = some (l.map fun _ => true) := by
  induction l with
  | nil => rfl
  | cons a r ih =>
    rw [List.map_cons, List.map_cons]
    unfold boolsD
    rw [ih]
    rfl
section
variable {Q : D → Prop} {E : Str → Prop}
theorem last_at {l : List D} {x : D} (h : l.getLast? = some x) : atI l (-1) = some x := by
  have hn : l ≠ [] := fun z => by rw [z] at h; cases h
  have hl : 0 < l.length := List.length_pos_iff.mpr hn
  unfold atI ixN
  rw [if_neg (by omega)]
  have e : (-1 + (l.length : Int)).toNat = l.length - 1 := by omega
  rw [List.getLast?_eq_getElem?] at h
  rw [if_pos (by omega), e]
  exact h
theorem deed_ok {kd : Deed3} {k : Int} (hk : KeyOk k) (q : Q (.bool true)) : m_is_deed [deedD kd k] Q E := by
  obtain ⟨h0, h1⟩ := hk
  simp_arith only [b1_is_deed_r, m_is_deed_r]
  simp [zA,zB,zC,zD,zE,zF,zG,zH,zI,zJ,zK,zL,zM,zN,zO,zP,zQ,zR,zS,zT,zU,zV,zW,zX,zY,zZ,zc,zd,ze,zg,zh,zi,zj,zk,zm,zn,zo,zp,zq,zr,zt,zu,zv,zw,zx,zy,zz,yA,startE,full,fullE,clean,cleanE,yB,yC,yD,yE,yF,yG,yH,yI,yJ,yK,yL,yM,yN,yO,yP,yQ,yR,yS,yT,yU,yV,yW,yX,yY,yZ,ya,yb,yc,yd,ye,yf,yg,yh,yi,yj,yk,yl,ym,yn,yo,yp,yq,yr,yt,yu,yw,Bool.bne_false,Bool.bne_true,yx,yy,yz,xA,xB,xC,xD,xE,xH,xI,xJ,xK,xL,xM,xN,xO,xP,xQ,xR,xS,xT,xU,xV,xW,xX,setAll,wipeR,setV,xY,xZ,xb,xi,xj,xk,xl,xm,xn,xp,xq,xr,xt,xw,List.any_cons,List.any_nil,List.map_cons,List.map_nil,List.length_cons,List.length_nil,List.replicate,Nat.sub_self,List.cons_append,List.nil_append,List.append_nil,List.getElem?_cons_zero,List.getElem?_cons_succ,List.set_cons_zero,List.set_cons_succ,List.set_nil,xy,xz,qA,qB,qC,qD,qE,qF,qG,qH,qI,qJ,qK,qL,qM,qN,qO,qP,qQ,qR,qS,qT,qU,qV,qW,qX,qY,qZ,qc,qe,qf,qg,qh,qi,qj,qk,qm,qn,qo,qp,qr,qt,qu,qv,qw,wA,wB,wC,wD,wE,wF,wG,wH,wI,wJ,wK,wL,wM,wN,wO,wP,wQ,wR,wS]
  simp_arith only [b1_is_word_r, m_is_word_r, c_KINDS]
  cases kd with
  | ask =>
    simp [kindS,zA,zB,zC,zD,zE,zF,zG,zH,zI,zJ,zK,zL,zM,zN,zO,zP,zQ,zR,zS,zT,zU,zV,zW,zX,zY,zZ,zc,zd,ze,zg,zh,zi,zj,zk,zm,zn,zo,zp,zq,zr,zt,zu,zv,zw,zx,zy,zz,yA,startE,full,fullE,clean,cleanE,yB,yC,yD,yE,yF,yG,yH,yI,yJ,yK,yL,yM,yN,yO,yP,yQ,yR,yS,yT,yU,yV,yW,yX,yY,yZ,ya,yb,yc,yd,ye,yf,yg,yh,yi,yj,yk,yl,ym,yn,yo,yp,yq,yr,yt,yu,yw,Bool.bne_false,Bool.bne_true,yx,yy,yz,xA,xB,xC,xD,xE,xH,xI,xJ,xK,xL,xM,xN,xO,xP,xQ,xR,xS,xT,xU,xV,xW,xX,setAll,wipeR,setV,xY,xZ,xb,xi,xj,xk,xl,xm,xn,xp,xq,xr,xt,xw,List.any_cons,List.any_nil,List.map_cons,List.map_nil,List.length_cons,List.length_nil,List.replicate,Nat.sub_self,List.cons_append,List.nil_append,List.append_nil,List.getElem?_cons_zero,List.getElem?_cons_succ,List.set_cons_zero,List.set_cons_succ,List.set_nil,xy,xz,qA,qB,qC,qD,qE,qF,qG,qH,qI,qJ,qK,qL,qM,qN,qO,qP,qQ,qR,qS,qT,qU,qV,qW,qX,qY,qZ,qc,qe,qf,qg,qh,qi,qj,qk,qm,qn,qo,qp,qr,qt,qu,qv,qw,wA,wB,wC,wD,wE,wF,wG,wH,wI,wJ,wK,wL,wM,wN,wO,wP,wQ,wR,wS]
    simp_arith only [b1_is_key_r, m_is_key_r]
    refine between_ok ?_
    simpa [h0, h1] using q
  | put =>
    simp [kindS,zA,zB,zC,zD,zE,zF,zG,zH,zI,zJ,zK,zL,zM,zN,zO,zP,zQ,zR,zS,zT,zU,zV,zW,zX,zY,zZ,zc,zd,ze,zg,zh,zi,zj,zk,zm,zn,zo,zp,zq,zr,zt,zu,zv,zw,zx,zy,zz,yA,startE,full,fullE,clean,cleanE,yB,yC,yD,yE,yF,yG,yH,yI,yJ,yK,yL,yM,yN,yO,yP,yQ,yR,yS,yT,yU,yV,yW,yX,yY,yZ,ya,yb,yc,yd,ye,yf,yg,yh,yi,yj,yk,yl,ym,yn,yo,yp,yq,yr,yt,yu,yw,Bool.bne_false,Bool.bne_true,yx,yy,yz,xA,xB,xC,xD,xE,xH,xI,xJ,xK,xL,xM,xN,xO,xP,xQ,xR,xS,xT,xU,xV,xW,xX,setAll,wipeR,setV,xY,xZ,xb,xi,xj,xk,xl,xm,xn,xp,xq,xr,xt,xw,List.any_cons,List.any_nil,List.map_cons,List.map_nil,List.length_cons,List.length_nil,List.replicate,Nat.sub_self,List.cons_append,List.nil_append,List.append_nil,List.getElem?_cons_zero,List.getElem?_cons_succ,List.set_cons_zero,List.set_cons_succ,List.set_nil,xy,xz,qA,qB,qC,qD,qE,qF,qG,qH,qI,qJ,qK,qL,qM,qN,qO,qP,qQ,qR,qS,qT,qU,qV,qW,qX,qY,qZ,qc,qe,qf,qg,qh,qi,qj,qk,qm,qn,qo,qp,qr,qt,qu,qv,qw,wA,wB,wC,wD,wE,wF,wG,wH,wI,wJ,wK,wL,wM,wN,wO,wP,wQ,wR,wS]
    simp_arith only [b1_is_key_r, m_is_key_r]
    refine between_ok ?_
    simpa [h0, h1] using q
  | take =>
    simp [kindS,zA,zB,zC,zD,zE,zF,zG,zH,zI,zJ,zK,zL,zM,zN,zO,zP,zQ,zR,zS,zT,zU,zV,zW,zX,zY,zZ,zc,zd,ze,zg,zh,zi,zj,zk,zm,zn,zo,zp,zq,zr,zt,zu,zv,zw,zx,zy,zz,yA,startE,full,fullE,clean,cleanE,yB,yC,yD,yE,yF,yG,yH,yI,yJ,yK,yL,yM,yN,yO,yP,yQ,yR,yS,yT,yU,yV,yW,yX,yY,yZ,ya,yb,yc,yd,ye,yf,yg,yh,yi,yj,yk,yl,ym,yn,yo,yp,yq,yr,yt,yu,yw,Bool.bne_false,Bool.bne_true,yx,yy,yz,xA,xB,xC,xD,xE,xH,xI,xJ,xK,xL,xM,xN,xO,xP,xQ,xR,xS,xT,xU,xV,xW,xX,setAll,wipeR,setV,xY,xZ,xb,xi,xj,xk,xl,xm,xn,xp,xq,xr,xt,xw,List.any_cons,List.any_nil,List.map_cons,List.map_nil,List.length_cons,List.length_nil,List.replicate,Nat.sub_self,List.cons_append,List.nil_append,List.append_nil,List.getElem?_cons_zero,List.getElem?_cons_succ,List.set_cons_zero,List.set_cons_succ,List.set_nil,xy,xz,qA,qB,qC,qD,qE,qF,qG,qH,qI,qJ,qK,qL,qM,qN,qO,qP,qQ,qR,qS,qT,qU,qV,qW,qX,qY,qZ,qc,qe,qf,qg,qh,qi,qj,qk,qm,qn,qo,qp,qr,qt,qu,qv,qw,wA,wB,wC,wD,wE,wF,wG,wH,wI,wJ,wK,wL,wM,wN,wO,wP,wQ,wR,wS]
    simp_arith only [b1_is_key_r, m_is_key_r]
    refine between_ok ?_
    simpa [h0, h1] using q
theorem check_row_ok {ks : List Int} {r : RowT} (hr : RowOk ks r) (q : Q .none) : m_check_row [rowD r] Q E := by
  have hl := hr.len
  simp_arith only [b1_check_row_r, m_check_row_r, b1_is_row_r, m_is_row_r, rowD]
  simp_arith only [List.length_map]
  have h24 : ((r.length : Nat) : Int) ≤ 24 := by omega
  simp_arith only [decide_eq_true h24, reduceIte, Bool.false_eq_true, decide_true, decide_false, Bool.not_true, Bool.not_false, true_and, and_true, decide_not, Bool.true_bne, Bool.false_bne, Bool.not_not]
  refine ⟨by omega, lcLoop_mp pD (fun _ => PyData.bool true) (fun a ha kk hk => ?_) ?_⟩
  · simp_arith only [reduceIte, Bool.false_eq_true, decide_true, decide_false, Bool.not_true, Bool.not_false, true_and, and_true, decide_not, Bool.true_bne, Bool.false_bne, Bool.not_not]
    exact deed_ok (hr.keys a ha).1 hk
  · simp_arith only [bools_true]
    simp_arith only [List.all_map]
    have : (r.all (id ∘ fun _ => true)) = true := by simp
    rw [this]
    simpa [zA,zB,zC,zD,zE,zF,zG,zH,zI,zJ,zK,zL,zM,zN,zO,zP,zQ,zR,zS,zT,zU,zV,zW,zX,zY,zZ,zc,zd,ze,zg,zh,zi,zj,zk,zm,zn,zo,zp,zq,zr,zt,zu,zv,zw,zx,zy,zz,yA,startE,full,fullE,clean,cleanE,yB,yC,yD,yE,yF,yG,yH,yI,yJ,yK,yL,yM,yN,yO,yP,yQ,yR,yS,yT,yU,yV,yW,yX,yY,yZ,ya,yb,yc,yd,ye,yf,yg,yh,yi,yj,yk,yl,ym,yn,yo,yp,yq,yr,yt,yu,yw,Bool.bne_false,Bool.bne_true,yx,yy,yz,xA,xB,xC,xD,xE,xH,xI,xJ,xK,xL,xM,xN,xO,xP,xQ,xR,xS,xT,xU,xV,xW,xX,setAll,wipeR,setV,xY,xZ,xb,xi,xj,xk,xl,xm,xn,xp,xq,xr,xt,xw,List.any_cons,List.any_nil,List.map_cons,List.map_nil,List.length_cons,List.length_nil,List.replicate,Nat.sub_self,List.cons_append,List.nil_append,List.append_nil,List.getElem?_cons_zero,List.getElem?_cons_succ,List.set_cons_zero,List.set_cons_succ,List.set_nil,xy,xz,qA,qB,qC,qD,qE,qF,qG,qH,qI,qJ,qK,qL,qM,qN,qO,qP,qQ,qR,qS,qT,qU,qV,qW,qX,qY,qZ,qc,qe,qf,qg,qh,qi,qj,qk,qm,qn,qo,qp,qr,qt,qu,qv,qw,wA,wB,wC,wD,wE,wF,wG,wH,wI,wJ,wK,wL,wM,wN,wO,wP,wQ,wR,wS] using q
theorem check_sight_ok {x : String} (h : SightOk x) (q : Q .none) : m_check_sight [.str (Str.ofString x)] Q E := by
  simp_arith only [b1_check_sight_r, m_check_sight_r, b1_is_word_r, m_is_word_r, c_SIGHTS]
  rcases h with rfl | rfl | rfl <;> simpa [zA,zB,zC,zD,zE,zF,zG,zH,zI,zJ,zK,zL,zM,zN,zO,zP,zQ,zR,zS,zT,zU,zV,zW,zX,zY,zZ,zc,zd,ze,zg,zh,zi,zj,zk,zm,zn,zo,zp,zq,zr,zt,zu,zv,zw,zx,zy,zz,yA,startE,full,fullE,clean,cleanE,yB,yC,yD,yE,yF,yG,yH,yI,yJ,yK,yL,yM,yN,yO,yP,yQ,yR,yS,yT,yU,yV,yW,yX,yY,yZ,ya,yb,yc,yd,ye,yf,yg,yh,yi,yj,yk,yl,ym,yn,yo,yp,yq,yr,yt,yu,yw,Bool.bne_false,Bool.bne_true,yx,yy,yz,xA,xB,xC,xD,xE,xH,xI,xJ,xK,xL,xM,xN,xO,xP,xQ,xR,xS,xT,xU,xV,xW,xX,setAll,wipeR,setV,xY,xZ,xb,xi,xj,xk,xl,xm,xn,xp,xq,xr,xt,xw,List.any_cons,List.any_nil,List.map_cons,List.map_nil,List.length_cons,List.length_nil,List.replicate,Nat.sub_self,List.cons_append,List.nil_append,List.append_nil,List.getElem?_cons_zero,List.getElem?_cons_succ,List.set_cons_zero,List.set_cons_succ,List.set_nil,xy,xz,qA,qB,qC,qD,qE,qF,qG,qH,qI,qJ,qK,qL,qM,qN,qO,qP,qQ,qR,qS,qT,qU,qV,qW,qX,qY,qZ,qc,qe,qf,qg,qh,qi,qj,qk,qm,qn,qo,qp,qr,qt,qu,qv,qw,wA,wB,wC,wD,wE,wF,wG,wH,wI,wJ,wK,wL,wM,wN,wO,wP,wQ,wR,wS] using q
theorem order_ok {w : Way} {ks : List Int} {t : Tab} (o : Ok w ks t) (hl : ks.length ≤ 30) (q : Q (.tuple (intsD (order t)))) : m_order_in [wayD w, tabD t] Q E := by
  cases w with
  | r h c oo =>
    cases t with
    | s T => exact o.elim
    | r R =>
      have o' : OkR h oo ks R := o
      have := o'.total
      exact order_rows (by omega) q
  | s h st c g gr =>
    cases t with
    | r R => exact o.elim
    | s T =>
      have o' : OkS gr ks T := o
      obtain ⟨n0, n1⟩ := small o'.size
      exact order_slots (by omega) q
theorem seen_ok {w : Way} {ks : List Int} {t : Tab} {l : Int} {x : String} (o : Ok w ks t) (hl : ks.length ≤ 30) (hx : SightOk x) (q : Q (seeD x t l)) : m_seen_of [wayD w, tabD t, .int l, .str (Str.ofString x)] Q E := by
  unfold seeD at q
  simp_arith only [b1_seen_of_r, b2_seen_of_r, m_seen_of_r]
  rcases hx with rfl | rfl | rfl
  · simp [zA,zB,zC,zD,zE,zF,zG,zH,zI,zJ,zK,zL,zM,zN,zO,zP,zQ,zR,zS,zT,zU,zV,zW,zX,zY,zZ,zc,zd,ze,zg,zh,zi,zj,zk,zm,zn,zo,zp,zq,zr,zt,zu,zv,zw,zx,zy,zz,yA,startE,full,fullE,clean,cleanE,yB,yC,yD,yE,yF,yG,yH,yI,yJ,yK,yL,yM,yN,yO,yP,yQ,yR,yS,yT,yU,yV,yW,yX,yY,yZ,ya,yb,yc,yd,ye,yf,yg,yh,yi,yj,yk,yl,ym,yn,yo,yp,yq,yr,yt,yu,yw,Bool.bne_false,Bool.bne_true,yx,yy,yz,xA,xB,xC,xD,xE,xH,xI,xJ,xK,xL,xM,xN,xO,xP,xQ,xR,xS,xT,xU,xV,xW,xX,setAll,wipeR,setV,xY,xZ,xb,xi,xj,xk,xl,xm,xn,xp,xq,xr,xt,xw,List.any_cons,List.any_nil,List.map_cons,List.map_nil,List.length_cons,List.length_nil,List.replicate,Nat.sub_self,List.cons_append,List.nil_append,List.append_nil,List.getElem?_cons_zero,List.getElem?_cons_succ,List.set_cons_zero,List.set_cons_succ,List.set_nil,xy,xz,qA,qB,qC,qD,qE,qF,qG,qH,qI,qJ,qK,qL,qM,qN,qO,qP,qQ,qR,qS,qT,qU,qV,qW,qX,qY,qZ,qc,qe,qf,qg,qh,qi,qj,qk,qm,qn,qo,qp,qr,qt,qu,qv,qw,wA,wB,wC,wD,wE,wF,wG,wH,wI,wJ,wK,wL,wM,wN,wO,wP,wQ,wR,wS]
    refine order_ok o hl ?_
    simpa using q
  · simpa [zA,zB,zC,zD,zE,zF,zG,zH,zI,zJ,zK,zL,zM,zN,zO,zP,zQ,zR,zS,zT,zU,zV,zW,zX,zY,zZ,zc,zd,ze,zg,zh,zi,zj,zk,zm,zn,zo,zp,zq,zr,zt,zu,zv,zw,zx,zy,zz,yA,startE,full,fullE,clean,cleanE,yB,yC,yD,yE,yF,yG,yH,yI,yJ,yK,yL,yM,yN,yO,yP,yQ,yR,yS,yT,yU,yV,yW,yX,yY,yZ,ya,yb,yc,yd,ye,yf,yg,yh,yi,yj,yk,yl,ym,yn,yo,yp,yq,yr,yt,yu,yw,Bool.bne_false,Bool.bne_true,yx,yy,yz,xA,xB,xC,xD,xE,xH,xI,xJ,xK,xL,xM,xN,xO,xP,xQ,xR,xS,xT,xU,xV,xW,xX,setAll,wipeR,setV,xY,xZ,xb,xi,xj,xk,xl,xm,xn,xp,xq,xr,xt,xw,List.any_cons,List.any_nil,List.map_cons,List.map_nil,List.length_cons,List.length_nil,List.replicate,Nat.sub_self,List.cons_append,List.nil_append,List.append_nil,List.getElem?_cons_zero,List.getElem?_cons_succ,List.set_cons_zero,List.set_cons_succ,List.set_nil,xy,xz,qA,qB,qC,qD,qE,qF,qG,qH,qI,qJ,qK,qL,qM,qN,qO,qP,qQ,qR,qS,qT,qU,qV,qW,qX,qY,qZ,qc,qe,qf,qg,qh,qi,qj,qk,qm,qn,qo,qp,qr,qt,qu,qv,qw,wA,wB,wC,wD,wE,wF,wG,wH,wI,wJ,wK,wL,wM,wN,wO,wP,wQ,wR,wS] using q
  · simp [zA,zB,zC,zD,zE,zF,zG,zH,zI,zJ,zK,zL,zM,zN,zO,zP,zQ,zR,zS,zT,zU,zV,zW,zX,zY,zZ,zc,zd,ze,zg,zh,zi,zj,zk,zm,zn,zo,zp,zq,zr,zt,zu,zv,zw,zx,zy,zz,yA,startE,full,fullE,clean,cleanE,yB,yC,yD,yE,yF,yG,yH,yI,yJ,yK,yL,yM,yN,yO,yP,yQ,yR,yS,yT,yU,yV,yW,yX,yY,yZ,ya,yb,yc,yd,ye,yf,yg,yh,yi,yj,yk,yl,ym,yn,yo,yp,yq,yr,yt,yu,yw,Bool.bne_false,Bool.bne_true,yx,yy,yz,xA,xB,xC,xD,xE,xH,xI,xJ,xK,xL,xM,xN,xO,xP,xQ,xR,xS,xT,xU,xV,xW,xX,setAll,wipeR,setV,xY,xZ,xb,xi,xj,xk,xl,xm,xn,xp,xq,xr,xt,xw,List.any_cons,List.any_nil,List.map_cons,List.map_nil,List.length_cons,List.length_nil,List.replicate,Nat.sub_self,List.cons_append,List.nil_append,List.append_nil,List.getElem?_cons_zero,List.getElem?_cons_succ,List.set_cons_zero,List.set_cons_succ,List.set_nil,xy,xz,qA,qB,qC,qD,qE,qF,qG,qH,qI,qJ,qK,qL,qM,qN,qO,qP,qQ,qR,qS,qT,qU,qV,qW,qX,qY,qZ,qc,qe,qf,qg,qh,qi,qj,qk,qm,qn,qo,qp,qr,qt,qu,qv,qw,wA,wB,wC,wD,wE,wF,wG,wH,wI,wJ,wK,wL,wM,wN,wO,wP,wQ,wR,wS]
    refine order_ok o hl ?_
    simpa using q
theorem pure_rows (R : List (List Int)) : pureD.pureAll (R.map fun r => PyData.tuple (intsD r)) = true := by
  induction R with
  | nil => rfl
  | cons r R ih =>
    rw [List.map_cons, wI, wH, pure_ints, ih]
    rfl
theorem pure_tab (t : Tab) : pureD (tabD t) = true := by
  cases t with
  | r R => exact pure_rows R
  | s T => exact pure_ints T
theorem begun_ok {w : Way} (q : Q (tabD (begun w))) : m_begun [wayD w, .int 4] Q E := by
  cases w with
  | r h c o => exact begun_rows (.inl rfl) q
  | s h st c g gr => exact begun_slots (.inl rfl) q
abbrev toldD (x : Tab × Bool × Int) : D := .tuple [.bool x.2.1, .int x.2.2]
theorem work_ok {w : Way} {ks : List Int} {r : RowT} (hw : w.Ok) (hl : ks.length ≤ 30) (hr : RowOk ks r) (q : Q (.tuple [.list ((begun w :: (hist w (begun w) r).map (·.1)).map tabD), .list ((hist w (begun w) r).map toldD)])) : m_work [wayD w, rowD r] Q E := by
  have h24 := hr.len
  simp_arith only [m_work_r, b1_work_r]
  refine begun_ok ?_
  simp_arith only [rowD]
  refine ⟨by decide, by decide, ?_⟩
  refine forLoop_mp pD (fun r' Γ => ∃ t A B x y z u, Γ = [some (.val (wayD w)), some (.val (.tuple (r.map pD))), x, some (.own (.lst (A.map tabD))), some (.own (.lst (B.map toldD))), y, z, u] ∧ A.getLast? = some t ∧ Ok w ks t ∧ (∀ p ∈ r', KeyOk p.2 ∧ p.2 ∈ ks) ∧ A.length + r'.length ≤ 25 ∧ B.length + r'.length ≤ 24 ∧ A ++ (hist w t r').map (·.1) = begun w :: (hist w (begun w) r).map (·.1) ∧ B ++ hist w t r' = hist w (begun w) r)
    (fun Γ ⟨t, A, B, x, y, z, u, e, _, _, _, _, _, h1, h2⟩ => ?_) r (fun p r' Γ ⟨t, A, B, x, y, z, u, e, ha, o, hk, l1, l2, h1, h2⟩ nx hnx => ?_) _ ⟨begun w, [begun w], [], none, none, none, none, rfl, rfl, Ok.begun hw ks, hr.keys, by simp; omega, by simpa using h24, rfl, rfl⟩
  · subst e
    simp only [hist, List.map_nil, List.append_nil] at h1 h2
    simp_arith only
    rw [h1, h2]
    exact ⟨by decide, q⟩
  · subst e
    simp only [List.length_cons] at l1 l2
    have hp := hk p List.mem_cons_self
    simp_arith only [b3_work_r, b2_work_r]
    have la : (A.map tabD).getLast? = some (tabD t) := by rw [List.getLast?_map, ha]; rfl
    rw [last_at la]
    simp_arith only
    refine done_ok hw o hl ?_
    simp_arith only [pure_tab, reduceIte, Bool.false_eq_true, decide_true, decide_false, Bool.not_true, Bool.not_false, true_and, and_true, decide_not, Bool.true_bne, Bool.false_bne, Bool.not_not]
    refine ⟨by simp, by rw [List.length_map]; omega, by simp, by rw [List.length_map]; omega, ?_⟩
    have eG : ∀ a b : List D, a = (A ++ [done w t p.1 p.2]).map tabD → b = (B ++ [(done w t p.1 p.2, (found w t p.2).1.isSome, (found w t p.2).2)]).map toldD → ∀ x y z u, [some (Ent.val (wayD w)), some (.val (.tuple (r.map pD))), x, some (.own (.lst a)), some (.own (.lst b)), y, z, u] = [some (Ent.val (wayD w)), some (.val (.tuple (r.map pD))), x, some (.own (.lst ((A ++ [done w t p.1 p.2]).map tabD))), some (.own (.lst ((B ++ [(done w t p.1 p.2, (found w t p.2).1.isSome, (found w t p.2).2)]).map toldD))), y, z, u] := by
      rintro a b rfl rfl x y z u
      rfl
    refine hnx _ ⟨done w t p.1 p.2, A ++ [done w t p.1 p.2], B ++ [(done w t p.1 p.2, (found w t p.2).1.isSome, (found w t p.2).2)], _, _, _, _, eG _ _ (by simp) (by simp) _ _ _ _, by simp, o.done hw hp.1 hp.2 hl, fun s hs => hk s (List.mem_cons_of_mem _ hs), by simp; omega, by simp; omega, ?_, ?_⟩
    · rw [← h1]
      simp [hist]
    · rw [← h2]
      simp [hist]
theorem zip_map2 {α β γ : Type} (l : List α) (f : α → β) (g : α → γ) : (l.map f).zip (l.map g) = l.map fun x => (f x, g x) := by
  induction l with
  | nil => rfl
  | cons a r ih => simp [ih]
theorem run_ok {w : Way} {ks : List Int} {r : RowT} {x : String} (hw : w.Ok) (hl : ks.length ≤ 30) (hr : RowOk ks r) (hx : SightOk x) (q : Q (.tuple ((hist w (begun w) r).map fun z => seeD x z.1 z.2.2))) : m_run [wayD w, rowD r, .str (Str.ofString x)] Q E := by
  have h24 := hr.len
  have hlen := hist_len w (begun w) r
  have oh := Ok.hist hw hl (Ok.begun hw ks) hr.keys
  simp_arith only [b1_run_r, m_run_r]
  refine check_way_ok hw (check_row_ok hr (check_sight_ok hx ?_))
  simp_arith only [m_seen_along_r, b1_seen_along_r]
  refine work_ok hw hl hr ?_
  simp_arith only [b2_seen_along_r]
  rw [cut_from _ (by decide)]
  simp only [Int.toNat_one, List.map_cons, List.drop_succ_cons, List.drop_zero, List.map_map]
  rw [zip_map2, List.map_map]
  refine ⟨by rw [List.length_map]; omega, ?_⟩
  generalize hist w (begun w) r = l at q oh
  refine lcLoop_mp _ (fun z => seeD x z.1 z.2.2) (fun a ha kk hk => ?_) q
  simp_arith only [Function.comp]
  simp_arith only [reduceIte, Bool.false_eq_true, decide_true, decide_false, Bool.not_true, Bool.not_false, true_and, and_true, decide_not, Bool.true_bne, Bool.false_bne, Bool.not_not]
  exact seen_ok (oh a ha) hl hx hk
end
end G6
namespace G6
open PySem PySem.Spec L2 DL TM
section
variable {Q : D → Prop} {E : Str → Prop}
theorem way_drawn (q : ∀ w : Way, w.Ok → Q (wayD w)) : m__law_way [sD, tD] Q E := by
  simp_arith only [m__law_way_r]
  simp [b1__law_way_r,zA,zB,zC,zD,zE,zF,zG,zH,zI,zJ,zK,zL,zM,zN,zO,zP,zQ,zR,zS,zT,zU,zV,zW,zX,zY,zZ,zc,zd,ze,zg,zh,zi,zj,zk,zm,zn,zo,zp,zq,zr,zt,zu,zv,zw,zx,zy,zz,yA,startE,full,fullE,clean,cleanE,yB,yC,yD,yE,yF,yG,yH,yI,yJ,yK,yL,yM,yN,yO,yP,yQ,yR,yS,yT,yU,yV,yW,yX,yY,yZ,ya,yb,yc,yd,ye,yf,yg,yh,yi,yj,yk,yl,ym,yn,yo,yp,yq,yr,yt,yu,yw,Bool.bne_false,Bool.bne_true,yx,yy,yz,xA,xB,xC,xD,xE,xH,xI,xJ,xK,xL,xM,xN,xO,xP,xQ,xR,xS,xT,xU,xV,xW,xX,setAll,wipeR,setV,xY,xZ,xb,xi,xj,xk,xl,xm,xn,xp,xq,xr,xt,xw,List.any_cons,List.any_nil,List.map_cons,List.map_nil,List.length_cons,List.length_nil,List.replicate,Nat.sub_self,List.cons_append,List.nil_append,List.append_nil,List.getElem?_cons_zero,List.getElem?_cons_succ,List.set_cons_zero,List.set_cons_succ,List.set_nil,xy,xz,qA,qB,qC,qD,qE,qF,qG,qH,qI,qJ,qK,qL,qM,qN,qO,qP,qQ,qR,qS,qT,qU,qV,qW,qX,qY,qZ,qc,qe,qf,qg,qh,qi,qj,qk,qm,qn,qo,qp,qr,qt,qu,qv,qw,wA,wB,wC,wD,wE,wF,wG,wH,wI,wJ,wK,wL,wM,wN,wO,wP,wQ,wR,wS]
  refine fun r1 a1 b1 => ⟨⟨by decide, by decide⟩, ?_⟩
  refine pickW ["low", "fold"] (by omega) (by simp; omega) fun h hh => ?_
  simp [b4__law_way_r,zA,zB,zC,zD,zE,zF,zG,zH,zI,zJ,zK,zL,zM,zN,zO,zP,zQ,zR,zS,zT,zU,zV,zW,zX,zY,zZ,zc,zd,ze,zg,zh,zi,zj,zk,zm,zn,zo,zp,zq,zr,zt,zu,zv,zw,zx,zy,zz,yA,startE,full,fullE,clean,cleanE,yB,yC,yD,yE,yF,yG,yH,yI,yJ,yK,yL,yM,yN,yO,yP,yQ,yR,yS,yT,yU,yV,yW,yX,yY,yZ,ya,yb,yc,yd,ye,yf,yg,yh,yi,yj,yk,yl,ym,yn,yo,yp,yq,yr,yt,yu,yw,Bool.bne_false,Bool.bne_true,yx,yy,yz,xA,xB,xC,xD,xE,xH,xI,xJ,xK,xL,xM,xN,xO,xP,xQ,xR,xS,xT,xU,xV,xW,xX,setAll,wipeR,setV,xY,xZ,xb,xi,xj,xk,xl,xm,xn,xp,xq,xr,xt,xw,List.any_cons,List.any_nil,List.map_cons,List.map_nil,List.length_cons,List.length_nil,List.replicate,Nat.sub_self,List.cons_append,List.nil_append,List.append_nil,List.getElem?_cons_zero,List.getElem?_cons_succ,List.set_cons_zero,List.set_cons_succ,List.set_nil,xy,xz,qA,qB,qC,qD,qE,qF,qG,qH,qI,qJ,qK,qL,qM,qN,qO,qP,qQ,qR,qS,qT,qU,qV,qW,qX,qY,qZ,qc,qe,qf,qg,qh,qi,qj,qk,qm,qn,qo,qp,qr,qt,qu,qv,qw,wA,wB,wC,wD,wE,wF,wG,wH,wI,wJ,wK,wL,wM,wN,wO,wP,wQ,wR,wS]
  refine fun r2 a2 b2 => ?_
  split
  · simp [b2__law_way_r,zA,zB,zC,zD,zE,zF,zG,zH,zI,zJ,zK,zL,zM,zN,zO,zP,zQ,zR,zS,zT,zU,zV,zW,zX,zY,zZ,zc,zd,ze,zg,zh,zi,zj,zk,zm,zn,zo,zp,zq,zr,zt,zu,zv,zw,zx,zy,zz,yA,startE,full,fullE,clean,cleanE,yB,yC,yD,yE,yF,yG,yH,yI,yJ,yK,yL,yM,yN,yO,yP,yQ,yR,yS,yT,yU,yV,yW,yX,yY,yZ,ya,yb,yc,yd,ye,yf,yg,yh,yi,yj,yk,yl,ym,yn,yo,yp,yq,yr,yt,yu,yw,Bool.bne_false,Bool.bne_true,yx,yy,yz,xA,xB,xC,xD,xE,xH,xI,xJ,xK,xL,xM,xN,xO,xP,xQ,xR,xS,xT,xU,xV,xW,xX,setAll,wipeR,setV,xY,xZ,xb,xi,xj,xk,xl,xm,xn,xp,xq,xr,xt,xw,List.any_cons,List.any_nil,List.map_cons,List.map_nil,List.length_cons,List.length_nil,List.replicate,Nat.sub_self,List.cons_append,List.nil_append,List.append_nil,List.getElem?_cons_zero,List.getElem?_cons_succ,List.set_cons_zero,List.set_cons_succ,List.set_nil,xy,xz,qA,qB,qC,qD,qE,qF,qG,qH,qI,qJ,qK,qL,qM,qN,qO,qP,qQ,qR,qS,qT,qU,qV,qW,qX,qY,qZ,qc,qe,qf,qg,qh,qi,qj,qk,qm,qn,qo,qp,qr,qt,qu,qv,qw,wA,wB,wC,wD,wE,wF,wG,wH,wI,wJ,wK,wL,wM,wN,wO,wP,wQ,wR,wS]
    refine fun r3 a3 b3 => ?_
    refine pickW ["front", "end"] (by omega) (by simp; omega) fun c hc => ?_
    simp [b3__law_way_r,zA,zB,zC,zD,zE,zF,zG,zH,zI,zJ,zK,zL,zM,zN,zO,zP,zQ,zR,zS,zT,zU,zV,zW,zX,zY,zZ,zc,zd,ze,zg,zh,zi,zj,zk,zm,zn,zo,zp,zq,zr,zt,zu,zv,zw,zx,zy,zz,yA,startE,full,fullE,clean,cleanE,yB,yC,yD,yE,yF,yG,yH,yI,yJ,yK,yL,yM,yN,yO,yP,yQ,yR,yS,yT,yU,yV,yW,yX,yY,yZ,ya,yb,yc,yd,ye,yf,yg,yh,yi,yj,yk,yl,ym,yn,yo,yp,yq,yr,yt,yu,yw,Bool.bne_false,Bool.bne_true,yx,yy,yz,xA,xB,xC,xD,xE,xH,xI,xJ,xK,xL,xM,xN,xO,xP,xQ,xR,xS,xT,xU,xV,xW,xX,setAll,wipeR,setV,xY,xZ,xb,xi,xj,xk,xl,xm,xn,xp,xq,xr,xt,xw,List.any_cons,List.any_nil,List.map_cons,List.map_nil,List.length_cons,List.length_nil,List.replicate,Nat.sub_self,List.cons_append,List.nil_append,List.append_nil,List.getElem?_cons_zero,List.getElem?_cons_succ,List.set_cons_zero,List.set_cons_succ,List.set_nil,xy,xz,qA,qB,qC,qD,qE,qF,qG,qH,qI,qJ,qK,qL,qM,qN,qO,qP,qQ,qR,qS,qT,qU,qV,qW,qX,qY,qZ,qc,qe,qf,qg,qh,qi,qj,qk,qm,qn,qo,qp,qr,qt,qu,qv,qw,wA,wB,wC,wD,wE,wF,wG,wH,wI,wJ,wK,wL,wM,wN,wO,wP,wQ,wR,wS]
    refine fun r4 a4 b4 => ?_
    refine pickW ["one", "two"] (by omega) (by simp; omega) fun o ho => ?_
    exact q (.r h c o) ⟨by simpa using hh, by simpa using hc, by simpa using ho⟩
  · simp [b5__law_way_r,zA,zB,zC,zD,zE,zF,zG,zH,zI,zJ,zK,zL,zM,zN,zO,zP,zQ,zR,zS,zT,zU,zV,zW,zX,zY,zZ,zc,zd,ze,zg,zh,zi,zj,zk,zm,zn,zo,zp,zq,zr,zt,zu,zv,zw,zx,zy,zz,yA,startE,full,fullE,clean,cleanE,yB,yC,yD,yE,yF,yG,yH,yI,yJ,yK,yL,yM,yN,yO,yP,yQ,yR,yS,yT,yU,yV,yW,yX,yY,yZ,ya,yb,yc,yd,ye,yf,yg,yh,yi,yj,yk,yl,ym,yn,yo,yp,yq,yr,yt,yu,yw,Bool.bne_false,Bool.bne_true,yx,yy,yz,xA,xB,xC,xD,xE,xH,xI,xJ,xK,xL,xM,xN,xO,xP,xQ,xR,xS,xT,xU,xV,xW,xX,setAll,wipeR,setV,xY,xZ,xb,xi,xj,xk,xl,xm,xn,xp,xq,xr,xt,xw,List.any_cons,List.any_nil,List.map_cons,List.map_nil,List.length_cons,List.length_nil,List.replicate,Nat.sub_self,List.cons_append,List.nil_append,List.append_nil,List.getElem?_cons_zero,List.getElem?_cons_succ,List.set_cons_zero,List.set_cons_succ,List.set_nil,xy,xz,qA,qB,qC,qD,qE,qF,qG,qH,qI,qJ,qK,qL,qM,qN,qO,qP,qQ,qR,qS,qT,qU,qV,qW,qX,qY,qZ,qc,qe,qf,qg,qh,qi,qj,qk,qm,qn,qo,qp,qr,qt,qu,qv,qw,wA,wB,wC,wD,wE,wF,wG,wH,wI,wJ,wK,wL,wM,wN,wO,wP,wQ,wR,wS]
    refine fun r3 a3 b3 => ?_
    refine pickW ["up", "down", "up", "wide", "own"] (by omega) (by simp; omega) fun st hst => ?_
    simp [b6__law_way_r,zA,zB,zC,zD,zE,zF,zG,zH,zI,zJ,zK,zL,zM,zN,zO,zP,zQ,zR,zS,zT,zU,zV,zW,zX,zY,zZ,zc,zd,ze,zg,zh,zi,zj,zk,zm,zn,zo,zp,zq,zr,zt,zu,zv,zw,zx,zy,zz,yA,startE,full,fullE,clean,cleanE,yB,yC,yD,yE,yF,yG,yH,yI,yJ,yK,yL,yM,yN,yO,yP,yQ,yR,yS,yT,yU,yV,yW,yX,yY,yZ,ya,yb,yc,yd,ye,yf,yg,yh,yi,yj,yk,yl,ym,yn,yo,yp,yq,yr,yt,yu,yw,Bool.bne_false,Bool.bne_true,yx,yy,yz,xA,xB,xC,xD,xE,xH,xI,xJ,xK,xL,xM,xN,xO,xP,xQ,xR,xS,xT,xU,xV,xW,xX,setAll,wipeR,setV,xY,xZ,xb,xi,xj,xk,xl,xm,xn,xp,xq,xr,xt,xw,List.any_cons,List.any_nil,List.map_cons,List.map_nil,List.length_cons,List.length_nil,List.replicate,Nat.sub_self,List.cons_append,List.nil_append,List.append_nil,List.getElem?_cons_zero,List.getElem?_cons_succ,List.set_cons_zero,List.set_cons_succ,List.set_nil,xy,xz,qA,qB,qC,qD,qE,qF,qG,qH,qI,qJ,qK,qL,qM,qN,qO,qP,qQ,qR,qS,qT,qU,qV,qW,qX,qY,qZ,qc,qe,qf,qg,qh,qi,qj,qk,qm,qn,qo,qp,qr,qt,qu,qv,qw,wA,wB,wC,wD,wE,wF,wG,wH,wI,wJ,wK,wL,wM,wN,wO,wP,wQ,wR,wS]
    simp [b7__law_way_r,zA,zB,zC,zD,zE,zF,zG,zH,zI,zJ,zK,zL,zM,zN,zO,zP,zQ,zR,zS,zT,zU,zV,zW,zX,zY,zZ,zc,zd,ze,zg,zh,zi,zj,zk,zm,zn,zo,zp,zq,zr,zt,zu,zv,zw,zx,zy,zz,yA,startE,full,fullE,clean,cleanE,yB,yC,yD,yE,yF,yG,yH,yI,yJ,yK,yL,yM,yN,yO,yP,yQ,yR,yS,yT,yU,yV,yW,yX,yY,yZ,ya,yb,yc,yd,ye,yf,yg,yh,yi,yj,yk,yl,ym,yn,yo,yp,yq,yr,yt,yu,yw,Bool.bne_false,Bool.bne_true,yx,yy,yz,xA,xB,xC,xD,xE,xH,xI,xJ,xK,xL,xM,xN,xO,xP,xQ,xR,xS,xT,xU,xV,xW,xX,setAll,wipeR,setV,xY,xZ,xb,xi,xj,xk,xl,xm,xn,xp,xq,xr,xt,xw,List.any_cons,List.any_nil,List.map_cons,List.map_nil,List.length_cons,List.length_nil,List.replicate,Nat.sub_self,List.cons_append,List.nil_append,List.append_nil,List.getElem?_cons_zero,List.getElem?_cons_succ,List.set_cons_zero,List.set_cons_succ,List.set_nil,xy,xz,qA,qB,qC,qD,qE,qF,qG,qH,qI,qJ,qK,qL,qM,qN,qO,qP,qQ,qR,qS,qT,qU,qV,qW,qX,qY,qZ,qc,qe,qf,qg,qh,qi,qj,qk,qm,qn,qo,qp,qr,qt,qu,qv,qw,wA,wB,wC,wD,wE,wF,wG,wH,wI,wJ,wK,wL,wM,wN,wO,wP,wQ,wR,wS]
    have fin : ∀ (c g : String), SlotsOk h st c g "half" → b9__law_way [some (.val sD), some (.val tD), some (.val (.str (Str.ofString h))), some (.val (.str (Str.ofString st))), some (.val (.bool (decide ("up" = st) || decide ("down" = st)))), some (.val (.str (Str.ofString c))), some (.val (.str (Str.ofString g)))] { nx := fun _ => Q .none, rt := Q, ex := E } := by
      intro c g hs
      simp [b9__law_way_r,zA,zB,zC,zD,zE,zF,zG,zH,zI,zJ,zK,zL,zM,zN,zO,zP,zQ,zR,zS,zT,zU,zV,zW,zX,zY,zZ,zc,zd,ze,zg,zh,zi,zj,zk,zm,zn,zo,zp,zq,zr,zt,zu,zv,zw,zx,zy,zz,yA,startE,full,fullE,clean,cleanE,yB,yC,yD,yE,yF,yG,yH,yI,yJ,yK,yL,yM,yN,yO,yP,yQ,yR,yS,yT,yU,yV,yW,yX,yY,yZ,ya,yb,yc,yd,ye,yf,yg,yh,yi,yj,yk,yl,ym,yn,yo,yp,yq,yr,yt,yu,yw,Bool.bne_false,Bool.bne_true,yx,yy,yz,xA,xB,xC,xD,xE,xH,xI,xJ,xK,xL,xM,xN,xO,xP,xQ,xR,xS,xT,xU,xV,xW,xX,setAll,wipeR,setV,xY,xZ,xb,xi,xj,xk,xl,xm,xn,xp,xq,xr,xt,xw,List.any_cons,List.any_nil,List.map_cons,List.map_nil,List.length_cons,List.length_nil,List.replicate,Nat.sub_self,List.cons_append,List.nil_append,List.append_nil,List.getElem?_cons_zero,List.getElem?_cons_succ,List.set_cons_zero,List.set_cons_succ,List.set_nil,xy,xz,qA,qB,qC,qD,qE,qF,qG,qH,qI,qJ,qK,qL,qM,qN,qO,qP,qQ,qR,qS,qT,qU,qV,qW,qX,qY,qZ,qc,qe,qf,qg,qh,qi,qj,qk,qm,qn,qo,qp,qr,qt,qu,qv,qw,wA,wB,wC,wD,wE,wF,wG,wH,wI,wJ,wK,wL,wM,wN,wO,wP,wQ,wR,wS]
      refine fun r6 a6 b6 => ?_
      refine pickW ["half", "three", "full"] (by omega) (by simp; omega) fun gr hgr => ?_
      obtain ⟨g1, g2, g3, g4, g5, g6⟩ := hs
      exact q (.s h st c g gr) ⟨g1, g2, g3, g4, by simpa using hgr, g6⟩
    have hst' : st = "up" ∨ st = "down" ∨ st = "wide" ∨ st = "own" := by
      simp at hst
      rcases hst with h | h | h | h | h <;> simp [h]
    have hh' : h = "low" ∨ h = "fold" := by simpa using hh
    split
    · rename_i e
      have e' : st = "up" ∨ st = "down" := e.imp Eq.symm Eq.symm
      refine fun r4 a4 b4 => ?_
      refine pickW ["late", "empty", "near", "first"] (by omega) (by simp; omega) fun c hc => ?_
      simp [b8__law_way_r,zA,zB,zC,zD,zE,zF,zG,zH,zI,zJ,zK,zL,zM,zN,zO,zP,zQ,zR,zS,zT,zU,zV,zW,zX,zY,zZ,zc,zd,ze,zg,zh,zi,zj,zk,zm,zn,zo,zp,zq,zr,zt,zu,zv,zw,zx,zy,zz,yA,startE,full,fullE,clean,cleanE,yB,yC,yD,yE,yF,yG,yH,yI,yJ,yK,yL,yM,yN,yO,yP,yQ,yR,yS,yT,yU,yV,yW,yX,yY,yZ,ya,yb,yc,yd,ye,yf,yg,yh,yi,yj,yk,yl,ym,yn,yo,yp,yq,yr,yt,yu,yw,Bool.bne_false,Bool.bne_true,yx,yy,yz,xA,xB,xC,xD,xE,xH,xI,xJ,xK,xL,xM,xN,xO,xP,xQ,xR,xS,xT,xU,xV,xW,xX,setAll,wipeR,setV,xY,xZ,xb,xi,xj,xk,xl,xm,xn,xp,xq,xr,xt,xw,List.any_cons,List.any_nil,List.map_cons,List.map_nil,List.length_cons,List.length_nil,List.replicate,Nat.sub_self,List.cons_append,List.nil_append,List.append_nil,List.getElem?_cons_zero,List.getElem?_cons_succ,List.set_cons_zero,List.set_cons_succ,List.set_nil,xy,xz,qA,qB,qC,qD,qE,qF,qG,qH,qI,qJ,qK,qL,qM,qN,qO,qP,qQ,qR,qS,qT,qU,qV,qW,qX,qY,qZ,qc,qe,qf,qg,qh,qi,qj,qk,qm,qn,qo,qp,qr,qt,qu,qv,qw,wA,wB,wC,wD,wE,wF,wG,wH,wI,wJ,wK,wL,wM,wN,wO,wP,wQ,wR,wS,e]
      refine fun r5 a5 b5 => ?_
      refine pickW ["mark", "hole", "again", "pull"] (by omega) (by simp; omega) fun g hg => ?_
      have := fin c g ⟨hh', hst', by simpa using hc, by simpa using hg, .inl rfl, .inl e'⟩
      simpa [e] using this
    · rename_i e
      refine fun r4 a4 b4 => ?_
      refine pickWn ["late", "empty", "near", "first"] 2 (by omega) (by omega) (by decide) fun c hc => ?_
      simp [b8__law_way_r,zA,zB,zC,zD,zE,zF,zG,zH,zI,zJ,zK,zL,zM,zN,zO,zP,zQ,zR,zS,zT,zU,zV,zW,zX,zY,zZ,zc,zd,ze,zg,zh,zi,zj,zk,zm,zn,zo,zp,zq,zr,zt,zu,zv,zw,zx,zy,zz,yA,startE,full,fullE,clean,cleanE,yB,yC,yD,yE,yF,yG,yH,yI,yJ,yK,yL,yM,yN,yO,yP,yQ,yR,yS,yT,yU,yV,yW,yX,yY,yZ,ya,yb,yc,yd,ye,yf,yg,yh,yi,yj,yk,yl,ym,yn,yo,yp,yq,yr,yt,yu,yw,Bool.bne_false,Bool.bne_true,yx,yy,yz,xA,xB,xC,xD,xE,xH,xI,xJ,xK,xL,xM,xN,xO,xP,xQ,xR,xS,xT,xU,xV,xW,xX,setAll,wipeR,setV,xY,xZ,xb,xi,xj,xk,xl,xm,xn,xp,xq,xr,xt,xw,List.any_cons,List.any_nil,List.map_cons,List.map_nil,List.length_cons,List.length_nil,List.replicate,Nat.sub_self,List.cons_append,List.nil_append,List.append_nil,List.getElem?_cons_zero,List.getElem?_cons_succ,List.set_cons_zero,List.set_cons_succ,List.set_nil,xy,xz,qA,qB,qC,qD,qE,qF,qG,qH,qI,qJ,qK,qL,qM,qN,qO,qP,qQ,qR,qS,qT,qU,qV,qW,qX,qY,qZ,qc,qe,qf,qg,qh,qi,qj,qk,qm,qn,qo,qp,qr,qt,qu,qv,qw,wA,wB,wC,wD,wE,wF,wG,wH,wI,wJ,wK,wL,wM,wN,wO,wP,wQ,wR,wS,e]
      refine fun r5 a5 b5 => ?_
      refine pickWn ["mark", "hole", "again", "pull"] 3 (by omega) (by omega) (by decide) fun g hg => ?_
      have hc' : c = "late" ∨ c = "empty" := by simpa using hc
      have hg' : g = "mark" ∨ g = "hole" ∨ g = "again" := by simpa using hg
      have := fin c g ⟨hh', hst', by rcases hc' with h | h <;> simp [h], by rcases hg' with h | h | h <;> simp [h], .inl rfl, .inr ⟨hc', by rcases hg' with h | h | h <;> simp [h]⟩⟩
      simpa [e] using this
end
end G6
namespace TM
theorem hist_append (w : Way) : ∀ (t : Tab) (a b : RowT), hist w t (a ++ b) = hist w t a ++ hist w (endT w t a) b
  | t, [], b => rfl
  | t, p :: a, b => by
    show _ :: hist w _ (a ++ b) = _ :: (hist w _ a ++ _)
    rw [hist_append w _ a b]
    rfl
theorem endT_append (w : Way) : ∀ (t : Tab) (a b : RowT), endT w t (a ++ b) = endT w (endT w t a) b
  | t, [], b => rfl
  | t, p :: a, b => endT_append w _ a b
theorem hist_take (w : Way) (t : Tab) (r : RowT) (n : Nat) : hist w t (r.take n) = (hist w t r).take n := by
  have h := hist_append w t (r.take n) (r.drop n)
  rw [List.take_append_drop] at h
  rw [h]
  by_cases hn : n ≤ r.length
  · rw [List.take_left' (by rw [hist_len, List.length_take]; omega)]
  · rw [List.take_of_length_le (by omega : r.length ≤ n), List.drop_eq_nil_of_le (by omega : r.length ≤ n)]
    simp only [hist, List.append_nil]
    rw [List.take_of_length_le (by rw [hist_len]; omega)]
theorem done_ask (w : Way) (t : Tab) (k : Int) : done w t .ask k = t := by
  unfold done
  cases (found w t k).1 <;> rfl
end TM
namespace G6
open PySem PySem.Spec L2 DL TM
def Flat (n : Nat) (d : D) : Prop := d.canLay0 = true ∧ d.depth ≤ n
theorem Flat.sh {n : Nat} {d : D} (h : Flat n d) (hn : n ≤ 64 := by decide) : SeqAt.shaped d = true := by
  unfold SeqAt.shaped
  have := h.2
  simp [h.1]
  omega
theorem Flat.mono {m n : Nat} {d : D} (h : Flat m d) (hn : m ≤ n := by decide) : Flat n d := ⟨h.1, Nat.le_trans h.2 hn⟩
theorem flat_i (i : Int) : Flat 0 (.int i) := ⟨by simp [PyData.canLay0], by simp [PyData.depth]⟩
theorem flat_t {n : Nat} {ds : List D} (h : ∀ d ∈ ds, Flat n d) : Flat (n + 1) (.tuple ds) := by
  obtain ⟨h1, h2⟩ := sh_seq (n := n) h
  refine ⟨by simpa [PyData.canLay0] using h1, ?_⟩
  simp only [PyData.depth]
  omega
theorem flat_l {n : Nat} {ds : List D} (h : ∀ d ∈ ds, Flat n d) : Flat (n + 1) (.list ds) := by
  obtain ⟨h1, h2⟩ := sh_seq (n := n) h
  refine ⟨by simpa [PyData.canLay0] using h1, ?_⟩
  simp only [PyData.depth]
  omega
theorem flat_ints (ns : List Int) : Flat 1 (.tuple (intsD ns)) := flat_t fun d hd => by
  obtain ⟨i, _, rfl⟩ := List.mem_map.mp hd
  exact flat_i i
theorem flat_tab (t : Tab) : Flat 2 (tabD t) := by
  cases t with
  | r R =>
    refine flat_t fun d hd => ?_
    obtain ⟨r, _, rfl⟩ := List.mem_map.mp hd
    exact flat_ints r
  | s T => exact (flat_ints T).mono
theorem eqv_of {d e : D} {n : Nat} (h : Flat n d) (he : e = d) : PyData.eqv d e = true := by
  subst he
  exact SeqAt.eqv_refl e h.1
end G6
namespace TM
theorem hist_last (w : Way) (t : Tab) (p : Deed3 × Int) (r : RowT) : ∃ z, (hist w t (p :: r)).getLast? = some z ∧ z.1 = endT w t (p :: r) := by
  have h := endT_hist w t (p :: r)
  cases e : hist w t (p :: r) with
  | nil => simp [hist] at e
  | cons a l =>
    rw [e, List.map_cons, List.getLast?_cons_cons, ← List.map_cons, List.getLast?_map] at h
    cases q : (a :: l).getLast? with
    | none =>
      rw [q] at h
      cases h
    | some z =>
      rw [q] at h
      exact ⟨z, rfl, by simpa using h⟩
end TM
namespace TT
open PySem PySem.Spec L2 TL DL TM
end TT
namespace G6
open PySem PySem.Spec L2 DL TM TT
def upS (S : Sto) (a : Addr) (k : Dk) : Sto := fun b => if b = a then some k else S b
theorem upS_self (S : Sto) (a : Addr) (k : Dk) : upS S a k a = some k := if_pos rfl
theorem upS_ne {S : Sto} {a b : Addr} {k : Dk} (h : b ≠ a) : upS S a k b = S b := if_neg h
theorem upS_up (S : Sto) (a : Addr) (k k' : Dk) : upS (upS S a k) a k' = upS S a k' := by
  funext b
  unfold upS
  split <;> rfl
theorem put_up {S : Sto} {a : Addr} {k : Dk} {f : Str} {y : Fld} (e : S a = some k) : stoPut S a f y = upS S a ⟨k.cls, putFl f y k.fl⟩ := stoPut_eq e
theorem new_up (S : Sto) (a : Addr) (c : Str) : stoNew S a c = upS S a ⟨c, []⟩ := rfl
theorem putOk_of {S : Sto} {a : Addr} {k : Dk} {f : Str} {y : Fld} {Q : Sto → Prop} (e : S a = some k) (hn : dskN ((putFl f y k.fl).map (·.1)) = true) (hl : k.fl.length < 900) (q : Q (upS S a ⟨k.cls, putFl f y k.fl⟩)) : putOk S a f y Q := ⟨k, e, hn, hl, by rw [put_up e]; exact q⟩
theorem atC_of {S : Sto} {a : Addr} {k : Dk} {c : Str} (e : S a = some k) (h : k.cls = c) : atC S a c := ⟨k, e, h⟩
theorem atF_of {S : Sto} {a : Addr} {k : Dk} {c f : Str} {xs : List D} {Q : List D → Prop} (e : S a = some k) (h : k.cls = c) (l : k.fl.lookup f = some (.lst xs)) (q : Q xs) : atF S a c f Q := ⟨k, xs, e, h, l, q⟩
def tabsOfR (w : Way) (ps : RowT) : List D := (begun w :: (hist w (begun w) ps).map (·.1)).map tabD
def dkF (w : Way) (ts : List D) (ps fs : RowT) : Fls := [("way", .val (wayD w)), ("tables", .lst ts), ("past", .lst (ps.map pD)), ("future", .lst (fs.map pD))]
def dk (w : Way) (ps fs : RowT) : Dk := ⟨"Desk", dkF w (tabsOfR w ps) ps fs⟩
theorem lk_way (w : Way) (ts : List D) (ps fs : RowT) : (dkF w ts ps fs).lookup (("way" : PySem.Str)) = some (.val (wayD w)) := rfl
theorem lk_tables (w : Way) (ts : List D) (ps fs : RowT) : (dkF w ts ps fs).lookup (("tables" : PySem.Str)) = some (.lst ts) := rfl
theorem lk_past (w : Way) (ts : List D) (ps fs : RowT) : (dkF w ts ps fs).lookup (("past" : PySem.Str)) = some (.lst (ps.map pD)) := rfl
theorem lk_future (w : Way) (ts : List D) (ps fs : RowT) : (dkF w ts ps fs).lookup (("future" : PySem.Str)) = some (.lst (fs.map pD)) := rfl
theorem pt_tables (w : Way) (ts : List D) (ps fs : RowT) (us : List D) : putFl "tables" (.lst us) (dkF w ts ps fs) = dkF w us ps fs := rfl
theorem tabs_last (w : Way) (ps : RowT) : (tabsOfR w ps).getLast? = some (tabD (endT w (begun w) ps)) := by
  unfold tabsOfR
  rw [List.getLast?_map]
  cases ps with
  | nil => rfl
  | cons p r =>
    obtain ⟨z, hz, eT⟩ := hist_last w (begun w) p r
    rw [List.getLast?_cons, List.getLast?_map, hz]
    simp [eT]
theorem tabs_app (w : Way) (ps : RowT) (p : Deed3 × Int) : tabsOfR w (ps ++ [p]) = tabsOfR w ps ++ [tabD (endT w (begun w) (ps ++ [p]))] := by
  unfold tabsOfR
  rw [hist_append, List.map_append, ← List.cons_append, List.map_append, endT_append]
  rfl
theorem tabs_drop (w : Way) (ps : RowT) (p : Deed3 × Int) : (tabsOfR w (ps ++ [p])).dropLast = tabsOfR w ps := by rw [tabs_app, List.dropLast_concat]
theorem tabs_len (w : Way) (ps : RowT) : (tabsOfR w ps).length = ps.length + 1 := by simp [tabsOfR, hist_len]
section
variable {Q : D → Sto → Prop} {E : Str → Sto → Prop} {S : Sto} {a : Addr}
theorem rsvD_way (S : Sto) (w : Way) : rsvD S (wayD w) = wayD w := by cases w <;> rfl
theorem rsvD_tab (S : Sto) (t : Tab) : rsvD S (tabD t) = tabD t := by cases t <;> rfl
theorem pure_way (w : Way) : pureD (wayD w) = true := by cases w <;> rfl
theorem rsvD_dk {w : Way} {ps fs : RowT} (h : S a = some (dk w ps fs)) : rsvD S (idD a) = objD a "Desk" (dkF w (tabsOfR w ps) ps fs) := rsvD_id h
theorem init_ok {w : Way} (hw : w.Ok) (hS : S a = some ⟨"Desk", []⟩) (q : Q .none (upS S a (dk w [] []))) : m_desk_init [idD a, wayD w] S Q E := by
  simp_arith only [b1_desk_init_r, m_desk_init_r, mSeq_r, mNext_r, sC_r, sRd_r, mRet_r, mDrop_r, mIf_r, mSet_r, mSetC_r, mTgt_r, mTgtC_r, mPar_k, mParK_2, mFor_r, mC_r, mR_r, tR_r, mOp_r, mB1_r, mAndT_r, mOrT_r, mNotT_r, mAnd_r, mNil_r, mCons_r, mCb_r, mTup_r, mRes_r, mMeth_r, mMeth0_r, mMethK_r, mMake_r, noneQ_n, mFldV_r, mFldL_r, mFApp_r, mFPop_r, mFAppPop_r, eFld_r, fldQ_v, fldQ_l, eMethO_r, eMethO0_r, intQ_i, lenO_k, strQ_s, strO_k, isOD_t, isOD_o, rgtQ_t, rgtQ_o, eqOD_r, fnS_r, mForL_nil, mForL_cons, idQ_i, objQ_o, rsv, rsvD_t, rsvD_l, rsvD_i, rsvD_b, rsvD_s, rsvD_n, rsvE_v, rsvE_o, rsvE_n, rsvD_way]
  refine check_way_ok hw ?_
  refine ⟨pure_way w, atC_of hS rfl, putOk_of hS rfl (by decide) (begun_ok ?_)⟩
  refine ⟨by decide, by rw [pure_tab]; rfl, atC_of (upS_self _ _ _) rfl, putOk_of (upS_self _ _ _) rfl (Nat.le_of_ble_eq_true rfl) ⟨by decide, trivial, atC_of (upS_self _ _ _) rfl, putOk_of (upS_self _ _ _) rfl (Nat.le_of_ble_eq_true rfl) ⟨by decide, trivial, atC_of (upS_self _ _ _) rfl, putOk_of (upS_self _ _ _) rfl (Nat.le_of_ble_eq_true rfl) ?_⟩⟩⟩
  simp only [upS_up]
  exact q
theorem check_deed_ok {k : Int} {kd : Deed3} {Q : D → Prop} {E : Str → Prop} (hk : KeyOk k) (q : Q .none) : m_check_deed [deedD kd k] Q E := by
  simp_arith only [b1_check_deed_r, m_check_deed_r]
  refine deed_ok hk ?_
  simpa [zA,zB,zC,zD,zE,zF,zG,zH,zI,zJ,zK,zL,zM,zN,zO,zP,zQ,zR,zS,zT,zU,zV,zW,zX,zY,zZ,zc,zd,ze,zg,zh,zi,zj,zk,zm,zn,zo,zp,zq,zr,zt,zu,zv,zw,zx,zy,zz,yA,startE,full,fullE,clean,cleanE,yB,yC,yD,yE,yF,yG,yH,yI,yJ,yK,yL,yM,yN,yO,yP,yQ,yR,yS,yT,yU,yV,yW,yX,yY,yZ,ya,yb,yc,yd,ye,yf,yg,yh,yi,yj,yk,yl,ym,yn,yo,yp,yq,yr,yt,yu,yw,Bool.bne_false,Bool.bne_true,yx,yy,yz,xA,xB,xC,xD,xE,xH,xI,xJ,xK,xL,xM,xN,xO,xP,xQ,xR,xS,xT,xU,xV,xW,xX,setAll,wipeR,setV,xY,xZ,xb,xi,xj,xk,xl,xm,xn,xp,xq,xr,xt,xw,List.any_cons,List.any_nil,List.map_cons,List.map_nil,List.length_cons,List.length_nil,List.replicate,Nat.sub_self,List.cons_append,List.nil_append,List.append_nil,List.getElem?_cons_zero,List.getElem?_cons_succ,List.set_cons_zero,List.set_cons_succ,List.set_nil,xy,xz,qA,qB,qC,qD,qE,qF,qG,qH,qI,qJ,qK,qL,qM,qN,qO,qP,qQ,qR,qS,qT,qU,qV,qW,qX,qY,qZ,qc,qe,qf,qg,qh,qi,qj,qk,qm,qn,qo,qp,qr,qt,qu,qv,qw,wA,wB,wC,wD,wE,wF,wG,wH,wI,wJ,wK,wL,wM,wN,wO,wP,wQ,wR,wS] using q
theorem do_ok {w : Way} {ks : List Int} {ps fs : RowT} {kd : Deed3} {k : Int} (hw : w.Ok) (hl : ks.length ≤ 30) (hp : RowOk ks ps) (hk : KeyOk k) (h24 : ps.length < 24) (hS : S a = some (dk w ps fs)) (hkm : k ∈ ks)
    (q : Q (.tuple [.bool ((found w (endT w (begun w) ps) k).1.isSome), .int (found w (endT w (begun w) ps) k).2]) (upS S a (dk w (ps ++ [(kd, k)]) []))) : m_desk_do [idD a, deedD kd k] S Q E := by
  have oE := Ok.endT hw hl (Ok.begun hw ks) hp.keys
  simp_arith only [b1_desk_do_r, b2_desk_do_r, m_desk_do_r, mSeq_r, mNext_r, sC_r, sRd_r, mRet_r, mDrop_r, mIf_r, mSet_r, mSetC_r, mTgt_r, mTgtC_r, mPar_k, mParK_2, mFor_r, mC_r, mR_r, tR_r, mOp_r, mB1_r, mAndT_r, mOrT_r, mNotT_r, mAnd_r, mNil_r, mCons_r, mCb_r, mTup_r, mRes_r, mMeth_r, mMeth0_r, mMethK_r, mMake_r, noneQ_n, mFldV_r, mFldL_r, mFApp_r, mFPop_r, mFAppPop_r, eFld_r, fldQ_v, fldQ_l, eMethO_r, eMethO0_r, intQ_i, lenO_k, strQ_s, strO_k, isOD_t, isOD_o, rgtQ_t, rgtQ_o, eqOD_r, fnS_r, mForL_nil, mForL_cons, idQ_i, objQ_o, rsv, rsvD_t, rsvD_l, rsvD_i, rsvD_b, rsvD_s, rsvD_n, rsvE_v, rsvE_o, rsvE_n]
  refine check_deed_ok hk ?_
  simp_arith only [List.map_cons, Option.map_some, rsvD_dk hS, mSeq_r, mNext_r, sC_r, sRd_r, mRet_r, mDrop_r, mIf_r, mSet_r, mSetC_r, mTgt_r, mTgtC_r, mPar_k, mParK_2, mFor_r, mC_r, mR_r, tR_r, mOp_r, mB1_r, mAndT_r, mOrT_r, mNotT_r, mAnd_r, mNil_r, mCons_r, mCb_r, mTup_r, mRes_r, mMeth_r, mMeth0_r, mMethK_r, mMake_r, noneQ_n, mFldV_r, mFldL_r, mFApp_r, mFPop_r, mFAppPop_r, eFld_r, fldQ_v, fldQ_l, eMethO_r, eMethO0_r, intQ_i, lenO_k, strQ_s, strO_k, isOD_t, isOD_o, rgtQ_t, rgtQ_o, eqOD_r, fnS_r, mForL_nil, mForL_cons, idQ_i, objQ_o, rsv, rsvD_t, rsvD_l, rsvD_i, rsvD_b, rsvD_s, rsvD_n, rsvE_v, rsvE_o, rsvE_n, lk_past, lk_way, lk_tables]
  have n24 : ¬ ((ps.map pD).length : Int) = 24 := by rw [List.length_map]; omega
  refine ⟨trivial, trivial, trivial, ?_⟩
  rw [if_neg (by simpa using n24)]
  refine ⟨trivial, trivial, ?_⟩
  rw [last_at (tabs_last w ps)]
  simp_arith only
  refine done_ok hw oE hl ?_
  simp_arith only [wH, wI, pure_tab, wL, wK, wJ, mSeq_r, mNext_r, sC_r, sRd_r, mRet_r, mDrop_r, mIf_r, mSet_r, mSetC_r, mTgt_r, mTgtC_r, mPar_k, mParK_2, mFor_r, mC_r, mR_r, tR_r, mOp_r, mB1_r, mAndT_r, mOrT_r, mNotT_r, mAnd_r, mNil_r, mCons_r, mCb_r, mTup_r, mRes_r, mMeth_r, mMeth0_r, mMethK_r, mMake_r, noneQ_n, mFldV_r, mFldL_r, mFApp_r, mFPop_r, mFAppPop_r, eFld_r, fldQ_v, fldQ_l, eMethO_r, eMethO0_r, intQ_i, lenO_k, strQ_s, strO_k, isOD_t, isOD_o, rgtQ_t, rgtQ_o, eqOD_r, fnS_r, mForL_nil, mForL_cons, idQ_i, objQ_o, rsv, rsvD_t, rsvD_l, rsvD_i, rsvD_b, rsvD_s, rsvD_n, rsvE_v, rsvE_o, rsvE_n, reduceIte, Bool.false_eq_true, decide_true, decide_false, Bool.not_true, Bool.not_false, true_and, and_true, decide_not, Bool.true_bne, Bool.false_bne, Bool.not_not, List.map_cons, List.map_nil, Option.map_some, Option.map_none]
  have l1 : (tabsOfR w ps).length < 1000000 := by rw [tabs_len]; omega
  have l2 : (ps.map pD).length < 1000000 := by rw [List.length_map]; omega
  refine ⟨rfl, atF_of hS rfl (lk_tables _ _ _ _) ?_⟩
  simp_arith only [rsvD_tab, pure_tab, put_up hS, dk, pt_tables, reduceIte, Bool.false_eq_true, decide_true, decide_false, Bool.not_true, Bool.not_false, true_and, and_true, decide_not, Bool.true_bne, Bool.false_bne, Bool.not_not]
  refine ⟨l1, atF_of (upS_self _ _ _) rfl (lk_past _ _ _ _) ?_⟩
  refine ⟨rfl, ?_⟩
  simp_arith only [put_up (upS_self _ _ _), upS_up, reduceIte, Bool.false_eq_true, decide_true, decide_false, Bool.not_true, Bool.not_false, true_and, and_true, decide_not, Bool.true_bne, Bool.false_bne, Bool.not_not]
  refine ⟨l2, by decide, atC_of (upS_self _ _ _) rfl, putOk_of (upS_self _ _ _) rfl (Nat.le_of_ble_eq_true rfl) ?_⟩
  refine ⟨by decide, ?_⟩
  simp only [upS_up]
  have e : dk w (ps ++ [(kd, k)]) [] = ⟨"Desk", dkF w (tabsOfR w ps ++ [tabD (done w (endT w (begun w) ps) kd k)]) (ps ++ [(kd, k)]) []⟩ := by
    unfold dk
    rw [tabs_app, endT_append]
    rfl
  have e2 : putFl "future" (.lst []) (putFl "past" (.lst (ps.map pD ++ [pD (kd, k)])) (dkF w (tabsOfR w ps ++ [tabD (done w (endT w (begun w) ps) kd k)]) ps fs)) = dkF w (tabsOfR w ps ++ [tabD (done w (endT w (begun w) ps) kd k)]) (ps ++ [(kd, k)]) [] := by
    rw [← List.map_singleton, ← List.map_append]
    rfl
  rw [e, ← e2] at q
  exact q
theorem do_many {w : Way} {ps fs : RowT} {kd : Deed3} {k : Int} (hk : KeyOk k) (h24 : ps.length = 24) (hS : S a = some (dk w ps fs)) (q : E "TooMany" S) : m_desk_do [idD a, deedD kd k] S Q E := by
  simp_arith only [b1_desk_do_r, b2_desk_do_r, m_desk_do_r, mSeq_r, mNext_r, sC_r, sRd_r, mRet_r, mDrop_r, mIf_r, mSet_r, mSetC_r, mTgt_r, mTgtC_r, mPar_k, mParK_2, mFor_r, mC_r, mR_r, tR_r, mOp_r, mB1_r, mAndT_r, mOrT_r, mNotT_r, mAnd_r, mNil_r, mCons_r, mCb_r, mTup_r, mRes_r, mMeth_r, mMeth0_r, mMethK_r, mMake_r, noneQ_n, mFldV_r, mFldL_r, mFApp_r, mFPop_r, mFAppPop_r, eFld_r, fldQ_v, fldQ_l, eMethO_r, eMethO0_r, intQ_i, lenO_k, strQ_s, strO_k, isOD_t, isOD_o, rgtQ_t, rgtQ_o, eqOD_r, fnS_r, mForL_nil, mForL_cons, idQ_i, objQ_o, rsv, rsvD_t, rsvD_l, rsvD_i, rsvD_b, rsvD_s, rsvD_n, rsvE_v, rsvE_o, rsvE_n]
  refine check_deed_ok hk ?_
  simp_arith only [List.map_cons, Option.map_some, rsvD_dk hS, mSeq_r, mNext_r, sC_r, sRd_r, mRet_r, mDrop_r, mIf_r, mSet_r, mSetC_r, mTgt_r, mTgtC_r, mPar_k, mParK_2, mFor_r, mC_r, mR_r, tR_r, mOp_r, mB1_r, mAndT_r, mOrT_r, mNotT_r, mAnd_r, mNil_r, mCons_r, mCb_r, mTup_r, mRes_r, mMeth_r, mMeth0_r, mMethK_r, mMake_r, noneQ_n, mFldV_r, mFldL_r, mFApp_r, mFPop_r, mFAppPop_r, eFld_r, fldQ_v, fldQ_l, eMethO_r, eMethO0_r, intQ_i, lenO_k, strQ_s, strO_k, isOD_t, isOD_o, rgtQ_t, rgtQ_o, eqOD_r, fnS_r, mForL_nil, mForL_cons, idQ_i, objQ_o, rsv, rsvD_t, rsvD_l, rsvD_i, rsvD_b, rsvD_s, rsvD_n, rsvE_v, rsvE_o, rsvE_n, lk_past, lk_way, lk_tables]
  refine ⟨trivial, trivial, trivial, ?_⟩
  rw [if_pos (by simp [h24])]
  exact q
theorem flat_p (p : Deed3 × Int) : Flat 1 (pD p) := flat_t fun d hd => by
  simp at hd
  rcases hd with rfl | rfl
  · exact ⟨by simp [PyData.canLay0, strOk_of], by simp [PyData.depth]⟩
  · exact flat_i _
theorem flat_ps (ps : RowT) : Flat 2 (.list (ps.map pD)) := flat_l fun d hd => by
  obtain ⟨z, _, rfl⟩ := List.mem_map.mp hd
  exact flat_p z
theorem flat_nil : Flat 2 (.list []) := flat_ps []
theorem eqv_lens {xs ys : List D} (h : xs.length ≠ ys.length) : PyData.eqv (.list xs) (.list ys) = false := by
  simp only [PyData.eqv]
  exact SeqAt.eqvAll_other_length h
theorem last_get {ps : RowT} {p : Deed3 × Int} : ((ps ++ [p]).map pD)[((ps ++ [p]).map pD).length - 1]? = some (pD p) := by
  rw [List.map_append, List.length_append, List.length_map]
  simp
theorem undo_ok {w : Way} {ps fs : RowT} {p : Deed3 × Int} (hl : fs.length < 1000) (hS : S a = some (dk w (ps ++ [p]) fs)) (q : Q (pD p) (upS S a (dk w ps (fs ++ [p])))) : m_desk_undo [idD a] S Q E := by
  simp_arith only [b1_desk_undo_r, b2_desk_undo_r, m_desk_undo_r, mSeq_r, mNext_r, sC_r, sRd_r, mRet_r, mDrop_r, mIf_r, mSet_r, mSetC_r, mTgt_r, mTgtC_r, mPar_k, mParK_2, mFor_r, mC_r, mR_r, tR_r, mOp_r, mB1_r, mAndT_r, mOrT_r, mNotT_r, mAnd_r, mNil_r, mCons_r, mCb_r, mTup_r, mRes_r, mMeth_r, mMeth0_r, mMethK_r, mMake_r, noneQ_n, mFldV_r, mFldL_r, mFApp_r, mFPop_r, mFAppPop_r, eFld_r, fldQ_v, fldQ_l, eMethO_r, eMethO0_r, intQ_i, lenO_k, strQ_s, strO_k, isOD_t, isOD_o, rgtQ_t, rgtQ_o, eqOD_r, fnS_r, mForL_nil, mForL_cons, idQ_i, objQ_o, rsv, rsvD_t, rsvD_l, rsvD_i, rsvD_b, rsvD_s, rsvD_n, rsvE_v, rsvE_o, rsvE_n]
  simp_arith only [List.map_cons, Option.map_some, rsvD_dk hS, mSeq_r, mNext_r, sC_r, sRd_r, mRet_r, mDrop_r, mIf_r, mSet_r, mSetC_r, mTgt_r, mTgtC_r, mPar_k, mParK_2, mFor_r, mC_r, mR_r, tR_r, mOp_r, mB1_r, mAndT_r, mOrT_r, mNotT_r, mAnd_r, mNil_r, mCons_r, mCb_r, mTup_r, mRes_r, mMeth_r, mMeth0_r, mMethK_r, mMake_r, noneQ_n, mFldV_r, mFldL_r, mFApp_r, mFPop_r, mFAppPop_r, eFld_r, fldQ_v, fldQ_l, eMethO_r, eMethO0_r, intQ_i, lenO_k, strQ_s, strO_k, isOD_t, isOD_o, rgtQ_t, rgtQ_o, eqOD_r, fnS_r, mForL_nil, mForL_cons, idQ_i, objQ_o, rsv, rsvD_t, rsvD_l, rsvD_i, rsvD_b, rsvD_s, rsvD_n, rsvE_v, rsvE_o, rsvE_n, lk_past, lk_way, lk_tables]
  refine ⟨trivial, by decide, (flat_ps _).sh, flat_nil.sh, ?_⟩
  rw [eqv_lens (by simp), if_neg (by simp)]
  refine atF_of hS rfl (lk_tables _ _ _ _) ?_
  have e1 : (tabsOfR w (ps ++ [p]))[(tabsOfR w (ps ++ [p])).length - 1]? = some (tabD (endT w (begun w) (ps ++ [p]))) := by
    rw [← List.getLast?_eq_getElem?, tabs_last]
  simp_arith only [e1, put_up hS, dk, pt_tables]
  refine atF_of (upS_self _ _ _) rfl (lk_future _ _ _ _) ?_
  refine ⟨trivial, atF_of (upS_self _ _ _) rfl (lk_past _ _ _ _) ?_⟩
  simp_arith only [last_get, put_up (upS_self _ _ _), upS_up]
  refine ⟨by rw [List.length_map]; omega, ?_⟩
  have e2 : ((ps ++ [p]).map pD).dropLast = ps.map pD := by rw [List.map_append, List.map_singleton, List.dropLast_concat]
  have e3 : putFl "future" (.lst (fs.map pD ++ [pD p])) (putFl "past" (.lst (ps.map pD)) (dkF w (tabsOfR w ps) (ps ++ [p]) fs)) = dkF w (tabsOfR w ps) ps (fs ++ [p]) := by
    rw [← List.map_singleton (f := pD), ← List.map_append]
    rfl
  simp only [tabs_drop, e2, e3]
  rw [rsvD_id (upS_self _ _ _)]
  simp_arith only [mSeq_r, mNext_r, sC_r, sRd_r, mRet_r, mDrop_r, mIf_r, mSet_r, mSetC_r, mTgt_r, mTgtC_r, mPar_k, mParK_2, mFor_r, mC_r, mR_r, tR_r, mOp_r, mB1_r, mAndT_r, mOrT_r, mNotT_r, mAnd_r, mNil_r, mCons_r, mCb_r, mTup_r, mRes_r, mMeth_r, mMeth0_r, mMethK_r, mMake_r, noneQ_n, mFldV_r, mFldL_r, mFApp_r, mFPop_r, mFAppPop_r, eFld_r, fldQ_v, fldQ_l, eMethO_r, eMethO0_r, intQ_i, lenO_k, strQ_s, strO_k, isOD_t, isOD_o, rgtQ_t, rgtQ_o, eqOD_r, fnS_r, mForL_nil, mForL_cons, idQ_i, objQ_o, rsv, rsvD_t, rsvD_l, rsvD_i, rsvD_b, rsvD_s, rsvD_n, rsvE_v, rsvE_o, rsvE_n, lk_future]
  rw [last_at (x := pD p) (by simp)]
  simp_arith only
  exact ⟨trivial, rfl, q⟩
theorem undo_no {w : Way} {fs : RowT} (hS : S a = some (dk w [] fs)) (q : E "NothingToUndo" S) : m_desk_undo [idD a] S Q E := by
  simp_arith only [b1_desk_undo_r, b2_desk_undo_r, m_desk_undo_r, mSeq_r, mNext_r, sC_r, sRd_r, mRet_r, mDrop_r, mIf_r, mSet_r, mSetC_r, mTgt_r, mTgtC_r, mPar_k, mParK_2, mFor_r, mC_r, mR_r, tR_r, mOp_r, mB1_r, mAndT_r, mOrT_r, mNotT_r, mAnd_r, mNil_r, mCons_r, mCb_r, mTup_r, mRes_r, mMeth_r, mMeth0_r, mMethK_r, mMake_r, noneQ_n, mFldV_r, mFldL_r, mFApp_r, mFPop_r, mFAppPop_r, eFld_r, fldQ_v, fldQ_l, eMethO_r, eMethO0_r, intQ_i, lenO_k, strQ_s, strO_k, isOD_t, isOD_o, rgtQ_t, rgtQ_o, eqOD_r, fnS_r, mForL_nil, mForL_cons, idQ_i, objQ_o, rsv, rsvD_t, rsvD_l, rsvD_i, rsvD_b, rsvD_s, rsvD_n, rsvE_v, rsvE_o, rsvE_n]
  simp_arith only [List.map_cons, Option.map_some, rsvD_dk hS, mSeq_r, mNext_r, sC_r, sRd_r, mRet_r, mDrop_r, mIf_r, mSet_r, mSetC_r, mTgt_r, mTgtC_r, mPar_k, mParK_2, mFor_r, mC_r, mR_r, tR_r, mOp_r, mB1_r, mAndT_r, mOrT_r, mNotT_r, mAnd_r, mNil_r, mCons_r, mCb_r, mTup_r, mRes_r, mMeth_r, mMeth0_r, mMethK_r, mMake_r, noneQ_n, mFldV_r, mFldL_r, mFApp_r, mFPop_r, mFAppPop_r, eFld_r, fldQ_v, fldQ_l, eMethO_r, eMethO0_r, intQ_i, lenO_k, strQ_s, strO_k, isOD_t, isOD_o, rgtQ_t, rgtQ_o, eqOD_r, fnS_r, mForL_nil, mForL_cons, idQ_i, objQ_o, rsv, rsvD_t, rsvD_l, rsvD_i, rsvD_b, rsvD_s, rsvD_n, rsvE_v, rsvE_o, rsvE_n, lk_past, lk_way, lk_tables]
  refine ⟨trivial, by decide, flat_nil.sh, flat_nil.sh, ?_⟩
  rw [if_pos (by simp [PyData.eqv, PyData.eqvAll])]
  exact q
end
section
variable {Q : D → Prop} {E : Str → Prop} {a b : Addr} {w : Way} {ks : List Int} {ps fs : RowT}
abbrev dkO (a : Addr) (w : Way) (ps fs : RowT) : D := objD a "Desk" (dkF w (tabsOfR w ps) ps fs)
theorem d_order (hw : w.Ok) (hl : ks.length ≤ 30) (hp : RowOk ks ps) (q : Q (.tuple (intsD (order (endT w (begun w) ps))))) : m_desk_order [dkO a w ps fs] Q E := by
  have oE := Ok.endT hw hl (Ok.begun hw ks) hp.keys
  simp_arith only [b1_desk_order_r, m_desk_order_r, mSeq_r, mNext_r, sC_r, sRd_r, mRet_r, mDrop_r, mIf_r, mSet_r, mSetC_r, mTgt_r, mTgtC_r, mPar_k, mParK_2, mFor_r, mC_r, mR_r, tR_r, mOp_r, mB1_r, mAndT_r, mOrT_r, mNotT_r, mAnd_r, mNil_r, mCons_r, mCb_r, mTup_r, mRes_r, mMeth_r, mMeth0_r, mMethK_r, mMake_r, noneQ_n, mFldV_r, mFldL_r, mFApp_r, mFPop_r, mFAppPop_r, eFld_r, fldQ_v, fldQ_l, eMethO_r, eMethO0_r, intQ_i, lenO_k, strQ_s, strO_k, isOD_t, isOD_o, rgtQ_t, rgtQ_o, eqOD_r, fnS_r, mForL_nil, mForL_cons, idQ_i, objQ_o, rsv, rsvD_t, rsvD_l, rsvD_i, rsvD_b, rsvD_s, rsvD_n, rsvE_v, rsvE_o, rsvE_n, lk_way, lk_tables]
  refine ⟨trivial, trivial, ?_⟩
  rw [last_at (tabs_last w ps)]
  simp_arith only
  exact order_ok oE hl q
theorem d_history (q : Q (rowD ps)) : m_desk_history [dkO a w ps fs] Q E := by
  simp_arith only [b1_desk_history_r, m_desk_history_r, mSeq_r, mNext_r, sC_r, sRd_r, mRet_r, mDrop_r, mIf_r, mSet_r, mSetC_r, mTgt_r, mTgtC_r, mPar_k, mParK_2, mFor_r, mC_r, mR_r, tR_r, mOp_r, mB1_r, mAndT_r, mOrT_r, mNotT_r, mAnd_r, mNil_r, mCons_r, mCb_r, mTup_r, mRes_r, mMeth_r, mMeth0_r, mMethK_r, mMake_r, noneQ_n, mFldV_r, mFldL_r, mFApp_r, mFPop_r, mFAppPop_r, eFld_r, fldQ_v, fldQ_l, eMethO_r, eMethO0_r, intQ_i, lenO_k, strQ_s, strO_k, isOD_t, isOD_o, rgtQ_t, rgtQ_o, eqOD_r, fnS_r, mForL_nil, mForL_cons, idQ_i, objQ_o, rsv, rsvD_t, rsvD_l, rsvD_i, rsvD_b, rsvD_s, rsvD_n, rsvE_v, rsvE_o, rsvE_n, lk_past]
  exact ⟨trivial, q⟩
theorem d_len (h : ps.length < 1000) (q : Q (.int ps.length)) : m_desk_len [dkO a w ps fs] Q E := by
  simp_arith only [b1_desk_len_r, m_desk_len_r, mSeq_r, mNext_r, sC_r, sRd_r, mRet_r, mDrop_r, mIf_r, mSet_r, mSetC_r, mTgt_r, mTgtC_r, mPar_k, mParK_2, mFor_r, mC_r, mR_r, tR_r, mOp_r, mB1_r, mAndT_r, mOrT_r, mNotT_r, mAnd_r, mNil_r, mCons_r, mCb_r, mTup_r, mRes_r, mMeth_r, mMeth0_r, mMethK_r, mMake_r, noneQ_n, mFldV_r, mFldL_r, mFApp_r, mFPop_r, mFAppPop_r, eFld_r, fldQ_v, fldQ_l, eMethO_r, eMethO0_r, intQ_i, lenO_k, strQ_s, strO_k, isOD_t, isOD_o, rgtQ_t, rgtQ_o, eqOD_r, fnS_r, mForL_nil, mForL_cons, idQ_i, objQ_o, rsv, rsvD_t, rsvD_l, rsvD_i, rsvD_b, rsvD_s, rsvD_n, rsvE_v, rsvE_o, rsvE_n, lk_past]
  simp only [List.length_map]
  exact ⟨trivial, q⟩
end
end G6
namespace DL
open PySem PySem.Spec L2
section
abbrev KE {α : Type} (f : Rho → WD α) (x : Rho → Option α) : Prop := ∀ ρ a, x ρ = some a → ∀ Q E, Q a → f ρ Q E
abbrev KC {α : Type} (f : List D → WD α) (x : List D → Option α) : Prop := ∀ ds a, x ds = some a → ∀ Q E, Q a → f ds Q E
abbrev KU {α : Type} (f : D → WD α) (x : D → Option α) : Prop := ∀ d a, x d = some a → ∀ Q E, Q a → f d Q E
abbrev KO (f : D → D → WD D) (x : D → D → Option D) : Prop := ∀ a b c, x a b = some c → ∀ Q E, Q c → f a b Q E
variable [Nm] {α β : Type}
theorem bind_some {x : Option α} {f : α → Option β} {b : β} (h : x.bind f = some b) : ∃ a, x = some a ∧ f a = some b := by
  cases x with
  | none => cases h
  | some a => exact ⟨a, rfl, h⟩
def xif (c : Prop) [Decidable c] (x : Option α) : Option α := if c then x else none
theorem xif_some {c : Prop} [Decidable c] {x : Option α} {a : α} (h : xif c x = some a) : c ∧ x = some a := by
  unfold xif at h
  split at h
  · exact ⟨by assumption, h⟩
  · cases h
variable {f g fc : Rho → WD D} {xf xg xc : Rho → Option D} {fa : Rho → WD (List D)} {xa : Rho → Option (List D)} {ga gb : Rho → WD Bool} {xga xgb : Rho → Option Bool} {op op' : D → D → WD D} {xop xop' : D → D → Option D} {u : D → WD D} {xu : D → Option D} {uF : D → WD (List D)} {xuF : D → Option (List D)} {cs : List D → WD D} {xcs : List D → Option D} {csF : List D → WD (List D)} {xcsF : List D → Option (List D)} {fd : Rho → WD (List (Key × D))} {xd : Rho → Option (List (Key × D))} {fo fo' : Rho → WD (Option Int)} {xo xo' : Rho → Option (Option Int)}
def xeVar (i : Nat) : Rho → Option D := fun ρ => (ρ[i]?).bind id
theorem keVar (i : Nat) : KE (eVar i) (xeVar i) := fun ρ a h Q E q => by
  obtain ⟨o, h1, h2⟩ := bind_some h
  rw [zQ, h1, show o = some a from h2]
  exact q
def xeC (d : D) : Rho → Option D := fun _ => some d
theorem keC (d : D) : KE (eC d) (xeC d) := fun ρ a h Q E q => by
  cases h
  exact q
def xeOp (op : D → D → Option D) (f g : Rho → Option D) : Rho → Option D := fun ρ => (f ρ).bind fun a => (g ρ).bind fun b => op a b
theorem keOp (ho : KO op xop) (hf : KE f xf) (hg : KE g xg) : KE (eOp op f g) (xeOp xop xf xg) := fun ρ c h Q E q => by
  obtain ⟨a, h1, h⟩ := bind_some h
  obtain ⟨b, h2, h⟩ := bind_some h
  exact hf ρ a h1 _ E (hg ρ b h2 _ E (ho a b c h Q E q))
def xeUn1 (u : D → Option D) (f : Rho → Option D) : Rho → Option D := fun ρ => (f ρ).bind u
theorem keUn1 (hu : KU u xu) (hf : KE f xf) : KE (eUn1 u f) (xeUn1 xu xf) := fun ρ c h Q E q => by
  obtain ⟨a, h1, h⟩ := bind_some h
  exact hf ρ a h1 _ E (hu a c h Q E q)
def xaNil : Rho → Option (List D) := fun _ => some []
theorem kaNil : KE aNil xaNil := fun ρ a h Q E q => by
  cases h
  exact q
def xaCons (f : Rho → Option D) (g : Rho → Option (List D)) : Rho → Option (List D) := fun ρ => (f ρ).bind fun a => (g ρ).bind fun r => some (a :: r)
theorem kaCons (hf : KE f xf) (hg : KE fa xa) : KE (aCons f fa) (xaCons xf xa) := fun ρ c h Q E q => by
  obtain ⟨a, h1, h⟩ := bind_some h
  obtain ⟨b, h2, h⟩ := bind_some h
  cases h
  exact hf ρ a h1 _ E (hg ρ b h2 _ E q)
def xeTup (f : Rho → Option (List D)) : Rho → Option D := fun ρ => (f ρ).bind fun ds => xif (ds.length ≤ 16777216) (some (.tuple ds))
theorem keTup (hf : KE fa xa) : KE (eTup fa) (xeTup xa) := fun ρ c h Q E q => by
  obtain ⟨a, h1, h⟩ := bind_some h
  obtain ⟨h2, h⟩ := xif_some h
  cases h
  exact hf ρ a h1 _ E ⟨h2, q⟩
def xeCb (c : List D → Option D) (f : Rho → Option (List D)) : Rho → Option D := fun ρ => (f ρ).bind c
theorem keCb (hc : KC cs xcs) (hf : KE fa xa) : KE (eCb cs fa) (xeCb xcs xa) := fun ρ c h Q E q => by
  obtain ⟨a, h1, h⟩ := bind_some h
  exact hf ρ a h1 _ E (hc a c h Q E q)
def xone1 (u : D → Option D) : List D → Option D
  | [d] => u d
  | _ => none
theorem kone1 (hu : KU u xu) : KC (one1 u) (xone1 xu) := fun ds c h Q E q => by
  unfold xone1 at h
  split at h
  · exact hu _ c h Q E q
  · cases h
def boolD : D → Option Bool
  | .bool b => some b
  | _ => none
theorem boolD_some {d : D} {b : Bool} (h : boolD d = some b) : d = .bool b := by
  unfold boolD at h
  split at h
  · cases h
    rfl
  · cases h
def xtB1 (f : Rho → Option D) : Rho → Option Bool := fun ρ => (f ρ).bind boolD
theorem ktB1 (hf : KE f xf) : KE (tB1 f) (xtB1 xf) := fun ρ b h Q E q => by
  obtain ⟨a, h1, h⟩ := bind_some h
  cases boolD_some h
  exact hf ρ _ h1 _ E q
def xtAndD (f g : Rho → Option Bool) : Rho → Option Bool := fun ρ => (f ρ).bind fun b => if b = true then g ρ else some false
theorem ktAndD (hf : KE ga xga) (hg : KE gb xgb) : KE (tAndD ga gb) (xtAndD xga xgb) := fun ρ b h Q E q => by
  obtain ⟨a, h1, h⟩ := bind_some h
  refine hf ρ a h1 _ E ?_
  show if a = true then _ else _
  split at h <;> rename_i e
  · rw [if_pos e]
    exact hg ρ b h Q E q
  · rw [if_neg e]
    cases h
    exact q
def xeIf (c : Rho → Option Bool) (f g : Rho → Option D) : Rho → Option D := fun ρ => (c ρ).bind fun b => if b = true then f ρ else g ρ
theorem keIf (hc : KE ga xga) (hf : KE f xf) (hg : KE g xg) : KE (eIf ga f g) (xeIf xga xf xg) := fun ρ d h Q E q => by
  obtain ⟨a, h1, h⟩ := bind_some h
  refine hc ρ a h1 _ E ?_
  show if a = true then _ else _
  split at h <;> rename_i e
  · rw [if_pos e]
    exact hf ρ d h Q E q
  · rw [if_neg e]
    exact hg ρ d h Q E q
def xeqD (neg : Bool) (a b : D) : Option D := xif (SeqAt.shaped a = true ∧ SeqAt.shaped b = true) (some (.bool (PyData.eqv a b != neg)))
theorem keqD (neg : Bool) : KO (eqD neg) (xeqD neg) := fun a b c h Q E q => by
  obtain ⟨⟨h1, h2⟩, h⟩ := xif_some h
  cases h
  exact ⟨h1, h2, q⟩
def xisND (neg : Bool) : D → D → Option D
  | d, .none => some (.bool (noneD d != neg))
  | _, _ => none
theorem kisND (neg : Bool) : KO (isND neg) (xisND neg) := fun a b c h Q E q => by
  unfold xisND at h
  split at h
  · cases h
    cases a <;> first | exact q | simp_all
  · cases h
def xidxD : D → D → Option D
  | .list xs, .int i => atI xs i
  | .tuple xs, .int i => atI xs i
  | _, _ => none
theorem kidxD : KO idxD xidxD := fun a b c h Q E q => by
  unfold xidxD at h
  split at h
  · rw [yF, h]
    exact q
  · rw [yE, h]
    exact q
  · cases h
def xdgetD : D → D → Option D
  | .dict l, k => (keyOf k).bind fun k => dlook l k
  | _, _ => none
theorem kdgetD : KO dgetD xdgetD := fun a b c h Q E q => by
  unfold xdgetD at h
  split at h
  · obtain ⟨k, h1, h⟩ := bind_some h
    show orStuck (keyOf _) _
    rw [h1]
    show orStuck (dlook _ _) _
    rw [h]
    exact q
  · cases h
def xlenD : D → Option D
  | .list xs => some (.int xs.length)
  | .tuple xs => some (.int xs.length)
  | _ => none
theorem klenD : KU lenD xlenD := fun d c h Q E q => by
  unfold xlenD at h
  split at h
  · cases h
    exact q
  · cases h
    exact q
  · cases h
def xpNil : Rho → Option (List (Key × D)) := fun _ => some []
theorem kpNil : KE pNil xpNil := fun ρ c h Q E q => by
  cases h
  exact q
def xpCons (f g : Rho → Option D) (r : Rho → Option (List (Key × D))) : Rho → Option (List (Key × D)) := fun ρ => (f ρ).bind fun k => (keyOf k).bind fun k => (g ρ).bind fun d => (r ρ).bind fun ds => some ((k, d) :: ds)
theorem kpCons (hf : KE f xf) (hg : KE g xg) (hr : KE fd xd) : KE (pCons f g fd) (xpCons xf xg xd) := fun ρ c h Q E q => by
  obtain ⟨a, h1, h⟩ := bind_some h
  obtain ⟨k, h2, h⟩ := bind_some h
  obtain ⟨d, h3, h⟩ := bind_some h
  obtain ⟨r, h4, h⟩ := bind_some h
  cases h
  rw [yz]
  refine hf ρ a h1 _ E ?_
  rw [h2]
  exact hg ρ d h3 _ E (hr ρ r h4 _ E q)
def xdDisp (f : Rho → Option (List (Key × D))) : Rho → Option (List (Key × D)) := fun ρ => (f ρ).bind fun ds => some (mergeG [] ds)
theorem kdDisp (hr : KE fd xd) : KE (dDisp fd) (xdDisp xd) := fun ρ c h Q E q => by
  obtain ⟨r, h4, h⟩ := bind_some h
  cases h
  exact hr ρ r h4 _ E q
def xlcLoop (step : D → Option (Option D)) : List D → List D → Option (List D)
  | [], acc => some acc
  | x :: xs, acc => (step x).bind fun o => xlcLoop step xs (match o with | some y => acc ++ [y] | none => acc)
def xlcStep (T : Tg) (vs : List Nat) (ft : Rho → Option Bool) (fe : Rho → Option D) (ρ : Rho) : D → Option (Option D) := fun x => (bindT T x).bind fun l => (ft (setAll (wipeR ρ vs) l)).bind fun b => if b = true then (fe (setAll (wipeR ρ vs) l)).bind fun y => some (some y) else some none
theorem klcLoop {T : Tg} {vs : List Nat} {ρ : Rho} (ht : KE ga xga) (hf : KE f xf) {Q : List D → Prop} : ∀ {xs acc r : List D}, xlcLoop (xlcStep T vs xga xf ρ) xs acc = some r → Q r → lcLoop (lcStep T vs ga f ρ) xs acc Q
  | [], acc, r, h, q => by
    cases h
    exact q
  | x :: xs, acc, r, h, q => by
    obtain ⟨o, h1, h⟩ := bind_some h
    obtain ⟨l, h2, h1⟩ := bind_some h1
    obtain ⟨b, h3, h1⟩ := bind_some h1
    unfold lcLoop
    rw [xX, h2]
    refine ht _ b h3 _ _ ?_
    show if b = true then _ else _
    split at h1 <;> rename_i e
    · rw [if_pos e]
      obtain ⟨y, h4, h1⟩ := bind_some h1
      cases h1
      exact hf _ y h4 _ _ (klcLoop ht hf h q)
    · rw [if_neg e]
      cases h1
      exact klcLoop ht hf h q
def xeLc (fi : Rho → Option (List D)) (T : Tg) (vs : List Nat) (ft : Rho → Option Bool) (fe : Rho → Option D) : Rho → Option (List D) := fun ρ => (fi ρ).bind fun xs => xif (xs.length ≤ 1000000) (xlcLoop (xlcStep T vs ft fe ρ) xs [])
theorem keLc (hi : KE fa xa) (T : Tg) (vs : List Nat) (ht : KE ga xga) (hf : KE f xf) : KE (eLc fa T vs ga f) (xeLc xa T vs xga xf) := fun ρ c h Q E q => by
  obtain ⟨xs, h1, h⟩ := bind_some h
  obtain ⟨h2, h⟩ := xif_some h
  exact hi ρ xs h1 _ E ⟨h2, klcLoop ht hf h q⟩
variable {fi1 : Rho → WD (List D)} {xi1 : Rho → Option (List D)}
inductive Out where
  | nx (Γ : Env) | rt (d : D) | bk (Γ : Env) | ct (Γ : Env)
def fits (k : KS) : Out → Prop
  | .nx Γ => k.nx Γ
  | .rt d => k.rt d
  | .bk Γ => k.bk Γ
  | .ct Γ => k.ct Γ
abbrev XS := Env → Option Out
abbrev KSt (F : FS) (x : XS) : Prop := ∀ Γ o, x Γ = some o → ∀ k, fits k o → F Γ k
variable {F G : FS} {xF xG : XS}
def xsNext : XS := fun Γ => some (.nx Γ)
theorem ksNext : KSt sNext xsNext := fun Γ o h k q => by
  cases h
  exact q
def xsSeq (F G : XS) : XS := fun Γ => (F Γ).bind fun o => match o with
  | .nx Γ' => G Γ'
  | o => some o
theorem ksSeq (hF : KSt F xF) (hG : KSt G xG) : KSt (sSeq F G) (xsSeq xF xG) := fun Γ o h k q => by
  obtain ⟨o1, h1, h⟩ := bind_some h
  refine hF Γ o1 h1 _ ?_
  split at h
  · exact hG _ o h k q
  · rename_i ne
    cases h
    cases o with
    | nx Γ' => exact absurd rfl (ne Γ')
    | rt d => exact q
    | bk Γ' => exact q
    | ct Γ' => exact q
def xsIf (c : Rho → Option Bool) (F G : XS) : XS := fun Γ => (c (full Γ)).bind fun b => if b = true then F Γ else G Γ
theorem ksIf (hc : KE ga xga) (hF : KSt F xF) (hG : KSt G xG) : KSt (sIf ga F G) (xsIf xga xF xG) := fun Γ o h k q => by
  obtain ⟨b, h1, h⟩ := bind_some h
  refine hc _ b h1 _ _ ?_
  show if b = true then _ else _
  split at h <;> rename_i e
  · rw [if_pos e]
    exact hF Γ o h k q
  · rw [if_neg e]
    exact hG Γ o h k q
def xsRet (f : Rho → Option D) : XS := fun Γ => (f (full Γ)).bind fun d => some (.rt d)
theorem ksRet (hf : KE f xf) : KSt (sRet f) (xsRet xf) := fun Γ o h k q => by
  obtain ⟨d, h1, h⟩ := bind_some h
  cases h
  exact hf _ d h1 _ _ q
def xsSetFP (i : Nat) (f : Rho → Option (List D)) : XS := fun Γ => (f (full Γ)).bind fun d => xif (pureD.pureAll d = true) (some (.nx (Γ.set i (some (.own (.lst d))))))
theorem ksSetFP (i : Nat) (hf : KE fa xa) : KSt (sSetFP i fa) (xsSetFP i xa) := fun Γ o h k q => by
  obtain ⟨d, h1, h⟩ := bind_some h
  obtain ⟨h2, h⟩ := xif_some h
  cases h
  exact hf _ d h1 _ _ ⟨h2, q⟩
def xsSetD (i : Nat) (f : Rho → Option (List (Key × D))) : XS := fun Γ => (f (clean Γ)).bind fun d => some (.nx (Γ.set i (some (.own (.dct d)))))
theorem ksSetD (i : Nat) (hf : KE fd xd) : KSt (sSetD i fd) (xsSetD i xd) := fun Γ o h k q => by
  obtain ⟨d, h1, h⟩ := bind_some h
  cases h
  exact hf _ d h1 _ _ q
def xsFrz (i : Nat) (F : XS) : XS := fun Γ => F (frz i Γ)
theorem ksFrz (i : Nat) (hF : KSt F xF) : KSt (sFrz i F) (xsFrz i xF) := fun Γ o h k q => hF _ o h k q
end
end DL
namespace DL
open PySem PySem.Spec L2
section
variable [Nm] {f g : Rho → WD D} {xf xg : Rho → Option D} {fo fo' : Rho → WD (Option Int)} {xo xo' : Rho → Option (Option Int)} {F : FS} {xF : XS} {h : List D → D → WD D} {xh : List D → D → Option D} {fd : Rho → WD (List (Key × D))} {xd : Rho → Option (List (Key × D))}
def xownD (i : Nat) (Γ : Env) : Option (List (Key × D)) := match Γ[i]? with
  | some (some (.own (.dct ds))) => some ds
  | _ => none
theorem xownD_some {i : Nat} {Γ : Env} {ds : List (Key × D)} (h : xownD i Γ = some ds) (Q : List (Key × D) → Prop) (q : Q ds) : ownDAt Γ i Q := by
  unfold xownD at h
  unfold ownDAt
  generalize Γ[i]? = o at h ⊢
  match o, h with
  | some (some (.own (.dct l))), h =>
    cases h
    exact q
def xsLck (i : Nat) (F : XS) : XS := fun Γ => (xownD i Γ).bind fun ds => F (Γ.set i (some (.val (dictZ ds))))
theorem ksLck (i : Nat) (hF : KSt F xF) : KSt (sLck i F) (xsLck i xF) := fun Γ o e k q => by
  obtain ⟨ds, h1, e⟩ := bind_some e
  exact xownD_some h1 _ (hF _ o e k q)
def xsUpd (i : Nat) (f : Rho → Option (List (Key × D))) : XS := fun Γ => (xownD i Γ).bind fun ds => (f (clean Γ)).bind fun es => xif (ds.length + es.length ≤ 1000000) (some (.nx (Γ.set i (some (.own (.dct (mergeG ds es)))))))
theorem ksUpd (i : Nat) (hf : KE fd xd) : KSt (sUpd i fd) (xsUpd i xd) := fun Γ o e k q => by
  obtain ⟨ds, h1, e⟩ := bind_some e
  obtain ⟨es, h2, e⟩ := bind_some e
  obtain ⟨h3, e⟩ := xif_some e
  cases e
  exact xownD_some h1 _ (hf _ _ h2 _ _ ⟨h3, q⟩)
def xkeysD2 : D → Option (List D)
  | .dict ((.bool true, .none) :: l) => xif (keysOk (l.map (·.1)) = true) (some (l.map (·.1)))
  | _ => none
def xsKeys2 (f : Rho → Option D) : Rho → Option (List D) := fun ρ => (f ρ).bind xkeysD2
theorem ksKeys2 (hf : KE f xf) : KE (sKeys2 f) (xsKeys2 xf) := fun ρ c e Q E q => by
  obtain ⟨a, h1, e⟩ := bind_some e
  refine hf ρ a h1 _ E ?_
  unfold xkeysD2 at e
  split at e
  · obtain ⟨h3, e⟩ := xif_some e
    cases e
    exact ⟨h3, q⟩
  · cases e
end
end DL
namespace DL
open PySem PySem.Calls PyProof.Rows PySem.W PySem.SeqAt
end DL
namespace DL
open PySem PySem.Spec PyProof.Rows L2
/-- the masks that come -/
def Mk4 (m : Nat) : Prop := m = 7 ∨ m = 31 ∨ m = 127 ∨ m = 511
/-- the round from x on -/
def orbL (m : Nat) : Nat → Nat → List Nat
  | _, 0 => []
  | x, n + 1 => x :: orbL m ((x * 5 + 1) % (m + 1)) n
theorem lcgI_shift (m : Nat) : ∀ (k x : Nat), lcgI m ((x * 5 + 1) % (m + 1)) k = lcgI m x (k + 1)
  | 0, _ => rfl
  | k + 1, x => by
    show (lcgI m ((x * 5 + 1) % (m + 1)) k * 5 + 1) % (m + 1) = (lcgI m x (k + 1) * 5 + 1) % (m + 1)
    rw [lcgI_shift m k x]
theorem mem_orb (m : Nat) : ∀ (n x j : Nat), j ∈ orbL m x n → ∃ k, k < n ∧ lcgI m x k = j
  | 0, _, _, h => by cases h
  | n + 1, x, j, h => by
    rcases List.mem_cons.mp h with e | e
    · exact ⟨0, Nat.succ_pos _, e.symm⟩
    · obtain ⟨k, hk, e2⟩ := mem_orb m n _ j e
      exact ⟨k + 1, Nat.succ_lt_succ hk, by rw [← lcgI_shift]; exact e2⟩
theorem orb511 : ((List.range 512).all fun j => (orbL 511 0 512).contains j) = true := by decide +kernel
theorem round511 : lcgN 511 512 = 0 := by decide +kernel
theorem lcg4_all {m : Nat} (hm : Mk4 m) {j : Nat} (hj : j ≤ m) : ∃ b, b ≤ m ∧ lcgN m b = j := by
  rcases hm with e | e | e | e
  · exact lcg_all (.inl e) hj
  · exact lcg_all (.inr (.inl e)) hj
  · exact lcg_all (.inr (.inr e)) hj
  · subst e
    have h1 := List.all_eq_true.mp orb511 j (List.mem_range.mpr (Nat.lt_succ_of_le hj))
    obtain ⟨k, hk, e⟩ := mem_orb 511 512 0 j (by simpa using h1)
    refine ⟨k, Nat.le_of_lt_succ hk, ?_⟩
    have := lcgN_add 511 0 k
    rw [Nat.zero_add] at this
    rw [← this]
    exact e
theorem lcg4_round {m : Nat} (hm : Mk4 m) : lcgN m (m + 1) = 0 := by
  rcases hm with e | e | e | e
  · exact lcg_round (.inl e)
  · exact lcg_round (.inr (.inl e))
  · exact lcg_round (.inr (.inr e))
  · subst e
    exact round511
theorem lcg4_mod {m : Nat} (hm : Mk4 m) : ∀ k, lcgN m (m + 1 + k) = lcgN m k
  | 0 => lcg4_round hm
  | k + 1 => by
    show (lcgN m (m + 1 + k) * 5 + 1) % (m + 1) = (lcgN m k * 5 + 1) % (m + 1)
    rw [lcg4_mod hm k]
theorem lcg4_from {m : Nat} (hm : Mk4 m) {i j : Nat} (hi : i ≤ m) (hj : j ≤ m) : ∃ k, k ≤ m ∧ lcgI m i k = j := by
  obtain ⟨a, ha, ea⟩ := lcg4_all hm hi
  obtain ⟨b, hb, eb⟩ := lcg4_all hm hj
  subst ea
  subst eb
  by_cases c : a ≤ b
  · exact ⟨b - a, by omega, by rw [lcgN_add, show a + (b - a) = b by omega]⟩
  · exact ⟨b + (m + 1) - a, by omega, by rw [lcgN_add, show a + (b + (m + 1) - a) = m + 1 + b by omega, lcg4_mod hm]⟩
/-- each slot begins a run early enough -/
theorem run4_meets {m : Nat} (hm : Mk4 m) (h : Int) {j : Nat} (hj : j ≤ m) : ∃ n, n ≤ m + 12 ∧ runI m (SetTable.bits h) n = j := by
  obtain ⟨k, hk, e⟩ := lcg4_from hm (runI_le m (SetTable.bits h) 12) hj
  exact ⟨12 + k, by omega, by rw [runI_tail (bits_lt h)]; exact e⟩
theorem nth4_meets {m : Nat} (hm : Mk4 m) (h : Int) {j : Nat} (hj : j ≤ m) : ∃ k, k < 10 * SetTable.turns m ∧ way m h k = j := by
  obtain ⟨n, hn, e⟩ := run4_meets hm h hj
  obtain ⟨k, hk, e2⟩ := run_nth m (SetTable.bits h) n
  exact ⟨k, by unfold SetTable.turns; omega, by show (nth m (runAt m (SetTable.bits h % (m + 1)) (SetTable.bits h)) k).j = j; rw [e2]; exact e⟩
theorem way4_le {m : Nat} {h : Int} {k : Nat} : way m h k ≤ m := by
  have hi : SetTable.bits h % (m + 1) ≤ m := Nat.le_of_lt_succ (Nat.mod_lt _ (Nat.succ_pos _))
  have r := runEnd_bd hi
  have q := nth_in (m := m) k (runAt m (SetTable.bits h % (m + 1)) (SetTable.bits h)) (by
    show SetTable.bits h % (m + 1) + (SetTable.runEnd m (SetTable.bits h % (m + 1)) - SetTable.bits h % (m + 1)) ≤ m
    omega)
  exact Nat.le_trans (Nat.le_add_right _ _) q
/-- a table in which each hash leads to its slot over filled ones -/
structure Tb (t : SetTable) (hs : List Int) : Prop where
  ris : Ris t.place.toList
  dm : t.dummies = #[]
  sz : t.place.toList.length = hs.length
  mok : Mk4 t.mask
  bd : ∀ x ∈ t.place.toList, x ≤ t.mask
  led : ∀ (i : Nat) (h : Int) (j : Nat), hs[i]? = some h → t.place.toList[i]? = some j → ∃ k, way t.mask h k = j ∧ ∀ k', k' < k → way t.mask h k' ∈ t.place.toList
theorem Tb.free {t : SetTable} {hs : List Int} (T : Tb t hs) (hl : hs.length ≤ t.mask) (h : Int) : ∃ K, K < 10 * SetTable.turns t.mask ∧ way t.mask h K ∉ t.place.toList ∧ ∀ k, k < K → way t.mask h k ∈ t.place.toList := by
  obtain ⟨j, hj, hn⟩ := st_missing t.place.toList (t.mask + 1) (by rw [T.sz]; omega)
  obtain ⟨k, hk, e⟩ := nth4_meets T.mok h (Nat.le_of_lt_succ hj)
  obtain ⟨K, h1, h2, h3⟩ := st_least (p := fun k => way t.mask h k ∉ t.place.toList) k (by rw [e]; exact hn)
  exact ⟨K, Nat.lt_of_le_of_lt h1 hk, h2, fun k' hk' => Classical.byContradiction fun c => h3 k' hk' c⟩
/-- one more, at a free slot -/
theorem Tb.more {t : SetTable} {hs : List Int} (T : Tb t hs) {h : Int} {K : Nat} (hK : way t.mask h K ∉ t.place.toList) (hb : ∀ k, k < K → way t.mask h k ∈ t.place.toList) :
    SetTable.below t.place (way t.mask h K) ≤ hs.length ∧
    Tb (t.put (way t.mask h K)).1 (hs.take (SetTable.below t.place (way t.mask h K)) ++ h :: hs.drop (SetTable.below t.place (way t.mask h K))) ∧ (t.put (way t.mask h K)).1.fill = hs.length + 1 := by
  have hjm : way t.mask h K ≤ t.mask := way4_le
  generalize hj : way t.mask h K = j at hK hjm ⊢
  have c1 : SetTable.below t.place j ≤ t.place.toList.length := by
    rw [Array.length_toList]
    exact (below_cut T.ris j).1
  have c2 : SetTable.below t.place j ≤ hs.length := T.sz ▸ c1
  have np : t.place[SetTable.below t.place j]? ≠ some j := fun e => hK (List.mem_of_getElem? (by rw [Array.getElem?_toList]; exact e))
  have pp := put_place t j
  have up : ∀ {x : Nat}, x ∈ t.place.toList → x ∈ (t.put j).1.place.toList := fun hx => by
    rw [pp]
    exact mem_ins.2 (.inr hx)
  have sz : (t.put j).1.place.toList.length = hs.length + 1 := by rw [pp, len_ins _ c1, T.sz]
  refine ⟨c2, ⟨ris_insert T.ris np, put_dm T.dm j, by rw [sz, len_ins _ c2], T.mok, fun x hx => ?_, fun i h' j' h1 h2 => ?_⟩, ?_⟩
  · rw [pp] at hx
    rcases mem_ins.1 hx with z | z
    · rw [z]
      exact hjm
    · exact T.bd x z
  · rw [tins_get hs c2] at h1
    rw [pp, tins_get _ c1] at h2
    show ∃ k, way t.mask h' k = j' ∧ ∀ k', k' < k → way t.mask h' k' ∈ (t.put j).1.place.toList
    have old : ∀ i, hs[i]? = some h' → t.place.toList[i]? = some j' → ∃ k, way t.mask h' k = j' ∧ ∀ k', k' < k → way t.mask h' k' ∈ (t.put j).1.place.toList := fun i a b => by
      obtain ⟨k, e, z⟩ := T.led i h' j' a b
      exact ⟨k, e, fun k' hk' => up (z k' hk')⟩
    by_cases c : i < SetTable.below t.place j
    · rw [if_pos c] at h1 h2
      exact old i h1 h2
    · rw [if_neg c] at h1 h2
      by_cases d : i = SetTable.below t.place j
      · rw [if_pos d] at h1 h2
        cases h1
        cases h2
        exact ⟨K, hj, fun k' hk' => up (hb k' hk')⟩
      · rw [if_neg d] at h1 h2
        exact old _ h1 h2
  · show (t.put j).1.place.size + (t.put j).1.dummies.size = hs.length + 1
    rw [put_dm T.dm j, ← Array.length_toList, sz]
    rfl
end DL
namespace DL
open PySem PySem.Spec PyProof.Rows L2
/-- the tuple at a is such a key -/
def NIs (h : Heap) (d : PyData) (a : Addr) : Prop := NestedIs h (nk d) (.ref a) ∧ (nk d).depth ≤ 8
abbrev hsh (w : World) (d : PyData) : Int := (nk d).hash w
def rowsN (w : World) (L : List (Addr × PyData)) : List (Int × Value) := L.map fun p => (hsh w p.2, Value.ref p.1)
abbrev keysN (L : List (Addr × PyData)) : List NestedKey := L.map fun p => nk p.2
structure SetN (w : World) (h : Heap) (a : Addr) (L : List (Addr × PyData)) (es : Array (Int × Value)) (ep : Nat) (t : SetTable) : Prop where
  ob : ∃ o, h.get? a = some o ∧ o.ExactSet ∧ o.data = .set es ep t
  rows : es.toList = rowsN w L
  tab : Tb t (L.map fun p => hsh w p.2)
  nd : (keysN L).Nodup
  tup : ∀ p ∈ L, NIs h p.2 p.1
  led : w.params.followText "set-order" = true ∨ t.led = true
  room : L.length * 5 < t.mask * 3
  few : L.length < 305
section
variable {P : Program} {w : World} {A : Around} {E : Value → Shared → Prop} {s : Shared} {a : Addr} {L : List (Addr × PyData)} {es : Array (Int × Value)} {ep : Nat} {t : SetTable}
theorem Tb.len {t : SetTable} {hs : List Int} (T : Tb t hs) : t.place.size = hs.length := T.sz
end
end DL
namespace DL
open PySem PySem.Spec PyProof.Rows L2
end DL
namespace DL
open PySem PySem.Spec PyProof.Rows L2
/-- what the set has got from the first i items -/
structure GotN (ks : List (Addr × PyData)) (i : Nat) (L : List (Addr × PyData)) : Prop where
  sub : ∀ p ∈ L, p ∈ ks.take i
  all : ∀ p ∈ ks.take i, nk p.2 ∈ keysN L
  len : L.length ≤ i
theorem GotN.same {ks L : List (Addr × PyData)} {i : Nat} {x : Addr × PyData} (g : GotN ks i L) (h : ks[i]? = some x) (hm : nk x.2 ∈ keysN L) : GotN ks (i + 1) L := by
  refine ⟨fun p hp => ?_, fun p hp => ?_, Nat.le_succ_of_le g.len⟩
  · rw [take_next h]
    exact List.mem_append_left _ (g.sub p hp)
  · rw [take_next h] at hp
    rcases List.mem_append.mp hp with z | z
    · exact g.all p z
    · rw [List.mem_singleton.mp z]
      exact hm
theorem GotN.more {ks L L' : List (Addr × PyData)} {i : Nat} {x : Addr × PyData} (g : GotN ks i L) (h : ks[i]? = some x) (pm : L'.Perm (x :: L)) : GotN ks (i + 1) L' := by
  refine ⟨fun p hp => ?_, fun p hp => ?_, by rw [pm.length_eq]; exact Nat.succ_le_succ g.len⟩
  · rw [take_next h]
    rcases List.mem_cons.mp (pm.mem_iff.mp hp) with e | z
    · rw [e]
      exact List.mem_append_right _ (List.mem_singleton.mpr rfl)
    · exact List.mem_append_left _ (g.sub p z)
  · have e : (keysN L').Perm (nk x.2 :: keysN L) := pm.map _
    rw [e.mem_iff]
    rw [take_next h] at hp
    rcases List.mem_append.mp hp with z | z
    · exact List.mem_cons_of_mem _ (g.all p z)
    · rw [List.mem_singleton.mp z]
      exact List.mem_cons_self
section
variable {P : Program} {w : World} {A : Around} {E : Value → Shared → Prop} {s : Shared}
theorem SetN.keep {h h' : Heap} {a : Addr} {L : List (Addr × PyData)} {es : Array (Int × Value)} {ep : Nat} {t : SetTable} (R : SetN w h a L es ep t) (ha : ∀ o, h.get? a = some o → h'.get? a = some o) (ht : ∀ p ∈ L, NIs h' p.2 p.1) : SetN w h' a L es ep t := by
  obtain ⟨o, ho, r⟩ := R.ob
  exact ⟨⟨o, ha o ho, r⟩, R.rows, R.tab, R.nd, ht, R.led, R.room, R.few⟩
end
end DL
namespace DL
open PySem PySem.Spec PyProof.Rows L2
mutual
theorem nested_of {h : Heap} : ∀ {d : PyData} {v : Value} {as : List Addr}, Reads h v d as → pureD d = true → NestedIs h (nk d) v
  | .none, _, _, .none, _ => .none
  | .bool b, _, _, .bool _, _ => .bool rfl
  | .int i, _, _, .int _ t, _ => .int _ t
  | .str x, _, _, .str _ t, _ => .text _ t
  | .tuple xs, _, _, .tuple e c d r, p => .tup e c d (nesteds_of r p)
  | .list _, _, _, .list _ _ _ _, p => by simp [pureD] at p
  | .dict _, _, _, .dict _ _ _ _ _, p => by simp [pureD] at p
theorem nesteds_of {h : Heap} : ∀ {ds : List PyData} {vs : List Value} {as : List Addr}, ReadsAll h vs ds as → pureD.pureAll ds = true → NestedAll h (nk.nks ds) vs
  | [], _, _, .nil, _ => .nil
  | d :: ds, _, _, .cons r1 r2, p => by
    have e : pureD d = true ∧ pureD.pureAll ds = true := by simpa [pureD.pureAll] using p
    exact .cons (nested_of r1 e.1) (nesteds_of r2 e.2)
end
end DL
namespace DL
open PySem PySem.Spec PyProof.Rows L2
/-- a tuple that may be in a set -/
structure okT (d : D) : Prop where
  pur : pureD d = true
  lay : d.canLay0 = true
  ndp : (nk d).depth ≤ 8
  dep : d.depth ≤ 8
  shp : ∃ xs, d = .tuple xs
def Set0N (w : World) (h : Heap) (a : Addr) (L : List (Addr × D)) : Prop := ∃ (es : Array (Int × Value)) (ep : Nat) (t : SetTable), (∃ o, h.get? a = some o ∧ o.ExactSet ∧ o.data = .set es ep t) ∧ es.toList = rowsN w L ∧ Tb t (L.map fun p => hsh w p.2) ∧ (keysN L).Nodup ∧
    (w.params.followText "set-order" = true ∨ t.led = true) ∧ L.length * 5 < t.mask * 3 ∧ L.length < 305
theorem Set0N.full {w : World} {h : Heap} {a : Addr} {L : List (Addr × D)} (R : Set0N w h a L) (ht : ∀ p ∈ L, NIs h p.2 p.1) : ∃ es ep t, SetN w h a L es ep t := by
  obtain ⟨es, ep, t, h1, h2, h3, h4, h5, h6, h7⟩ := R
  exact ⟨es, ep, t, h1, h2, h3, h4, ht, h5, h6, h7⟩
end DL
namespace DL
open PySem PySem.Spec L2
def noB : D → Bool
  | .none => true
  | .int _ => true
  | .str _ => true
  | .tuple xs => noBs xs
  | _ => false
where noBs : List D → Bool
  | [] => true
  | x :: xs => noB x && noBs xs
end DL
namespace DL
open PySem PySem.Spec PyProof.Rows L2
abbrev asH (L : List (D × Addr × Value)) : List (NestedKey × Addr × Value) := L.map fun x => (nk x.1, x.2.1, x.2.2)
section
variable {X : Cx} {pins : List (Addr × Obj)} {σ : L2.St} {H : Hp} {s : Shared}
/-- such a dict lies at a -/
def NdH (w : World) (H : Hp) (a : Addr) (o : Obj) (L : List (D × Addr × Value)) : Prop := (a == sysModules) = false ∧ (H a = some (ObE a o) ∨ H a = some (.frz o (ObE a o))) ∧ NdOk w o L
theorem NdH.at {w : World} {a : Addr} {o : Obj} {L : List (D × Addr × Value)} (I : Inv X pins σ H s) (h : NdH w H a o L) : s.heap.get? a = some o := by
  rcases h.2.1 with e | e
  · exact (I.hok a _ e).1
  · exact (I.hok a _ e).1
theorem isN_of (I : Inv X pins σ H s) {b : Addr} {k : D} (h : Dp X.K H (.ref b) k) (ok : okK k) : (nestedKind X.prog X.w).is s.heap (nk k) b := by
  obtain ⟨as, r⟩ := Dp.reads I k _ (.ref b) h rfl
  exact ⟨nested_of r ok.pur, ok.ndp⟩
theorem NdH.dict {a : Addr} {o : Obj} {L : List (D × Addr × Value)} (I : Inv X pins σ H s) (h : NdH X.w H a o L) (hk : ∀ x ∈ L, Dp X.K H (.ref x.2.1) x.1) : s.heap.DictOfH (nestedKind X.prog X.w) a (asH L) := by
  obtain ⟨es, ep, e1, e2⟩ := h.2.2.dat
  refine ⟨o, es, ep, h.at I, h.2.2.ex, e1, ?_, fun x hx => ?_, ?_⟩
  · rw [e2, List.map_map]
    rfl
  · obtain ⟨y, hy, rfl⟩ := List.mem_map.mp hx
    exact isN_of I (hk y hy) (h.2.2.ok y hy)
  · rw [List.map_map]
    exact h.2.2.nd
end
end DL
namespace DL
open PySem PySem.Spec PyProof.Rows L2
section
variable [Nm] {O : Ob} {X : Cx} {E : XK}
/-- v stands for such a dict -/
structure NdV (O : Ob) (K : PySem.W.Frag) (H : Hp) (P : Addr → Prop) (a : Addr) (ds : List (D × D)) (o : Obj) (L : List (D × Addr × Value)) (vs : List V) : Prop where
  h : NdH O.wd H a o L
  ks : L.map (·.1) = ds.map (·.1)
  kd : DvAll O K H P (L.map fun x => V.ref x.2.1) (ds.map (·.1))
  us : Vals vs (L.map (·.2.2))
  vd : DvAll O K H P vs (ds.map (·.2))
theorem NdV.same {K : PySem.W.Frag} {H H' : Hp} {P : Addr → Prop} {a : Addr} {ds : List (D × D)} {o : Obj} {L : List (D × Addr × Value)} {vs : List V} (n : NdV O K H P a ds o L vs) (s : Same H H') : NdV O K H' P a ds o L vs :=
  ⟨⟨n.h.1, n.h.2.1.imp (fun e => s.all _ _ e (no_mb n.h.2.2.mb)) (fun e => s.all _ _ e no_frz), n.h.2.2⟩, n.ks, n.kd.same s, n.us, n.vd.same s⟩
theorem zipN {K : PySem.W.Frag} {H : Hp} {P : Addr → Prop} : ∀ {L : List (D × Addr × Value)}, DvAll O K H P (L.map fun x => V.ref x.2.1) (L.map (·.1)) → ∀ x ∈ L, Dv O K H P (.ref x.2.1) x.1
  | [], _, x, hx => by cases hx
  | y :: L, .cons h r, x, hx => by
    rcases List.mem_cons.mp hx with e | e
    · rw [e]
      exact h
    · exact zipN r x e
theorem NdV.keys {K : PySem.W.Frag} {H : Hp} {P : Addr → Prop} {a : Addr} {ds : List (D × D)} {o : Obj} {L : List (D × Addr × Value)} {vs : List V} (n : NdV O K H P a ds o L vs) : ∀ x ∈ L, Dp K H (.ref x.2.1) x.1 := fun x hx => by
  have k := n.kd
  rw [← n.ks] at k
  exact (zipN k x hx).dp (n.h.2.2.ok x hx).lay
/-- of one thing -/
theorem Dv.one {K : PySem.W.Frag} {H : Hp} {P : Addr → Prop} {v : V} {d : D} (h : DvAll O K H P [v] [d]) : Dv O K H P v d := by
  cases h with
  | cons h _ => exact h
variable {pos : Pos} {e : Expr}
end
end DL
namespace DL
open PySem PySem.Spec L2
end DL
namespace TM
theorem found_bd {w : Way} {ks : List Int} {t : Tab} (o : Ok w ks t) (hl : ks.length ≤ 30) (k : Int) : 0 ≤ (found w t k).2 ∧ (found w t k).2 ≤ 64 := by
  cases w with
  | r h c oo =>
    cases t with
    | s T => exact o.elim
    | r R =>
      have o' : OkR h oo ks R := o
      obtain ⟨h0, h1⟩ := home_rng (h := h) (k := k) o'.hm.size
      have t := o'.total
      have lr : (rat R (homeOf h k R.length)).length ≤ R.flatten.length := by
        have f := flat_rput (r := []) h0 h1
        simp only [List.length_nil, Nat.add_zero] at f
        omega
      simp only [found]
      split
      · rename_i z
        have := List.idxOf_lt_length_iff.mpr z
        constructor <;> simp only <;> omega
      · constructor <;> simp only <;> omega
  | s h st c g gr =>
    cases t with
    | r R => exact o.elim
    | s T =>
      have o' : OkS gr ks T := o
      have z := (seek_spec T k (pathOf h st k T.length) 0).2
      rw [path_len] at z
      have := (small o'.size).2
      have e : (found (.s h st c g gr) (.s T) k).2 = (seek T k (pathOf h st k T.length) 0).2 := rfl
      rw [e]
      omega
end TM
namespace TM
end TM
namespace DL
open PySem PySem.Spec PyProof.Rows L2
end DL
namespace DL
open PySem PySem.Spec L2 TM
abbrev rwT (r : List Int) : D := .tuple (r.map PyData.int)
theorem row_ok (r : List Int) : pureD.pureAll (r.map PyData.int) = true ∧ noB.noBs (r.map PyData.int) = true ∧ NestedKey.depthAll (nk.nks (r.map PyData.int)) = 0 ∧ PyData.canLayAll0 (r.map PyData.int) = true := by
  induction r with
  | nil => exact ⟨rfl, rfl, rfl, rfl⟩
  | cons x r ih =>
    obtain ⟨a, b, c, d⟩ := ih
    refine ⟨by simp [pureD.pureAll, pureD, a], by simp [noB.noBs, noB, b], ?_, by simp [PyData.canLayAll0, PyData.canLay0, d]⟩
    simp only [List.map_cons, nk.nks, nk, NestedKey.depthAll, NestedKey.depth, c]
    rfl
def lookM (M : List (List Int × Int)) (o : List Int) : Option Int := (M.find? fun p => decide (p.1 = o)).map (·.2)
def putM (M : List (List Int × Int)) (o : List Int) (v : Int) : List (List Int × Int) := if (lookM M o).isSome = true then M.map (fun p => if p.1 = o then (p.1, v) else p) else M ++ [(o, v)]
/-- how often each was there -/
structure Cn (pre : List (List Int)) (M : List (List Int × Int)) : Prop where
  nd : (M.map (·.1)).Nodup
  mem : ∀ o, o ∈ M.map (·.1) ↔ o ∈ pre
  cnt : ∀ p ∈ M, p.2 = (pre.count p.1 : Nat)
theorem Cn.nil : Cn [] [] := ⟨List.nodup_nil, fun o => by simp, fun p hp => by cases hp⟩
theorem lookM_some {M : List (List Int × Int)} {o : List Int} {v : Int} (h : lookM M o = some v) : (o, v) ∈ M := by
  unfold lookM at h
  obtain ⟨p, h1, h2⟩ := Option.map_eq_some_iff.mp h
  have h3 := List.find?_some h1
  have : p.1 = o := by simpa using h3
  have hm := List.mem_of_find?_eq_some h1
  rw [← this, ← h2]
  exact hm
theorem lookM_none {M : List (List Int × Int)} {o : List Int} (h : lookM M o = none) : o ∉ M.map (·.1) := fun hm => by
  obtain ⟨p, hp, e⟩ := List.mem_map.mp hm
  unfold lookM at h
  rw [Option.map_eq_none_iff, List.find?_eq_none] at h
  exact h p hp (by simpa using e)
theorem Cn.look {pre : List (List Int)} {M : List (List Int × Int)} (c : Cn pre M) (o : List Int) : (lookM M o).getD 0 = (pre.count o : Nat) := by
  cases e : lookM M o with
  | none =>
    have : o ∉ pre := fun z => lookM_none e ((c.mem o).mpr z)
    rw [List.count_eq_zero_of_not_mem this]
    rfl
  | some v => exact c.cnt _ (lookM_some e)
theorem Cn.some {pre : List (List Int)} {M : List (List Int × Int)} (c : Cn pre M) {o : List Int} (h : o ∈ pre) : lookM M o = Option.some (((pre.count o : Nat)) : Int) := by
  cases e : lookM M o with
  | none => exact absurd ((c.mem o).mpr h) (lookM_none e)
  | some v =>
    have h2 : v = ((pre.count o : Nat) : Int) := c.cnt _ (lookM_some e)
    rw [h2]
theorem Cn.step {pre : List (List Int)} {M : List (List Int × Int)} (c : Cn pre M) (o : List Int) : Cn (pre ++ [o]) (putM M o ((lookM M o).getD 0 + 1)) := by
  have lk := c.look o
  unfold putM
  cases e : lookM M o with
  | none =>
    have hn := lookM_none e
    rw [e] at lk
    simp only [Option.isSome_none, Bool.false_eq_true, if_false, Option.getD_none]
    have h0 : pre.count o = 0 := by
      have : (0 : Int) = (pre.count o : Nat) := lk
      omega
    refine ⟨?_, fun x => ?_, fun p hp => ?_⟩
    · rw [List.map_append]
      refine List.nodup_append.mpr ⟨c.nd, by simp, fun a ha b hb z => ?_⟩
      have : b = o := by simpa using hb
      subst this
      subst z
      exact hn ha
    · rw [List.map_append, List.mem_append, List.mem_append, c.mem]
      simp
    · rcases List.mem_append.mp hp with z | z
      · have hne : p.1 ≠ o := fun q => hn (q ▸ List.mem_map.mpr ⟨p, z, rfl⟩)
        rw [c.cnt p z, List.count_append]
        have : [o].count p.1 = 0 := List.count_eq_zero_of_not_mem (by simpa using hne)
        omega
      · have : p = (o, 0 + 1) := by simpa using z
        subst this
        rw [List.count_append, h0]
        simp
  | some v =>
    have hm := lookM_some e
    rw [e] at lk
    simp only [Option.isSome_some, if_true, Option.getD_some]
    have ek : (M.map fun p => if p.1 = o then (p.1, v + 1) else p).map (·.1) = M.map (·.1) := by
      rw [List.map_map]
      refine List.map_congr_left fun p _ => ?_
      show (if p.1 = o then (p.1, v + 1) else p).1 = p.1
      split <;> rfl
    have ho : o ∈ pre := (c.mem o).mp (List.mem_map.mpr ⟨_, hm, rfl⟩)
    refine ⟨by rw [ek]; exact c.nd, fun x => ?_, fun p hp => ?_⟩
    · rw [ek, c.mem, List.mem_append]
      constructor
      · exact .inl
      · rintro (z | z)
        · exact z
        · have : x = o := by simpa using z
          rw [this]
          exact ho
    · obtain ⟨q, hq, rfl⟩ := List.mem_map.mp hp
      by_cases z : q.1 = o
      · simp only [z, if_true]
        have : (v : Int) = (pre.count o : Nat) := lk
        rw [List.count_append]
        simp
        omega
      · simp only [z, if_false]
        rw [c.cnt q hq, List.count_append]
        have : [o].count q.1 = 0 := List.count_eq_zero_of_not_mem (by simpa using z)
        omega
end DL
namespace DL
open PySem PySem.Spec L2 TM
abbrev Se := Int × List Int
def seS (x : String) (p : Se) : D := if x = "looks" then .int p.1 else if x = "order" then rwT p.2 else .tuple [.int p.1, rwT p.2]
theorem see_cases {x : String} (R : D → Prop) (p : Se) (a : R (.int p.1)) (b : R (rwT p.2)) (c : R (.tuple [.int p.1, rwT p.2])) : R (seS x p) := by
  unfold seS
  split
  · exact a
  · split
    · exact b
    · exact c
theorem see_lay (x : String) (p : Se) : (seS x p).canLay0 = true := see_cases (fun d => d.canLay0 = true) p rfl (by simpa [PyData.canLay0] using (row_ok p.2).2.2.2) (by
  have := (row_ok p.2).2.2.2
  simp only [PyData.canLay0, PyData.canLayAll0, Bool.and_true, Bool.true_and]
  exact this)
theorem see_dep (x : String) (p : Se) : (seS x p).depth ≤ 2 := see_cases (fun d => d.depth ≤ 2) p (by simp [PyData.depth]) (by
  have := depth_ints p.2
  simp [PyData.depth, this]) (by
  have := depth_ints p.2
  simp [PyData.depth, PyData.depthAll, this])
/-- where two rows of things differ first -/
def difA (a b : List D) : Option Nat := (List.range b.length).find? fun i => !PyData.eqv (a.getD i .none) (b.getD i .none)
/-- the places of a mark -/
def plcs (ms : List D) (k : D) : List Int := ((List.range ms.length).filter fun i : Nat => decide (nk (ms.getD i .none) = nk k)).map fun i : Nat => (i : Int)
structure Gr (ms : List D) (M : List (D × List Int)) : Prop where
  nd : (M.map fun p => nk p.1).Nodup
  mem : ∀ k, nk k ∈ (M.map fun p => nk p.1) ↔ ∃ m ∈ ms, nk m = nk k
  val : ∀ p ∈ M, p.2 = plcs ms p.1
  sub : ∀ p ∈ M, p.1 ∈ ms
theorem Gr.nil : Gr [] [] := ⟨List.nodup_nil, fun k => by simp, fun p hp => (by cases hp), fun p hp => (by cases hp)⟩
theorem plcs_snoc (ms : List D) (m k : D) : plcs (ms ++ [m]) k = plcs ms k ++ (if nk m = nk k then [(ms.length : Int)] else []) := by
  unfold plcs
  rw [List.length_append, List.length_singleton, List.range_succ, List.filter_append, List.map_append]
  congr 1
  · congr 1
    refine List.filter_congr fun i hi => ?_
    have hi' := List.mem_range.mp hi
    rw [List.getD_eq_getElem?_getD, List.getD_eq_getElem?_getD, List.getElem?_append_left hi']
  · have e : (ms ++ [m]).getD ms.length .none = m := by simp
    simp only [List.filter_cons, List.filter_nil, e]
    by_cases c : nk m = nk k <;> simp [c]
def lookI (M : List (D × List Int)) (k : D) : Option (List Int) := (M.find? fun p => decide (nk p.1 = nk k)).map (·.2)
def putL (M : List (D × List Int)) (k : D) (v : List Int) : List (D × List Int) := if (lookI M k).isSome = true then M.map (fun p => if nk p.1 = nk k then (p.1, v) else p) else M ++ [(k, v)]
theorem lookI_some {M : List (D × List Int)} {k : D} {v : List Int} (h : lookI M k = some v) : ∃ p ∈ M, nk p.1 = nk k ∧ p.2 = v := by
  unfold lookI at h
  obtain ⟨p, h1, h2⟩ := Option.map_eq_some_iff.mp h
  exact ⟨p, List.mem_of_find?_eq_some h1, by simpa using List.find?_some h1, h2⟩
theorem lookI_none {M : List (D × List Int)} {k : D} (h : lookI M k = none) : nk k ∉ (M.map fun p => nk p.1) := fun hm => by
  obtain ⟨p, hp, e⟩ := List.mem_map.mp hm
  unfold lookI at h
  rw [Option.map_eq_none_iff, List.find?_eq_none] at h
  exact h p hp (by simpa using e)
theorem plcs_nk {ms : List D} {k k' : D} (e : nk k = nk k') : plcs ms k = plcs ms k' := by
  unfold plcs
  rw [e]
theorem plcs_none {ms : List D} {k : D} (h : ¬ ∃ m ∈ ms, nk m = nk k) : plcs ms k = [] := by
  unfold plcs
  rw [List.map_eq_nil_iff, List.filter_eq_nil_iff]
  intro i hi z
  have hi' := List.mem_range.mp hi
  have z' : nk (ms.getD i .none) = nk k := by simpa using z
  refine h ⟨ms.getD i .none, ?_, z'⟩
  rw [List.getD_eq_getElem?_getD, List.getElem?_eq_getElem hi']
  exact List.getElem_mem _
theorem Gr.look {ms : List D} {M : List (D × List Int)} (g : Gr ms M) (k : D) : (lookI M k).getD [] = plcs ms k := by
  cases e : lookI M k with
  | none =>
    have h : ¬ ∃ m ∈ ms, nk m = nk k := fun z => lookI_none e ((g.mem k).mpr z)
    rw [plcs_none h]
    rfl
  | some v =>
    obtain ⟨p, hp, e1, e2⟩ := lookI_some e
    show v = _
    rw [← e2, g.val p hp, plcs_nk e1]
theorem Gr.step {ms : List D} {M : List (D × List Int)} (g : Gr ms M) (m : D) : Gr (ms ++ [m]) (putL M m ((lookI M m).getD [] ++ [(ms.length : Int)])) := by
  have lk := g.look m
  unfold putL
  cases e : lookI M m with
  | none =>
    have hn := lookI_none e
    have h0 : ¬ ∃ m' ∈ ms, nk m' = nk m := fun z => hn ((g.mem m).mpr z)
    simp only [Option.isSome_none, Bool.false_eq_true, if_false, Option.getD_none, List.nil_append]
    refine ⟨?_, fun k => ?_, fun p hp => ?_, fun p hp => ?_⟩
    rotate_left 3
    · rcases List.mem_append.mp hp with z | z
      · exact List.mem_append_left _ (g.sub p z)
      · have : p = (m, [(ms.length : Int)]) := by simpa using z
        subst this
        simp
    · rw [List.map_append]
      refine List.nodup_append.mpr ⟨g.nd, by simp, fun a ha b hb z => ?_⟩
      have : b = nk m := by simpa using hb
      subst this
      subst z
      exact hn ha
    · rw [List.map_append, List.mem_append, g.mem]
      constructor
      · rintro (⟨m', h1, h2⟩ | h)
        · exact ⟨m', List.mem_append_left _ h1, h2⟩
        · exact ⟨m, by simp, (by simpa using h : nk k = nk m).symm⟩
      · rintro ⟨m', h1, h2⟩
        rcases List.mem_append.mp h1 with z | z
        · exact .inl ⟨m', z, h2⟩
        · have : m' = m := by simpa using z
          subst this
          exact .inr (by simp [h2])
    · rw [plcs_snoc]
      rcases List.mem_append.mp hp with z | z
      · have ne : nk m ≠ nk p.1 := fun q => hn (by rw [q]; exact List.mem_map.mpr ⟨p, z, rfl⟩)
        rw [if_neg ne, List.append_nil, g.val p z]
      · have : p = (m, [(ms.length : Int)]) := by simpa using z
        subst this
        simp [plcs_none h0]
  | some v =>
    rw [e] at lk
    obtain ⟨p0, hp0, e1, e2⟩ := lookI_some e
    simp only [Option.isSome_some, if_true, Option.getD_some]
    have lk' : v = plcs ms m := lk
    have ek : (M.map fun p => if nk p.1 = nk m then (p.1, v ++ [(ms.length : Int)]) else p).map (fun p => nk p.1) = M.map fun p => nk p.1 := by
      rw [List.map_map]
      refine List.map_congr_left fun p _ => ?_
      show nk (if nk p.1 = nk m then (p.1, v ++ [(ms.length : Int)]) else p).1 = nk p.1
      split <;> rfl
    refine ⟨by rw [ek]; exact g.nd, fun k => ?_, fun p hp => ?_, fun p hp => ?_⟩
    rotate_left 2
    · obtain ⟨q, hq, rfl⟩ := List.mem_map.mp hp
      have := g.sub q hq
      by_cases z : nk q.1 = nk m <;> simp [z, this]
    · rw [ek, g.mem]
      constructor
      · rintro ⟨m', h1, h2⟩
        exact ⟨m', List.mem_append_left _ h1, h2⟩
      · rintro ⟨m', h1, h2⟩
        rcases List.mem_append.mp h1 with z | z
        · exact ⟨m', z, h2⟩
        · have : m' = m := by simpa using z
          subst this
          refine (g.mem k).mp ?_
          rw [← h2, ← e1]
          exact List.mem_map.mpr ⟨p0, hp0, rfl⟩
    · obtain ⟨q, hq, rfl⟩ := List.mem_map.mp hp
      by_cases z : nk q.1 = nk m
      · simp only [z, if_true]
        rw [plcs_snoc, if_pos z.symm, lk', plcs_nk z]
      · simp only [z, if_false]
        rw [plcs_snoc, if_neg (fun y => z y.symm), List.append_nil, g.val q hq]
end DL
namespace G6
open PySem PySem.Spec L2 DL TM
theorem enum_listG {α : Type} (f : α → D) (ws : List α) : (((DL.upTo 0 ws.length).zip (ws.map f)).map fun p => PyData.tuple [p.1, p.2]) = ((List.range ws.length).zip ws).map fun p => PyData.tuple [.int (p.1 : Nat), f p.2] := by
  refine List.ext_getElem (by simp [upTo_len]) fun i h1 h2 => ?_
  simp only [List.getElem_map, List.getElem_zip, List.getElem_range]
  have e : (DL.upTo 0 ws.length)[i]'(by simp [upTo_len] at h1 ⊢; omega) = .int (i : Nat) := by
    have := upTo_get (lo := 0) (n := ws.length) (i := i) (List.getElem?_eq_getElem (by simp [upTo_len] at h1 ⊢; omega))
    simpa using this
  simp only [e]
theorem enum_list {ws : List Way} : (((DL.upTo 0 (ws.map wayD).length).zip (ws.map wayD)).map fun p => PyData.tuple [p.1, p.2]) = ((List.range ws.length).zip ws).map fun p => PyData.tuple [.int (p.1 : Nat), wayD p.2] := by
  rw [List.length_map]
  exact enum_listG wayD ws
section
variable {Q : D → Prop} {E : Str → Prop}
/-- what a way shows of a row -/
def sees (w : Way) (r : RowT) : List Se := (hist w (begun w) r).map fun z => (z.2.2, order z.1)
theorem sees_len (w : Way) (r : RowT) : (sees w r).length = r.length := by
  unfold sees
  rw [List.length_map, hist_len]
theorem sees_eq (x : String) (w : Way) (r : RowT) : ((hist w (begun w) r).map fun z => seeD x z.1 z.2.2) = (sees w r).map (seS x) := by
  unfold sees
  rw [List.map_map]
  rfl
def SeOk (p : Se) : Prop := 0 ≤ p.1 ∧ p.1 ≤ 64 ∧ p.2.length ≤ 64 ∧ ∀ k ∈ p.2, KeyOk k
theorem order_bd {w : Way} {ks : List Int} {t : Tab} (o : Ok w ks t) (hl : ks.length ≤ 30) : (order t).length ≤ 64 ∧ ∀ k ∈ order t, KeyOk k := by
  cases w with
  | r h c oo =>
    cases t with
    | s T => exact o.elim
    | r R =>
      have o' : OkR h oo ks R := o
      have t := o'.total
      exact ⟨by show R.flatten.length ≤ 64; omega, fun k hk => (o'.rng k hk).1⟩
  | s h st c g gr =>
    cases t with
    | r R => exact o.elim
    | s T =>
      have o' : OkS gr ks T := o
      have h1 := (small o'.size).2
      have h2 : (keysS T).length ≤ T.length := List.length_filter_le _ _
      refine ⟨by show (keysS T).length ≤ 64; omega, fun k hk => ?_⟩
      have hk' : k ∈ T.filter _ := hk
      obtain ⟨m, p⟩ := List.mem_filter.mp hk'
      have p' : 0 ≤ k := by simpa using p
      rcases o'.rng k m with z | z | z
      · omega
      · omega
      · exact z.1
theorem sees_ok {w : Way} {ks : List Int} {r : RowT} (hw : w.Ok) (hl : ks.length ≤ 30) (hr : RowOk ks r) : ∀ p ∈ sees w r, SeOk p := fun p hp => by
  unfold sees at hp
  obtain ⟨z, hz, rfl⟩ := List.mem_map.mp hp
  have oh := Ok.hist hw hl (Ok.begun hw ks) hr.keys z hz
  obtain ⟨a, b⟩ := order_bd oh hl
  have hb : ∀ {t : Tab} {r : RowT}, Ok w ks t → (∀ p ∈ r, KeyOk p.2 ∧ p.2 ∈ ks) → ∀ z ∈ hist w t r, 0 ≤ z.2.2 ∧ z.2.2 ≤ 64 := by
    intro t r
    induction r generalizing t with
    | nil => intro _ _ z hz; cases hz
    | cons p r ih =>
      intro o hk z hz
      rcases List.mem_cons.mp hz with y | y
      · subst y
        exact found_bd o hl p.2
      · exact ih (Ok.done hw o (hk p List.mem_cons_self).1 (hk p List.mem_cons_self).2 hl) (fun q hq => hk q (List.mem_cons_of_mem _ hq)) z y
  obtain ⟨c, d⟩ := hb (Ok.begun hw ks) hr.keys z hz
  exact ⟨c, d, a, b⟩
theorem qkey_ok {k : Int} (h : KeyOk k) (q : Q (.bool true)) : m_is_key [.int k] Q E := by
  obtain ⟨k0, k1⟩ := h
  simp_arith only [b1_is_key_r, m_is_key_r]
  refine between_ok ?_
  rw [decide_eq_true ⟨k0, k1⟩]
  exact q
theorem is_order_ok {o : List Int} (hl : o.length ≤ 64) (hk : ∀ k ∈ o, KeyOk k) (q : Q (.bool true)) : m_is_order [rwT o] Q E := by
  simp_arith only [b1_is_order_r, m_is_order_r, reduceIte, Bool.false_eq_true, decide_true, decide_false, Bool.not_true, Bool.not_false, true_and, and_true, decide_not, Bool.true_bne, Bool.false_bne, Bool.not_not, List.length_map]
  have h64 : ((o.length : Nat) : Int) ≤ 64 := by omega
  simp_arith only [decide_eq_true h64, reduceIte, Bool.false_eq_true, decide_true, decide_false, Bool.not_true, Bool.not_false, true_and, and_true, decide_not, Bool.true_bne, Bool.false_bne, Bool.not_not]
  refine ⟨by omega, lcLoop_mp PyData.int (fun _ => PyData.bool true) (fun a ha kk hkk => ?_) ?_⟩
  · simp_arith only [reduceIte, Bool.false_eq_true, decide_true, decide_false, Bool.not_true, Bool.not_false, true_and, and_true, decide_not, Bool.true_bne, Bool.false_bne, Bool.not_not]
    exact qkey_ok (hk a ha) hkk
  · simp_arith only [bools_true]
    simp_arith only [List.all_map]
    have : (o.all (id ∘ fun _ => true)) = true := by simp
    rw [this]
    exact q
theorem see_both (p : Se) : seS "both" p = .tuple [.int p.1, rwT p.2] := by simp [seS]
theorem see_looks (p : Se) : seS "looks" p = .int p.1 := by simp [seS]
theorem see_order (p : Se) : seS "order" p = rwT p.2 := by simp [seS]
theorem sight_of_ok {x : String} {p : Se} (hx : SightOk x) (hp : SeOk p) (q : Q (.bool true)) : m_is_sight_of [seS x p, .str (Str.ofString x)] Q E := by
  obtain ⟨a, b, c, d⟩ := hp
  rcases hx with rfl | rfl | rfl
  · rw [see_both]
    simp_arith only [b1_is_sight_of_r, b2_is_sight_of_r, b3_is_sight_of_r, b4_is_sight_of_r, m_is_sight_of_r, reduceIte, Bool.false_eq_true, decide_true, decide_false, Bool.not_true, Bool.not_false, true_and, and_true, decide_not, Bool.true_bne, Bool.false_bne, Bool.not_not]
    refine between_ok ?_
    rw [decide_eq_true ⟨a, b⟩]
    try simp_arith only
    exact is_order_ok c d q
  · rw [see_looks]
    simp_arith only [b1_is_sight_of_r, b2_is_sight_of_r, b3_is_sight_of_r, b4_is_sight_of_r, m_is_sight_of_r, reduceIte, Bool.false_eq_true, decide_true, decide_false, Bool.not_true, Bool.not_false, true_and, and_true, decide_not, Bool.true_bne, Bool.false_bne, Bool.not_not]
    refine between_ok ?_
    rw [decide_eq_true ⟨a, b⟩]
    exact q
  · rw [see_order]
    simp_arith only [b1_is_sight_of_r, b2_is_sight_of_r, b3_is_sight_of_r, b4_is_sight_of_r, m_is_sight_of_r, reduceIte, Bool.false_eq_true, decide_true, decide_false, Bool.not_true, Bool.not_false, true_and, and_true, decide_not, Bool.true_bne, Bool.false_bne, Bool.not_not]
    exact is_order_ok c d q
theorem check_ways_ok {ws : List Way} {most : Int} (hw : ∀ w ∈ ws, w.Ok) (h1 : 1 ≤ ws.length) (h2 : (ws.length : Int) ≤ most) (h3 : most ≤ 100) (q : Q .none) : m_check_ways [.tuple (ws.map wayD), .int most] Q E := by
  simp_arith only [b1_check_ways_r, m_check_ways_r, reduceIte, Bool.false_eq_true, decide_true, decide_false, Bool.not_true, Bool.not_false, true_and, and_true, decide_not, Bool.true_bne, Bool.false_bne, Bool.not_not, List.length_map]
  rw [if_pos (decide_eq_true (by omega)), if_neg (by simp; omega)]
  refine ⟨by omega, lcLoop_mp wayD (fun _ => PyData.bool true) (fun w hw' kk hkk => ?_) ?_⟩
  · simp_arith only [reduceIte, Bool.false_eq_true, decide_true, decide_false, Bool.not_true, Bool.not_false, true_and, and_true, decide_not, Bool.true_bne, Bool.false_bne, Bool.not_not]
    exact way_ok (hw w hw') hkk
  · simp_arith only [bools_true]
    simp_arith only [List.all_map]
    have : (ws.all (id ∘ fun _ => true)) = true := by simp
    rw [this]
    simpa [zA,zB,zC,zD,zE,zF,zG,zH,zI,zJ,zK,zL,zM,zN,zO,zP,zQ,zR,zS,zT,zU,zV,zW,zX,zY,zZ,zc,zd,ze,zg,zh,zi,zj,zk,zm,zn,zo,zp,zq,zr,zt,zu,zv,zw,zx,zy,zz,yA,startE,full,fullE,clean,cleanE,yB,yC,yD,yE,yF,yG,yH,yI,yJ,yK,yL,yM,yN,yO,yP,yQ,yR,yS,yT,yU,yV,yW,yX,yY,yZ,ya,yb,yc,yd,ye,yf,yg,yh,yi,yj,yk,yl,ym,yn,yo,yp,yq,yr,yt,yu,yw,Bool.bne_false,Bool.bne_true,yx,yy,yz,xA,xB,xC,xD,xE,xH,xI,xJ,xK,xL,xM,xN,xO,xP,xQ,xR,xS,xT,xU,xV,xW,xX,setAll,wipeR,setV,xY,xZ,xb,xi,xj,xk,xl,xm,xn,xp,xq,xr,xt,xw,List.any_cons,List.any_nil,List.map_cons,List.map_nil,List.length_cons,List.length_nil,List.replicate,Nat.sub_self,List.cons_append,List.nil_append,List.append_nil,List.getElem?_cons_zero,List.getElem?_cons_succ,List.set_cons_zero,List.set_cons_succ,List.set_nil,xy,xz,qA,qB,qC,qD,qE,qF,qG,qH,qI,qJ,qK,qL,qM,qN,qO,qP,qQ,qR,qS,qT,qU,qV,qW,qX,qY,qZ,qc,qe,qf,qg,qh,qi,qj,qk,qm,qn,qo,qp,qr,qt,qu,qv,qw,wA,wB,wC,wD,wE,wF,wG,wH,wI,wJ,wK,wL,wM,wN,wO,wP,wQ,wR,wS] using q
end
end G6
namespace G6
open PySem PySem.Spec L2 DL TM TT
def fits (x : String) (w : Way) (r : RowT) (s : List Se) : Bool := (difA ((sees w r).map (seS x)) (s.map (seS x))).isNone
theorem difA_iff (a b : List D) : (difA a b).isNone = true ↔ ∀ i < b.length, PyData.eqv (a.getD i .none) (b.getD i .none) = true := by
  unfold difA
  rw [Option.isNone_iff_eq_none, List.find?_eq_none]
  constructor
  · intro h i hi
    simpa using h i (List.mem_range.mpr hi)
  · intro h i hi
    simpa using h i (List.mem_range.mp hi)
theorem getD_lt {l : List D} {m : List D} {i : Nat} (h : i < l.length) : (l ++ m).getD i .none = l.getD i .none := by
  rw [List.getD_eq_getElem?_getD, List.getD_eq_getElem?_getD, List.getElem?_append_left h]
theorem getD_at {l : List D} {y : D} : (l ++ [y]).getD l.length .none = y := by
  rw [List.getD_eq_getElem?_getD, List.getElem?_append_right (Nat.le_refl _), Nat.sub_self]
  rfl
theorem difA_app {a b : List D} {y z : D} (h : a.length = b.length) : (difA (a ++ [y]) (b ++ [z])).isNone = ((difA a b).isNone && PyData.eqv y z) := by
  rw [Bool.eq_iff_iff, Bool.and_eq_true, difA_iff, difA_iff]
  constructor
  · intro H
    refine ⟨fun i hi => ?_, ?_⟩
    · have := H i (by rw [List.length_append, List.length_singleton]; omega)
      rwa [getD_lt (by omega), getD_lt hi] at this
    · have := H b.length (by rw [List.length_append, List.length_singleton]; omega)
      rwa [getD_at, ← h, getD_at] at this
  · rintro ⟨H, e⟩ i hi
    rw [List.length_append, List.length_singleton] at hi
    by_cases c : i < b.length
    · rw [getD_lt (by omega), getD_lt c]
      exact H i c
    · have : i = b.length := by omega
      subst this
      rw [getD_at, ← h, getD_at]
      exact e
def lastS (w : Way) (r : RowT) (p : Deed3 × Int) : Se := ((found w (endT w (begun w) r) p.2).2, order (done w (endT w (begun w) r) p.1 p.2))
theorem sees_app (w : Way) (r : RowT) (p : Deed3 × Int) : sees w (r ++ [p]) = sees w r ++ [lastS w r p] := by
  unfold sees
  rw [hist_append, List.map_append]
  rfl
theorem fits_app {x : String} {w : Way} {r : RowT} {s : List Se} {p : Deed3 × Int} {e : Se} (h : s.length = r.length) : fits x w (r ++ [p]) (s ++ [e]) = (fits x w r s && PyData.eqv (seS x (lastS w r p)) (seS x e)) := by
  unfold fits
  rw [sees_app, List.map_append, List.map_append, List.map_singleton, List.map_singleton, difA_app (by rw [List.length_map, List.length_map, sees_len, h])]
abbrev baseW (ws : List Way) : List (Nat × Way) := (List.range ws.length).zip ws
def leftE (r : RowT) (p : Nat × Way) : D := .tuple [.int (p.1 : Nat), tabD (endT p.2 (begun p.2) r)]
def leftD (x : String) (ws : List Way) (r : RowT) (s : List Se) : D := .tuple (((baseW ws).filter fun p => fits x p.2 r s).map (leftE r))
def leftZ (x : String) (ws : List Way) (r : RowT) (s : List Se) : List Int := ((baseW ws).filter fun p => fits x p.2 r s).map fun p => (p.1 : Int)
def noteD (x : String) (z : (Deed3 × Int) × Se) : D := .tuple [pD z.1, seS x z.2]
def notesD (x : String) (r : RowT) (s : List Se) : List D := (r.zip s).map (noteD x)
def alongD (x : String) (ws : List Way) (r : RowT) (s : List Se) : List D := (List.range (r.length + 1)).map fun i => leftD x ws (r.take i) (s.take i)
abbrev waysD (ws : List Way) : D := .tuple (ws.map wayD)
def wkF (ws : List Way) (x : String) (A N : List D) : Fls := [("ways", .val (waysD ws)), ("sight", .val (.str (Str.ofString x))), ("left_along", .lst A), ("noted", .lst N)]
def wk (ws : List Way) (x : String) (r : RowT) (s : List Se) : Dk := ⟨"Watcher", wkF ws x (alongD x ws r s) (notesD x r s)⟩
theorem lw_ways (ws : List Way) (x : String) (A N : List D) : (wkF ws x A N).lookup (("ways" : PySem.Str)) = some (.val (waysD ws)) := rfl
theorem lw_sight (ws : List Way) (x : String) (A N : List D) : (wkF ws x A N).lookup (("sight" : PySem.Str)) = some (.val (.str (Str.ofString x))) := rfl
theorem lw_along (ws : List Way) (x : String) (A N : List D) : (wkF ws x A N).lookup (("left_along" : PySem.Str)) = some (.lst A) := rfl
theorem lw_noted (ws : List Way) (x : String) (A N : List D) : (wkF ws x A N).lookup (("noted" : PySem.Str)) = some (.lst N) := rfl
theorem along_app {x : String} {ws : List Way} {r : RowT} {s : List Se} {p : Deed3 × Int} {e : Se} (h : s.length = r.length) : alongD x ws (r ++ [p]) (s ++ [e]) = alongD x ws r s ++ [leftD x ws (r ++ [p]) (s ++ [e])] := by
  unfold alongD
  rw [List.length_append, List.length_singleton, List.range_succ, List.map_append, List.map_singleton]
  congr 1
  · refine List.map_congr_left fun i hi => ?_
    have hi := List.mem_range.mp hi
    rw [List.take_append_of_le_length (by omega), List.take_append_of_le_length (by omega)]
  · rw [List.take_of_length_le (by simp), List.take_of_length_le (by simp; omega)]
theorem along_last {x : String} {ws : List Way} {r : RowT} {s : List Se} (h : s.length = r.length) : (alongD x ws r s).getLast? = some (leftD x ws r s) := by
  unfold alongD
  rw [List.range_succ, List.map_append, List.map_singleton, List.getLast?_concat, List.take_length, ← h, List.take_length]
theorem along_len (x : String) (ws : List Way) (r : RowT) (s : List Se) : (alongD x ws r s).length = r.length + 1 := by simp [alongD]
theorem notes_app {x : String} {r : RowT} {s : List Se} {p : Deed3 × Int} {e : Se} (h : s.length = r.length) : notesD x (r ++ [p]) (s ++ [e]) = notesD x r s ++ [noteD x (p, e)] := by
  unfold notesD
  rw [List.zip_append h.symm, List.map_append]
  rfl
theorem notes_len {x : String} {r : RowT} {s : List Se} (h : s.length = r.length) : (notesD x r s).length = r.length := by simp [notesD, h]
structure WOk (ws : List Way) (ks : List Int) (x : String) (r : RowT) (s : List Se) : Prop where
  hw : ∀ w ∈ ws, w.Ok
  h1 : 1 ≤ ws.length
  h8 : ws.length ≤ 8
  hl : ks.length ≤ 30
  hr : RowOk ks r
  hx : SightOk x
  hs : s.length = r.length
  hs2 : ∀ p ∈ s, SeOk p
theorem pureAll_map {α : Type} {f : α → D} : ∀ {l : List α}, (∀ a ∈ l, pureD (f a) = true) → pureD.pureAll (l.map f) = true
  | [], _ => rfl
  | a :: l, h => by
    show (pureD (f a) && pureD.pureAll (l.map f)) = true
    rw [h a List.mem_cons_self, pureAll_map fun b hb => h b (List.mem_cons_of_mem _ hb)]
    rfl
theorem pure_left (r : RowT) (p : Nat × Way) : pureD (leftE r p) = true := by
  show (pureD (tabD (endT p.2 (begun p.2) r)) && true) = true
  rw [pure_tab]
  rfl
theorem wk_nil (ws : List Way) (x : String) : (⟨"Watcher", wkF ws x [.tuple ((baseW ws).map (leftE []))] []⟩ : Dk) = wk ws x [] [] := by
  unfold wk
  congr 1
  unfold alongD leftD
  have : ((baseW ws).filter fun p => fits x p.2 [] []) = baseW ws := List.filter_eq_self.mpr fun p _ => rfl
  simp [this, notesD]
theorem rsvD_se (S : Sto) (x : String) (e : Se) : rsvD S (seS x e) = seS x e := by
  unfold seS
  split
  · rfl
  · split <;> rfl
def pOk (o : Option Ent) : Prop := o = none ∨ ∃ d, o = some (.val d) ∧ pureD d = true
theorem pOk_ok {o : Option Ent} (h : pOk o) : okE o ∧ unrE o = o := by
  rcases h with rfl | ⟨d, rfl, h⟩
  · exact ⟨trivial, rfl⟩
  · cases d with
    | dict l => cases h
    | _ => exact ⟨h, rfl⟩
theorem pure_se (x : String) (e : Se) : pureD (seS x e) = true := by
  unfold seS
  split
  · rfl
  · split
    · exact pureAll_map fun _ _ => rfl
    · show (true && (pureD.pureAll (intsD e.2) && true)) = true
      rw [show pureD.pureAll (intsD e.2) = true from pureAll_map fun _ _ => rfl]
      rfl
theorem unr_own (c : OwnC) : unrE (some (.own c)) = some (.own c) := rfl
theorem dat_lst (xs : List D) : dataOf (OwnC.lst xs) = .list xs := rfl
theorem rsv_lst (S : Sto) (xs : List D) : rsvD S (.list xs) = .list xs := rfl
theorem flat_leftE (r : RowT) (p : Nat × Way) : Flat 3 (leftE r p) := flat_t fun d hd => by
  simp at hd
  rcases hd with rfl | rfl
  · exact (flat_i _).mono
  · exact flat_tab _
theorem flat_lefts (r : RowT) (l : List (Nat × Way)) : Flat 4 (.list (l.map (leftE r))) := flat_l fun d hd => by
  obtain ⟨z, _, rfl⟩ := List.mem_map.mp hd
  exact flat_leftE r z
theorem flat_se (x : String) (e : Se) : Flat 2 (seS x e) := ⟨see_lay _ _, see_dep _ _⟩
theorem flat_noteD (x : String) (z : (Deed3 × Int) × Se) : Flat 3 (noteD x z) := flat_t fun d hd => by
  simp at hd
  rcases hd with rfl | rfl
  · exact (flat_p _).mono
  · exact flat_se _ _
theorem flat_notes (x : String) (r : RowT) (s : List Se) : Flat 4 (.list (notesD x r s)) := flat_l fun d hd => by
  obtain ⟨z, _, rfl⟩ := List.mem_map.mp hd
  exact flat_noteD x z
theorem unr_obj (a : Addr) (c : Str) (fl : Fls) : unrE (some (.val (objD a c fl))) = some (.val (idD a)) := rfl
section
variable {Q : D → Sto → Prop} {E : Str → Sto → Prop} {S : Sto} {a : Addr} {ws : List Way} {ks : List Int} {x : String} {r : RowT} {s : List Se}
theorem rsvD_wk (h : S a = some (wk ws x r s)) : rsvD S (idD a) = objD a "Watcher" (wkF ws x (alongD x ws r s) (notesD x r s)) := rsvD_id h
theorem winit_ok (hw : ∀ w ∈ ws, w.Ok) (h1 : 1 ≤ ws.length) (h8 : ws.length ≤ 8) (hx : SightOk x) (hS : S a = some ⟨"Watcher", []⟩) (q : Q .none (upS S a (wk ws x [] []))) : m_watcher_init [idD a, waysD ws, .str (Str.ofString x)] S Q E := by
  simp_arith only [b1_watcher_init_r, b2_watcher_init_r, m_watcher_init_r, mSeq_r, mNext_r, sC_r, sRd_r, mRet_r, mDrop_r, mIf_r, mSet_r, mSetC_r, mTgt_r, mTgtC_r, mPar_k, mParK_2, mFor_r, mC_r, mR_r, tR_r, mOp_r, mB1_r, mAndT_r, mOrT_r, mNotT_r, mAnd_r, mNil_r, mCons_r, mCb_r, mTup_r, mRes_r, mMeth_r, mMeth0_r, mMethK_r, mMake_r, noneQ_n, mFldV_r, mFldL_r, mFApp_r, mFPop_r, mFAppPop_r, eFld_r, fldQ_v, fldQ_l, eMethO_r, eMethO0_r, intQ_i, lenO_k, strQ_s, strO_k, isOD_t, isOD_o, rgtQ_t, rgtQ_o, eqOD_r, fnS_r, mForL_nil, mForL_cons, idQ_i, objQ_o, rsv, rsvD_t, rsvD_l, rsvD_i, rsvD_b, rsvD_s, rsvD_n, rsvE_v, rsvE_o, rsvE_n]
  refine check_ways_ok hw h1 (by omega) (by decide) (check_sight_ok hx ?_)
  refine ⟨pureAll_map fun w _ => pure_way w, atC_of hS rfl, putOk_of hS rfl (by decide) ?_⟩
  refine ⟨trivial, atC_of (upS_self _ _ _) rfl, putOk_of (upS_self _ _ _) rfl (Nat.le_of_ble_eq_true rfl) ?_⟩
  rw [enum_list]
  refine ⟨by simp; omega, lcLoop_mp (fun p : Nat × Way => PyData.tuple [.int (p.1 : Nat), wayD p.2]) (leftE []) (fun p hp kk hkk => ?_) ?_⟩
  · simp_arith only [mSeq_r, mNext_r, sC_r, sRd_r, mRet_r, mDrop_r, mIf_r, mSet_r, mSetC_r, mTgt_r, mTgtC_r, mPar_k, mParK_2, mFor_r, mC_r, mR_r, tR_r, mOp_r, mB1_r, mAndT_r, mOrT_r, mNotT_r, mAnd_r, mNil_r, mCons_r, mCb_r, mTup_r, mRes_r, mMeth_r, mMeth0_r, mMethK_r, mMake_r, noneQ_n, mFldV_r, mFldL_r, mFApp_r, mFPop_r, mFAppPop_r, eFld_r, fldQ_v, fldQ_l, eMethO_r, eMethO0_r, intQ_i, lenO_k, strQ_s, strO_k, isOD_t, isOD_o, rgtQ_t, rgtQ_o, eqOD_r, fnS_r, mForL_nil, mForL_cons, idQ_i, objQ_o, rsv, rsvD_t, rsvD_l, rsvD_i, rsvD_b, rsvD_s, rsvD_n, rsvE_v, rsvE_o, rsvE_n]
    refine begun_ok ?_
    exact ⟨by decide, hkk⟩
  refine ⟨by decide, by rw [pureAll_map fun p _ => pure_left [] p]; rfl, atC_of (upS_self _ _ _) rfl, putOk_of (upS_self _ _ _) rfl (Nat.le_of_ble_eq_true rfl) ⟨by decide, trivial, atC_of (upS_self _ _ _) rfl, putOk_of (upS_self _ _ _) rfl (Nat.le_of_ble_eq_true rfl) ?_⟩⟩
  simp only [upS_up]
  rw [← wk_nil] at q
  exact q
abbrev wkO (a : Addr) (ws : List Way) (x : String) (r : RowT) (s : List Se) : D := objD a "Watcher" (wkF ws x (alongD x ws r s) (notesD x r s))
theorem wleft_ok {Q : D → Prop} {E : Str → Prop} (hs : s.length = r.length) (h8 : ws.length ≤ 8) (q : Q (.tuple (intsD (leftZ x ws r s)))) : m_watcher_left [wkO a ws x r s] Q E := by
  simp_arith only [b1_watcher_left_r, m_watcher_left_r, mSeq_r, mNext_r, sC_r, sRd_r, mRet_r, mDrop_r, mIf_r, mSet_r, mSetC_r, mTgt_r, mTgtC_r, mPar_k, mParK_2, mFor_r, mC_r, mR_r, tR_r, mOp_r, mB1_r, mAndT_r, mOrT_r, mNotT_r, mAnd_r, mNil_r, mCons_r, mCb_r, mTup_r, mRes_r, mMeth_r, mMeth0_r, mMethK_r, mMake_r, noneQ_n, mFldV_r, mFldL_r, mFApp_r, mFPop_r, mFAppPop_r, eFld_r, fldQ_v, fldQ_l, eMethO_r, eMethO0_r, intQ_i, lenO_k, strQ_s, strO_k, isOD_t, isOD_o, rgtQ_t, rgtQ_o, eqOD_r, fnS_r, mForL_nil, mForL_cons, idQ_i, objQ_o, rsv, rsvD_t, rsvD_l, rsvD_i, rsvD_b, rsvD_s, rsvD_n, rsvE_v, rsvE_o, rsvE_n, lw_along]
  refine ⟨trivial, ?_⟩
  rw [last_at (along_last hs)]
  simp_arith only [leftD]
  refine ⟨?_, lcLoop_mp (leftE r) (fun p => PyData.int (p.1 : Int)) (fun p hp kk hkk => ?_) ?_⟩
  · rw [List.length_map]
    have := List.length_filter_le (fun p : Nat × Way => fits x p.2 r s) (baseW ws)
    have h2 : (baseW ws).length = ws.length := by simp
    omega
  · simp_arith only [leftE]
    exact hkk
  · have e : ((baseW ws).filter fun p => fits x p.2 r s).map (fun p => PyData.int (p.1 : Int)) = intsD (leftZ x ws r s) := by
      unfold leftZ intsD
      rw [List.map_map]
      rfl
    rw [e]
    exact q
theorem base_mem {p : Nat × Way} (h : p ∈ baseW ws) : p.2 ∈ ws ∧ atI (ws.map wayD) (p.1 : Int) = some (wayD p.2) := by
  refine ⟨(List.of_mem_zip h).2, ?_⟩
  obtain ⟨i, hi, e⟩ := List.mem_iff_getElem.mp h
  rw [List.getElem_zip, List.getElem_range] at e
  subst e
  have hi : i < ws.length := by simpa using hi
  rw [DL.atI_nat (by omega) (by rw [List.length_map]; exact_mod_cast hi)]
  simp
theorem note_loop {kd : Deed3} {k : Int} {e : Se} {K : KS} {A N : List D} (o : WOk ws ks x r s) (hk : KeyOk k ∧ k ∈ ks)
    (q : ∀ o4 o5 o6 o7 o8, (pOk o4 ∧ pOk o5 ∧ pOk o6 ∧ pOk o7 ∧ pOk o8) → K.nx [some (.val (objD a "Watcher" (wkF ws x A N))), some (.val (deedD kd k)), some (.val (seS x e)), some (.own (.lst (((baseW ws).filter fun p => fits x p.2 (r ++ [(kd, k)]) (s ++ [e])).map (leftE (r ++ [(kd, k)]))))), o4, o5, o6, o7, o8]) :
    forLoop (.tup [.name 4, .name 5]) (sSeq b3_watcher_note b4_watcher_note) K (((baseW ws).filter fun p => fits x p.2 r s).map (leftE r)) [some (.val (objD a "Watcher" (wkF ws x A N))), some (.val (deedD kd k)), some (.val (seS x e)), some (.own (.lst [])), none, none, none, none, none] := by
  have eT : ((baseW ws).filter fun p => fits x p.2 (r ++ [(kd, k)]) (s ++ [e])) = (((baseW ws).filter fun p => fits x p.2 r s).filter fun p => PyData.eqv (seS x (lastS p.2 r (kd, k))) (seS x e)) := by
    rw [List.filter_filter]
    refine List.filter_congr fun p _ => ?_
    rw [fits_app o.hs, Bool.and_comm]
  rw [eT] at q
  have hsub : ∀ p ∈ (baseW ws).filter fun p => fits x p.2 r s, p ∈ baseW ws := fun p hp => (List.mem_filter.mp hp).1
  have hlen : ((baseW ws).filter fun p => fits x p.2 r s).length ≤ 8 := by
    have := List.length_filter_le (fun p : Nat × Way => fits x p.2 r s) (baseW ws)
    have h2 : (baseW ws).length = ws.length := by simp
    have := o.h8
    omega
  generalize ((baseW ws).filter fun p => fits x p.2 r s) = L at q hsub hlen
  refine forLoop_mp (leftE r) (fun rest Γ => ∃ acc : List (Nat × Way), (∃ o4 o5 o6 o7 o8, (pOk o4 ∧ pOk o5 ∧ pOk o6 ∧ pOk o7 ∧ pOk o8) ∧ Γ = [some (.val (objD a "Watcher" (wkF ws x A N))), some (.val (deedD kd k)), some (.val (seS x e)), some (.own (.lst (acc.map (leftE (r ++ [(kd, k)]))))), o4, o5, o6, o7, o8]) ∧ acc ++ (rest.filter fun p => PyData.eqv (seS x (lastS p.2 r (kd, k))) (seS x e)) = (L.filter fun p => PyData.eqv (seS x (lastS p.2 r (kd, k))) (seS x e)) ∧ (∀ p ∈ rest, p ∈ baseW ws) ∧ acc.length + rest.length ≤ 8) ?_ _ ?_ _ ⟨[], ⟨_, _, _, _, _, ⟨.inl rfl, .inl rfl, .inl rfl, .inl rfl, .inl rfl⟩, rfl⟩, rfl, hsub, by simpa using hlen⟩
  · rintro Γ ⟨acc, ⟨o4, o5, o6, o7, o8, po, rfl⟩, h, _⟩
    rw [List.filter_nil, List.append_nil] at h
    rw [h]
    exact q _ _ _ _ _ po
  · rintro p rest Γ ⟨acc, ⟨o4, o5, o6, o7, o8, po, rfl⟩, h, hb, hl⟩ nx hnx
    obtain ⟨m1, m2⟩ := base_mem (hb p List.mem_cons_self)
    have hw := o.hw _ m1
    have oE := Ok.endT hw o.hl (Ok.begun hw ks) o.hr.keys
    simp_arith only [leftE, mSeq_r, mNext_r, sC_r, sRd_r, mRet_r, mDrop_r, mIf_r, mSet_r, mSetC_r, mTgt_r, mTgtC_r, mPar_k, mParK_2, mFor_r, mC_r, mR_r, tR_r, mOp_r, mB1_r, mAndT_r, mOrT_r, mNotT_r, mAnd_r, mNil_r, mCons_r, mCb_r, mTup_r, mRes_r, mMeth_r, mMeth0_r, mMethK_r, mMake_r, noneQ_n, mFldV_r, mFldL_r, mFApp_r, mFPop_r, mFAppPop_r, eFld_r, fldQ_v, fldQ_l, eMethO_r, eMethO0_r, intQ_i, lenO_k, strQ_s, strO_k, isOD_t, isOD_o, rgtQ_t, rgtQ_o, eqOD_r, fnS_r, mForL_nil, mForL_cons, idQ_i, objQ_o, rsv, rsvD_t, rsvD_l, rsvD_i, rsvD_b, rsvD_s, rsvD_n, rsvE_v, rsvE_o, rsvE_n, b3_watcher_note_r, b4_watcher_note_r, lw_ways, lw_sight, m2]
    refine ⟨trivial, done_ok hw oE o.hl ?_⟩
    simp_arith only [mSeq_r, mNext_r, sC_r, sRd_r, mRet_r, mDrop_r, mIf_r, mSet_r, mSetC_r, mTgt_r, mTgtC_r, mPar_k, mParK_2, mFor_r, mC_r, mR_r, tR_r, mOp_r, mB1_r, mAndT_r, mOrT_r, mNotT_r, mAnd_r, mNil_r, mCons_r, mCb_r, mTup_r, mRes_r, mMeth_r, mMeth0_r, mMethK_r, mMake_r, noneQ_n, mFldV_r, mFldL_r, mFApp_r, mFPop_r, mFAppPop_r, eFld_r, fldQ_v, fldQ_l, eMethO_r, eMethO0_r, intQ_i, lenO_k, strQ_s, strO_k, isOD_t, isOD_o, rgtQ_t, rgtQ_o, eqOD_r, fnS_r, mForL_nil, mForL_cons, idQ_i, objQ_o, rsv, rsvD_t, rsvD_l, rsvD_i, rsvD_b, rsvD_s, rsvD_n, rsvE_v, rsvE_o, rsvE_n, lw_ways, lw_sight, m2]
    refine ⟨trivial, trivial, seen_ok (oE.done hw hk.1 hk.2 o.hl) o.hl o.hx ?_⟩
    have po' : pOk (some (.val (.int (p.1 : Int)))) ∧ pOk (some (.val (tabD (endT p.2 (begun p.2) r)))) ∧ pOk (some (.val (tabD (done p.2 (endT p.2 (begun p.2) r) kd k)))) ∧ pOk (some (.val (.bool (found p.2 (endT p.2 (begun p.2) r) k).1.isSome))) ∧ pOk (some (.val (.int (found p.2 (endT p.2 (begun p.2) r) k).2))) :=
      ⟨.inr ⟨_, rfl, rfl⟩, .inr ⟨_, rfl, pure_tab _⟩, .inr ⟨_, rfl, pure_tab _⟩, .inr ⟨_, rfl, rfl⟩, .inr ⟨_, rfl, rfl⟩⟩
    have eS : seeD x (done p.2 (endT p.2 (begun p.2) r) kd k) (found p.2 (endT p.2 (begun p.2) r) k).2 = seS x (lastS p.2 r (kd, k)) := rfl
    rw [eS]
    have hl' : acc.length + (rest.length + 1) ≤ 8 := by simpa using hl
    refine ⟨Flat.sh (n := 2) ⟨see_lay _ _, see_dep _ _⟩, Flat.sh (n := 2) ⟨see_lay _ _, see_dep _ _⟩, ?_⟩
    by_cases c : PyData.eqv (seS x (lastS p.2 r (kd, k))) (seS x e) = true
    · rw [if_pos c]
      rw [List.filter_cons_of_pos (by exact c)] at h
      refine ⟨by decide, by rw [List.length_map]; omega, hnx _ ⟨acc ++ [p], ⟨_, _, _, _, _, po', ?_⟩, by rw [List.append_assoc]; exact h, fun q hq => hb q (List.mem_cons_of_mem _ hq), by simp; omega⟩⟩
      rw [List.map_append, List.map_singleton]
      have eL : leftE (r ++ [(kd, k)]) p = .tuple [.int (p.1 : Int), tabD (done p.2 (endT p.2 (begun p.2) r) kd k)] := by
        unfold leftE
        rw [endT_append]
        rfl
      rw [eL]
    · rw [if_neg c]
      rw [List.filter_cons_of_neg (by exact c)] at h
      exact hnx _ ⟨acc, ⟨_, _, _, _, _, po', rfl⟩, h, fun q hq => hb q (List.mem_cons_of_mem _ hq), by omega⟩
theorem note_ok {kd : Deed3} {k : Int} {e : Se} (o : WOk ws ks x r s) (hk : KeyOk k ∧ k ∈ ks) (he : SeOk e) (h24 : r.length < 24) (hS : S a = some (wk ws x r s)) (hz : leftZ x ws (r ++ [(kd, k)]) (s ++ [e]) ≠ [])
    (q : Q (.tuple (intsD (leftZ x ws (r ++ [(kd, k)]) (s ++ [e])))) (upS S a (wk ws x (r ++ [(kd, k)]) (s ++ [e])))) : m_watcher_note [idD a, deedD kd k, seS x e] S Q E := by
  simp_arith only [b1_watcher_note_r, b2_watcher_note_r, b3_watcher_note_r, b4_watcher_note_r, b5_watcher_note_r, b6_watcher_note_r, b7_watcher_note_r, b8_watcher_note_r, m_watcher_note_r, mSeq_r, mNext_r, sC_r, sRd_r, mRet_r, mDrop_r, mIf_r, mSet_r, mSetC_r, mTgt_r, mTgtC_r, mPar_k, mParK_2, mFor_r, mC_r, mR_r, tR_r, mOp_r, mB1_r, mAndT_r, mOrT_r, mNotT_r, mAnd_r, mNil_r, mCons_r, mCb_r, mTup_r, mRes_r, mMeth_r, mMeth0_r, mMethK_r, mMake_r, noneQ_n, mFldV_r, mFldL_r, mFApp_r, mFPop_r, mFAppPop_r, eFld_r, fldQ_v, fldQ_l, eMethO_r, eMethO0_r, intQ_i, lenO_k, strQ_s, strO_k, isOD_t, isOD_o, rgtQ_t, rgtQ_o, eqOD_r, fnS_r, mForL_nil, mForL_cons, idQ_i, objQ_o, rsv, rsvD_t, rsvD_l, rsvD_i, rsvD_b, rsvD_s, rsvD_n, rsvE_v, rsvE_o, rsvE_n]
  refine check_deed_ok hk.1 ?_
  simp_arith only [List.map_cons, Option.map_some, rsvD_wk hS, mSeq_r, mNext_r, sC_r, sRd_r, mRet_r, mDrop_r, mIf_r, mSet_r, mSetC_r, mTgt_r, mTgtC_r, mPar_k, mParK_2, mFor_r, mC_r, mR_r, tR_r, mOp_r, mB1_r, mAndT_r, mOrT_r, mNotT_r, mAnd_r, mNil_r, mCons_r, mCb_r, mTup_r, mRes_r, mMeth_r, mMeth0_r, mMethK_r, mMake_r, noneQ_n, mFldV_r, mFldL_r, mFApp_r, mFPop_r, mFAppPop_r, eFld_r, fldQ_v, fldQ_l, eMethO_r, eMethO0_r, intQ_i, lenO_k, strQ_s, strO_k, isOD_t, isOD_o, rgtQ_t, rgtQ_o, eqOD_r, fnS_r, mForL_nil, mForL_cons, idQ_i, objQ_o, rsv, rsvD_t, rsvD_l, rsvD_i, rsvD_b, rsvD_s, rsvD_n, rsvE_v, rsvE_o, rsvE_n, lw_noted, lw_sight, lw_ways]
  refine ⟨trivial, ?_⟩
  rw [rsvD_se]
  refine sight_of_ok o.hx he ?_
  rw [zp, if_neg (by decide)]
  refine ⟨trivial, trivial, trivial, ?_⟩
  rw [notes_len o.hs, if_neg (by simp; omega)]
  simp_arith only [lw_along, mSeq_r, mNext_r, sC_r, sRd_r, mRet_r, mDrop_r, mIf_r, mSet_r, mSetC_r, mTgt_r, mTgtC_r, mPar_k, mParK_2, mFor_r, mC_r, mR_r, tR_r, mOp_r, mB1_r, mAndT_r, mOrT_r, mNotT_r, mAnd_r, mNil_r, mCons_r, mCb_r, mTup_r, mRes_r, mMeth_r, mMeth0_r, mMethK_r, mMake_r, noneQ_n, mFldV_r, mFldL_r, mFApp_r, mFPop_r, mFAppPop_r, eFld_r, fldQ_v, fldQ_l, eMethO_r, eMethO0_r, intQ_i, lenO_k, strQ_s, strO_k, isOD_t, isOD_o, rgtQ_t, rgtQ_o, eqOD_r, fnS_r, mForL_nil, mForL_cons, idQ_i, objQ_o, rsv, rsvD_t, rsvD_l, rsvD_i, rsvD_b, rsvD_s, rsvD_n, rsvE_v, rsvE_o, rsvE_n]
  refine ⟨by decide, trivial, ?_⟩
  rw [last_at (along_last o.hs)]
  simp_arith only [leftD]
  refine note_loop o hk ?_
  intro o4 o5 o6 o7 o8 ⟨p4, p5, p6, p7, p8⟩
  have fz : ((baseW ws).filter fun p => fits x p.2 (r ++ [(kd, k)]) (s ++ [e])) ≠ [] := fun z => hz (by unfold leftZ; rw [z]; rfl)
  refine ⟨fun o' ho => ?_, ?_⟩
  · simp only [List.mem_cons, List.not_mem_nil, or_false] at ho
    rcases ho with rfl | rfl | rfl | rfl | rfl | rfl | rfl | rfl | rfl
    · trivial
    · exact (pOk_ok (.inr ⟨_, rfl, rfl⟩)).1
    · exact (pOk_ok (.inr ⟨_, rfl, pure_se x e⟩)).1
    · exact pureAll_map fun p _ => pure_left _ p
    · exact (pOk_ok p4).1
    · exact (pOk_ok p5).1
    · exact (pOk_ok p6).1
    · exact (pOk_ok p7).1
    · exact (pOk_ok p8).1
  simp only [List.map_cons,List.map_nil,(pOk_ok p4).2,(pOk_ok p5).2,(pOk_ok p6).2,(pOk_ok p7).2,(pOk_ok p8).2,unr_obj,(pOk_ok (.inr ⟨_,rfl,pure_se x e⟩)).2,(pOk_ok (.inr ⟨_,rfl,(rfl : pureD (deedD kd k) = true)⟩)).2]
  have sl : SeqAt.shaped (.list (((baseW ws).filter fun p => fits x p.2 (r ++ [(kd, k)]) (s ++ [e])).map (leftE (r ++ [(kd, k)])))) = true := (flat_lefts _ _).sh
  simp_arith only [mSeq_r, mNext_r, sC_r, sRd_r, mRet_r, mDrop_r, mIf_r, mSet_r, mSetC_r, mTgt_r, mTgtC_r, mPar_k, mParK_2, mFor_r, mC_r, mR_r, tR_r, mOp_r, mB1_r, mAndT_r, mOrT_r, mNotT_r, mAnd_r, mNil_r, mCons_r, mCb_r, mTup_r, mRes_r, mMeth_r, mMeth0_r, mMethK_r, mMake_r, noneQ_n, mFldV_r, mFldL_r, mFApp_r, mFPop_r, mFAppPop_r, eFld_r, fldQ_v, fldQ_l, eMethO_r, eMethO0_r, intQ_i, lenO_k, strQ_s, strO_k, isOD_t, isOD_o, rgtQ_t, rgtQ_o, eqOD_r, fnS_r, mForL_nil, mForL_cons, idQ_i, objQ_o, rsv, rsvD_t, rsvD_l, rsvD_i, rsvD_b, rsvD_s, rsvD_n, rsvE_v, rsvE_o, rsvE_n, unr_own, dat_lst, rsv_lst, rsvD_se]
  refine ⟨by decide, sl, flat_nil.sh, ?_⟩
  rw [eqv_lens (by simpa using fz), if_neg (by decide)]
  refine atF_of hS rfl (lw_along _ _ _ _) ?_
  refine ⟨pureAll_map fun p _ => pure_left _ p, by rw [along_len]; omega, ?_⟩
  rw [put_up hS]
  refine atF_of (upS_self _ _ _) rfl (lw_noted _ _ _ _) ?_
  have eS : stoPut (upS S a ⟨(wk ws x r s).cls, putFl "left_along" (.lst (alongD x ws r s ++ [.tuple (((baseW ws).filter fun p => fits x p.2 (r ++ [(kd, k)]) (s ++ [e])).map (leftE (r ++ [(kd, k)])))])) (wk ws x r s).fl⟩) a "noted" (.lst (notesD x r s ++ [.tuple [deedD kd k, seS x e]])) = upS S a (wk ws x (r ++ [(kd, k)]) (s ++ [e])) := by
    rw [put_up (upS_self _ _ _), upS_up]
    unfold wk
    rw [along_app o.hs, notes_app o.hs]
    rfl
  have eS' := eS
  simp only [deedD] at eS'
  simp only [eS']
  refine ⟨by decide, by rw [pure_se]; rfl, by rw [notes_len o.hs]; omega, ?_⟩
  rw [rsvD_wk (upS_self _ _ _), objQ_o]
  exact ⟨rfl, wleft_ok (by simp [o.hs]) o.h8 ⟨pureAll_map fun _ _ => rfl, q⟩⟩
theorem note_many {kd : Deed3} {k : Int} {e : Se} (o : WOk ws ks x r s) (hk : KeyOk k) (he : SeOk e) (h24 : r.length = 24) (hS : S a = some (wk ws x r s)) (q : E "TooMany" S) : m_watcher_note [idD a, deedD kd k, seS x e] S Q E := by
  simp_arith only [b1_watcher_note_r, b2_watcher_note_r, b3_watcher_note_r, b4_watcher_note_r, b5_watcher_note_r, b6_watcher_note_r, b7_watcher_note_r, b8_watcher_note_r, m_watcher_note_r, mSeq_r, mNext_r, sC_r, sRd_r, mRet_r, mDrop_r, mIf_r, mSet_r, mSetC_r, mTgt_r, mTgtC_r, mPar_k, mParK_2, mFor_r, mC_r, mR_r, tR_r, mOp_r, mB1_r, mAndT_r, mOrT_r, mNotT_r, mAnd_r, mNil_r, mCons_r, mCb_r, mTup_r, mRes_r, mMeth_r, mMeth0_r, mMethK_r, mMake_r, noneQ_n, mFldV_r, mFldL_r, mFApp_r, mFPop_r, mFAppPop_r, eFld_r, fldQ_v, fldQ_l, eMethO_r, eMethO0_r, intQ_i, lenO_k, strQ_s, strO_k, isOD_t, isOD_o, rgtQ_t, rgtQ_o, eqOD_r, fnS_r, mForL_nil, mForL_cons, idQ_i, objQ_o, rsv, rsvD_t, rsvD_l, rsvD_i, rsvD_b, rsvD_s, rsvD_n, rsvE_v, rsvE_o, rsvE_n]
  refine check_deed_ok hk ?_
  simp_arith only [List.map_cons, Option.map_some, rsvD_wk hS, mSeq_r, mNext_r, sC_r, sRd_r, mRet_r, mDrop_r, mIf_r, mSet_r, mSetC_r, mTgt_r, mTgtC_r, mPar_k, mParK_2, mFor_r, mC_r, mR_r, tR_r, mOp_r, mB1_r, mAndT_r, mOrT_r, mNotT_r, mAnd_r, mNil_r, mCons_r, mCb_r, mTup_r, mRes_r, mMeth_r, mMeth0_r, mMethK_r, mMake_r, noneQ_n, mFldV_r, mFldL_r, mFApp_r, mFPop_r, mFAppPop_r, eFld_r, fldQ_v, fldQ_l, eMethO_r, eMethO0_r, intQ_i, lenO_k, strQ_s, strO_k, isOD_t, isOD_o, rgtQ_t, rgtQ_o, eqOD_r, fnS_r, mForL_nil, mForL_cons, idQ_i, objQ_o, rsv, rsvD_t, rsvD_l, rsvD_i, rsvD_b, rsvD_s, rsvD_n, rsvE_v, rsvE_o, rsvE_n, lw_noted, lw_sight, lw_ways]
  refine ⟨trivial, ?_⟩
  rw [rsvD_se]
  refine sight_of_ok o.hx he ?_
  rw [zp, if_neg (by decide)]
  refine ⟨trivial, trivial, trivial, ?_⟩
  rw [notes_len o.hs, if_pos (by simp; omega)]
  exact q
theorem wundo_ok {p : Deed3 × Int} {e : Se} (hs : s.length = r.length) (hS : S a = some (wk ws x (r ++ [p]) (s ++ [e]))) (q : Q (noteD x (p, e)) (upS S a (wk ws x r s))) : m_watcher_undo [idD a] S Q E := by
  simp_arith only [b1_watcher_undo_r, m_watcher_undo_r, mSeq_r, mNext_r, sC_r, sRd_r, mRet_r, mDrop_r, mIf_r, mSet_r, mSetC_r, mTgt_r, mTgtC_r, mPar_k, mParK_2, mFor_r, mC_r, mR_r, tR_r, mOp_r, mB1_r, mAndT_r, mOrT_r, mNotT_r, mAnd_r, mNil_r, mCons_r, mCb_r, mTup_r, mRes_r, mMeth_r, mMeth0_r, mMethK_r, mMake_r, noneQ_n, mFldV_r, mFldL_r, mFApp_r, mFPop_r, mFAppPop_r, eFld_r, fldQ_v, fldQ_l, eMethO_r, eMethO0_r, intQ_i, lenO_k, strQ_s, strO_k, isOD_t, isOD_o, rgtQ_t, rgtQ_o, eqOD_r, fnS_r, mForL_nil, mForL_cons, idQ_i, objQ_o, rsv, rsvD_t, rsvD_l, rsvD_i, rsvD_b, rsvD_s, rsvD_n, rsvE_v, rsvE_o, rsvE_n]
  simp_arith only [List.map_cons, Option.map_some, rsvD_wk hS, mSeq_r, mNext_r, sC_r, sRd_r, mRet_r, mDrop_r, mIf_r, mSet_r, mSetC_r, mTgt_r, mTgtC_r, mPar_k, mParK_2, mFor_r, mC_r, mR_r, tR_r, mOp_r, mB1_r, mAndT_r, mOrT_r, mNotT_r, mAnd_r, mNil_r, mCons_r, mCb_r, mTup_r, mRes_r, mMeth_r, mMeth0_r, mMethK_r, mMake_r, noneQ_n, mFldV_r, mFldL_r, mFApp_r, mFPop_r, mFAppPop_r, eFld_r, fldQ_v, fldQ_l, eMethO_r, eMethO0_r, intQ_i, lenO_k, strQ_s, strO_k, isOD_t, isOD_o, rgtQ_t, rgtQ_o, eqOD_r, fnS_r, mForL_nil, mForL_cons, idQ_i, objQ_o, rsv, rsvD_t, rsvD_l, rsvD_i, rsvD_b, rsvD_s, rsvD_n, rsvE_v, rsvE_o, rsvE_n, lw_noted]
  refine ⟨trivial, by decide, (flat_notes _ _ _).sh, flat_nil.sh, ?_⟩
  rw [notes_app hs, eqv_lens (by simp), if_neg (by simp)]
  refine atF_of hS rfl (lw_along _ _ _ _) ?_
  have e1 : (alongD x ws (r ++ [p]) (s ++ [e]))[(alongD x ws (r ++ [p]) (s ++ [e])).length - 1]? = some (leftD x ws (r ++ [p]) (s ++ [e])) := by
    rw [← List.getLast?_eq_getElem?, along_last (by simp [hs])]
  rw [e1, yZ, put_up hS]
  refine atF_of (upS_self _ _ _) rfl (lw_noted _ _ _ _) ?_
  have e2 : (notesD x (r ++ [p]) (s ++ [e]))[(notesD x (r ++ [p]) (s ++ [e])).length - 1]? = some (noteD x (p, e)) := by
    rw [← List.getLast?_eq_getElem?, notes_app hs, List.getLast?_concat]
  rw [e2, yZ, put_up (upS_self _ _ _), upS_up, along_app hs, notes_app hs, List.dropLast_concat, List.dropLast_concat]
  exact q
end
section
variable {Q : D → Prop} {E : Str → Prop} {a b : Addr} {ws : List Way} {ks : List Int} {x : String} {r : RowT} {s : List Se}
theorem wnotes_ok (q : Q (.tuple (notesD x r s))) : m_watcher_notes [wkO a ws x r s] Q E := by
  simp_arith only [b1_watcher_notes_r, m_watcher_notes_r, mSeq_r, mNext_r, sC_r, sRd_r, mRet_r, mDrop_r, mIf_r, mSet_r, mSetC_r, mTgt_r, mTgtC_r, mPar_k, mParK_2, mFor_r, mC_r, mR_r, tR_r, mOp_r, mB1_r, mAndT_r, mOrT_r, mNotT_r, mAnd_r, mNil_r, mCons_r, mCb_r, mTup_r, mRes_r, mMeth_r, mMeth0_r, mMethK_r, mMake_r, noneQ_n, mFldV_r, mFldL_r, mFApp_r, mFPop_r, mFAppPop_r, eFld_r, fldQ_v, fldQ_l, eMethO_r, eMethO0_r, intQ_i, lenO_k, strQ_s, strO_k, isOD_t, isOD_o, rgtQ_t, rgtQ_o, eqOD_r, fnS_r, mForL_nil, mForL_cons, idQ_i, objQ_o, rsv, rsvD_t, rsvD_l, rsvD_i, rsvD_b, rsvD_s, rsvD_n, rsvE_v, rsvE_o, rsvE_n, lw_noted]
  exact ⟨trivial, q⟩
theorem wlen_ok (hs : s.length = r.length) (h : r.length < 1000) (q : Q (.int r.length)) : m_watcher_len [wkO a ws x r s] Q E := by
  simp_arith only [b1_watcher_len_r, m_watcher_len_r, mSeq_r, mNext_r, sC_r, sRd_r, mRet_r, mDrop_r, mIf_r, mSet_r, mSetC_r, mTgt_r, mTgtC_r, mPar_k, mParK_2, mFor_r, mC_r, mR_r, tR_r, mOp_r, mB1_r, mAndT_r, mOrT_r, mNotT_r, mAnd_r, mNil_r, mCons_r, mCb_r, mTup_r, mRes_r, mMeth_r, mMeth0_r, mMethK_r, mMake_r, noneQ_n, mFldV_r, mFldL_r, mFApp_r, mFPop_r, mFAppPop_r, eFld_r, fldQ_v, fldQ_l, eMethO_r, eMethO0_r, intQ_i, lenO_k, strQ_s, strO_k, isOD_t, isOD_o, rgtQ_t, rgtQ_o, eqOD_r, fnS_r, mForL_nil, mForL_cons, idQ_i, objQ_o, rsv, rsvD_t, rsvD_l, rsvD_i, rsvD_b, rsvD_s, rsvD_n, rsvE_v, rsvE_o, rsvE_n, lw_noted, notes_len hs]
  exact ⟨trivial, q⟩
end
end G6
namespace G6
open PySem PySem.Spec L2 DL TM TT
def allS (st : String) (cs gs : List String) (h : String) : List Way := cs.flatMap fun c => gs.flatMap fun g => ["full", "half", "three"].map fun gr => .s h st c g gr
def allW : List Way :=
  (["fold", "low"].flatMap fun h => ["end", "front"].flatMap fun c => ["one", "two"].map fun o => Way.r h c o) ++
  (["fold", "low"].flatMap fun h => allS "down" ["empty", "first", "late", "near"] ["again", "hole", "mark", "pull"] h ++ allS "own" ["empty", "late"] ["again", "hole", "mark"] h ++
    allS "up" ["empty", "first", "late", "near"] ["again", "hole", "mark", "pull"] h ++ allS "wide" ["empty", "late"] ["again", "hole", "mark"] h)
theorem all_way {w : Way} (h : w.Ok) : w ∈ allW := by
  cases w with
  | r h c o =>
    obtain ⟨h1, h2, h3⟩ := h
    rcases h1 with rfl | rfl <;> rcases h2 with rfl | rfl <;> rcases h3 with rfl | rfl <;> simp [allW, allS]
  | s h st c g gr =>
    obtain ⟨h1, h2, h3, h4, h5, h6⟩ := h
    simp only [allW, allS, List.mem_append, List.mem_flatMap, List.mem_map, List.mem_cons, List.mem_nil_iff, or_false]
    refine .inr ⟨h, by rcases h1 with rfl | rfl <;> simp, ?_⟩
    rcases h6 with h6 | ⟨h6, h7⟩
    · have e : ∃ c', (c' = "empty" ∨ c' = "first" ∨ c' = "late" ∨ c' = "near") ∧ ∃ g', (g' = "again" ∨ g' = "hole" ∨ g' = "mark" ∨ g' = "pull") ∧ ∃ a, (a = "full" ∨ a = "half" ∨ a = "three") ∧ Way.s h st c' g' a = Way.s h st c g gr :=
        ⟨c, by rcases h3 with rfl | rfl | rfl | rfl <;> simp, g, by rcases h4 with rfl | rfl | rfl | rfl <;> simp, gr, by rcases h5 with rfl | rfl | rfl <;> simp, rfl⟩
      rcases h6 with rfl | rfl
      · exact .inl (.inr e)
      · exact .inl (.inl (.inl e))
    · by_cases u : st = "up" ∨ st = "down"
      · have e : ∃ c', (c' = "empty" ∨ c' = "first" ∨ c' = "late" ∨ c' = "near") ∧ ∃ g', (g' = "again" ∨ g' = "hole" ∨ g' = "mark" ∨ g' = "pull") ∧ ∃ a, (a = "full" ∨ a = "half" ∨ a = "three") ∧ Way.s h st c' g' a = Way.s h st c g gr :=
          ⟨c, by rcases h3 with rfl | rfl | rfl | rfl <;> simp, g, by rcases h4 with rfl | rfl | rfl | rfl <;> simp, gr, by rcases h5 with rfl | rfl | rfl <;> simp, rfl⟩
        rcases u with rfl | rfl
        · exact .inl (.inr e)
        · exact .inl (.inl (.inl e))
      · have e : ∃ c', (c' = "empty" ∨ c' = "late") ∧ ∃ g', (g' = "again" ∨ g' = "hole" ∨ g' = "mark") ∧ ∃ a, (a = "full" ∨ a = "half" ∨ a = "three") ∧ Way.s h st c' g' a = Way.s h st c g gr :=
          ⟨c, by rcases h6 with rfl | rfl <;> simp, g, by rcases h4 with rfl | rfl | rfl | rfl <;> simp_all, gr, by rcases h5 with rfl | rfl | rfl <;> simp, rfl⟩
        rcases h2 with rfl | rfl | rfl | rfl
        · exact absurd (.inl rfl) u
        · exact absurd (.inr rfl) u
        · exact .inr e
        · exact .inl (.inl (.inr e))
def R3 (k : Int) : RowT := [(.put, k), (.ask, k), (.take, k)]
def Rn (k : Int) (n : Nat) : RowT := (List.replicate n (R3 k)).flatten
theorem Rn_succ (k : Int) (n : Nat) : Rn k (n + 1) = R3 k ++ Rn k n := by
  unfold Rn
  rw [List.replicate_succ, List.flatten_cons]
def t1 (w : Way) (k : Int) (t : Tab) : Tab := done w t .put k
def t2 (w : Way) (k : Int) (t : Tab) : Tab := done w (t1 w k t) .ask k
def t3 (w : Way) (k : Int) (t : Tab) : Tab := done w (t2 w k t) .take k
def okT (w : Way) (k : Int) (t : Tab) : Bool := !(found w t k).1.isSome && ((found w (t1 w k t) k).1.isSome && ((found w (t2 w k t) k).1.isSome && (decide (order (t2 w k t) = [k]) && decide (order (t3 w k t) = []))))
def sameT : Tab → Tab → Bool
  | .r R, .r R' => decide (R = R')
  | .s T, .s T' => decide (T = T')
  | _, _ => false
theorem sameT_eq {t u : Tab} (h : sameT t u = true) : t = u := by
  cases t <;> cases u <;> simp [sameT] at h <;> rw [h]
def goT (w : Way) (k : Int) : Nat → Tab → Bool
  | 0, _ => true
  | n + 1, t => okT w k t && (sameT (t3 w k t) t || goT w k n (t3 w k t))
def foundR (w : Way) (t : Tab) (r : RowT) : List Bool := (hist w t r).map fun z => z.2.1
def putR (r : RowT) : List Bool := r.map fun p => decide (p.1 ≠ .put)
structure Cyc (w : Way) (k : Int) (n : Nat) (t : Tab) : Prop where
  fnd : foundR w t (Rn k n) = putR (Rn k n)
  emp : 0 < n → order (endT w t (Rn k n)) = []
  one : ∀ m, n = m + 1 → order (endT w t (Rn k m ++ [(.put, k), (.ask, k)])) = [k]
theorem Cyc.step {w : Way} {k : Int} {n : Nat} {t : Tab} (h : okT w k t = true) (c : Cyc w k n (t3 w k t)) : Cyc w k (n + 1) t := by
  unfold okT at h
  simp only [Bool.and_eq_true, decide_eq_true_eq] at h
  obtain ⟨h1, h2, h3, h4, h5⟩ := h
  refine ⟨?_, fun _ => ?_, fun m e => ?_⟩
  · rw [Rn_succ]
    show (found w t k).1.isSome :: (found w (t1 w k t) k).1.isSome :: (found w (t2 w k t) k).1.isSome :: foundR w (t3 w k t) (Rn k n) = false :: true :: true :: putR (Rn k n)
    rw [h2, h3, c.fnd, show (found w t k).1.isSome = false by simpa using h1]
  · rw [Rn_succ]
    show order (endT w (t3 w k t) (Rn k n)) = []
    cases n with
    | zero => exact h5
    | succ n => exact c.emp (by omega)
  · have e : n = m := by omega
    subst e
    cases n with
    | zero => exact h4
    | succ n =>
      rw [Rn_succ]
      exact c.one n rfl
theorem cyc0 (w : Way) (k : Int) (t : Tab) : Cyc w k 0 t := ⟨rfl, fun h => absurd h (by decide), fun m e => by omega⟩
theorem cyc_fix {w : Way} {k : Int} {t : Tab} (h : okT w k t = true) (e : t3 w k t = t) : ∀ n, Cyc w k n t
  | 0 => cyc0 w k t
  | n + 1 => .step h (by rw [e]; exact cyc_fix h e n)
theorem cyc_go {w : Way} {k : Int} : ∀ n t, goT w k n t = true → Cyc w k n t
  | 0, t, _ => cyc0 w k t
  | n + 1, t, h => by
    unfold goT at h
    simp only [Bool.and_eq_true, Bool.or_eq_true] at h
    rcases h.2 with e | e
    · exact cyc_fix h.1 (sameT_eq e) _
    · exact .step h.1 (cyc_go n _ e)
def goW (w : Way) : Bool := (List.range 32).all fun k => goT w (k : Int) 8 (begun w)
theorem goW_all : allW.all goW = true := by decide +kernel
theorem cyc_ok {w : Way} {k : Int} (hw : w.Ok) (hk : KeyOk k) : Cyc w k 8 (begun w) := by
  obtain ⟨h0, h1⟩ := hk
  obtain ⟨n, rfl⟩ : ∃ n : Nat, k = (n : Int) := ⟨k.toNat, by omega⟩
  exact cyc_go _ _ (List.all_eq_true.mp (List.all_eq_true.mp goW_all w (all_way hw)) n (List.mem_range.mpr (by omega)))
theorem done_ask (w : Way) (t : Tab) (k : Int) : done w t .ask k = t := by
  unfold done
  split <;> first | rfl | contradiction
theorem one_put {w : Way} {k : Int} (hw : w.Ok) (hk : KeyOk k) : order (endT w (begun w) [(.put, k)]) = [k] := by
  obtain ⟨h0, h1⟩ := hk
  obtain ⟨n, rfl⟩ : ∃ n : Nat, k = (n : Int) := ⟨k.toNat, by omega⟩
  have h := List.all_eq_true.mp (List.all_eq_true.mp goW_all w (all_way hw)) n (List.mem_range.mpr (by omega))
  unfold goT okT at h
  simp only [Bool.and_eq_true, decide_eq_true_eq] at h
  have := h.1.2.2.2.1
  unfold t2 at this
  rw [done_ask] at this
  exact this
end G6
namespace G6
open PySem PySem.Spec L2 DL TM TT
section
variable {Q : D → Sto → Prop} {E : Str → Sto → Prop} {S : Sto} {a b c : Addr} {w : Way} {k : Int}
theorem mForL_idx {T : Tg} {F : FSS} {k : KSS} (I : Nat → DL.Env → Sto → Prop) (xs : List D) (fin : ∀ Γ S, I xs.length Γ S → k.nx Γ S)
    (step : ∀ i x, xs[i]? = some x → ∀ Γ S (nx : DL.Env → Sto → Prop), I i Γ S → (∀ Γ' S', I (i + 1) Γ' S' → nx Γ' S') → orStuck (bindT T x) fun l => F (setV Γ l) S { k with nx := nx, ct := nx, bk := k.nx }) : ∀ Γ S, I 0 Γ S → mForL T F k xs Γ S := by
  have key : ∀ n j, j + n = xs.length → ∀ Γ S, I j Γ S → mForL T F k (xs.drop j) Γ S := fun n => by
    induction n with
    | zero =>
      intro j e Γ S h
      rw [List.drop_of_length_le (by omega), mForL_nil]
      exact fin Γ S (by rw [← e]; exact h)
    | succ n ih =>
      intro j e Γ S h
      have hj : j < xs.length := by omega
      rw [List.drop_eq_getElem_cons hj, mForL_cons]
      exact step j _ (List.getElem?_eq_getElem hj) Γ S _ h fun Γ' S' h' => ih (j + 1) (by omega) Γ' S' h'
  intro Γ S h
  have := key xs.length 0 (by omega) Γ S h
  rwa [List.drop_zero] at this
theorem rowOk_take {ks : List Int} {r : RowT} {n : Nat} (h : RowOk ks r) : RowOk ks (r.take n) := ⟨fun p hp => h.keys p (List.mem_of_mem_take hp), by have := h.len; rw [List.length_take]; omega⟩
theorem take_1 {r : RowT} {j : Nat} (h : j < r.length) : r.take (j + 1) = r.take j ++ [r[j]] := List.take_succ_eq_append_getElem h
theorem resW_undo : resW "NothingToUndo" = some "undo" := by decide +kernel
theorem resW_many : resW "TooMany" = some "many" := by decide +kernel
theorem sh_w (s : String) : SeqAt.shaped (.tuple [.str (Str.ofString s)]) = true := by rw [xZ]; rfl
theorem six1 (n : Nat) (d : Nat) : HT.sIx (n + 1) d (some (-1)) = n := by
  unfold HT.sIx
  simp only [show (-1 : Int) < 0 by decide, if_true]
  omega
theorem cut_init {α : Type} (l : List α) (x : α) : cutL (l ++ [x]) none (some (-1)) = l := by
  unfold cutL
  rw [List.length_append, List.length_singleton, six1]
  simp [HT.sIx]
theorem flat_row (ps : RowT) : Flat 2 (rowD ps) := flat_t fun d hd => by
  obtain ⟨z, _, rfl⟩ := List.mem_map.mp hd
  exact flat_p z
theorem hist_at (w : Way) : ∀ (t : Tab) (r : RowT) (i : Nat) (h : i < r.length), ∃ T, (hist w t r)[i]? = some (T, (found w (endT w t (r.take i)) r[i].2).1.isSome, (found w (endT w t (r.take i)) r[i].2).2)
  | t, p :: r, 0, _ => ⟨_, rfl⟩
  | t, p :: r, i + 1, h => by
    obtain ⟨T, e⟩ := hist_at w (done w t p.1 p.2) r i (by simpa using h)
    exact ⟨T, e⟩
abbrev Rk (k : Int) : RowT := Rn k 8
theorem Rk_eq (k : Int) : Rk k = [(.put, k), (.ask, k), (.take, k), (.put, k), (.ask, k), (.take, k), (.put, k), (.ask, k), (.take, k), (.put, k), (.ask, k), (.take, k), (.put, k), (.ask, k), (.take, k), (.put, k), (.ask, k), (.take, k), (.put, k), (.ask, k), (.take, k), (.put, k), (.ask, k), (.take, k)] := rfl
theorem Rk_len (k : Int) : (Rk k).length = 24 := rfl
theorem Rk_ok (hk : KeyOk k) : RowOk [k] (Rk k) := ⟨fun p hp => by
  rw [Rk_eq] at hp
  simp only [List.mem_cons, List.not_mem_nil, or_false] at hp
  have : p.2 = k := by rcases hp with rfl | rfl | rfl | rfl | rfl | rfl | rfl | rfl | rfl | rfl | rfl | rfl | rfl | rfl | rfl | rfl | rfl | rfl | rfl | rfl | rfl | rfl | rfl | rfl <;> rfl
  rw [this]
  exact ⟨hk, by simp⟩, by simp [Rk_len]⟩
theorem eqv_se (x : String) (e : Se) : PyData.eqv (seS x e) (seS x e) = true := eqv_of (flat_se x e) rfl
theorem fits_self (x : String) (w : Way) (r : RowT) : fits x w r (sees w r) = true := by
  unfold fits
  rw [difA_iff]
  intro i hi
  rw [List.length_map] at hi
  rw [List.getD_eq_getElem?_getD, List.getElem?_map, List.getElem?_eq_getElem hi]
  exact eqv_se _ _
theorem left_two (x : String) (w : Way) (r : RowT) : leftZ x [w, w] r (sees w r) = [0, 1] := by
  unfold leftZ
  rw [show baseW [w, w] = [(0, w), (1, w)] from rfl]
  simp [fits_self]
theorem sees_take (w : Way) (r : RowT) (n : Nat) : sees w (r.take n) = (sees w r).take n := by
  unfold sees
  rw [hist_take, List.map_take]
theorem wok {r : RowT} (hw : w.Ok) (hk : KeyOk k) (hr : RowOk [k] r) : WOk [w, w] [k] "order" r (sees w r) :=
  ⟨fun v hv => by simp at hv; rw [hv]; exact hw, by simp, by simp, by simp, hr, .inr (.inr rfl), sees_len w r, sees_ok hw (by simp) hr⟩
structure St3 (w : Way) (S : Sto) (a b c : Addr) (r1 r2 : RowT) : Prop where
  ha : S a = some (wk [w, w] "order" r1 (sees w r1))
  hb : S b = some (wk [w, w] "order" [] [])
  hc : S c = some (dk w r2 [])
  ab : a ≠ b
  ac : a ≠ c
  bc : b ≠ c
theorem ne_of {a b : Addr} {k : Dk} (h : S a = some k) (hb : S b = none) : a ≠ b := fun e => by
  subst e
  rw [h] at hb
  cases hb
abbrev envA (w : Way) (k : Int) (a b c : Addr) (o3 o9 o10 : Option Ent) : DL.Env := [some (.val sD), some (.val tD), some (.val (rowD (Rk k))), o3, some (.val (wayD w)), some (.val (.int k)), some (.val (idD a)), some (.val (idD b)), some (.val (idD c)), o9, o10]
theorem loop_ok {K : KSS} (hw : w.Ok) (hk : KeyOk k) {o3 o9 o10 : Option Ent} (h : St3 w S a b c [] []) (q : ∀ S' o9 o10, St3 w S' a b c (Rk k) (Rk k) → K.nx (envA w k a b c o3 o9 o10) S') : b6_law (envA w k a b c o3 o9 o10) S K := by
  have rok := Rk_ok hk
  simp_arith only [b6_law_r, mSeq_r, mNext_r, sC_r, sRd_r, mRet_r, mDrop_r, mIf_r, mSet_r, mSetC_r, mTgt_r, mTgtC_r, mPar_k, mParK_2, mFor_r, mC_r, mR_r, tR_r, mOp_r, mB1_r, mAndT_r, mOrT_r, mNotT_r, mAnd_r, mNil_r, mCons_r, mCb_r, mTup_r, mRes_r, mMeth_r, mMeth0_r, mMethK_r, mMake_r, noneQ_n, mFldV_r, mFldL_r, mFApp_r, mFPop_r, mFAppPop_r, eFld_r, fldQ_v, fldQ_l, eMethO_r, eMethO0_r, intQ_i, lenO_k, strQ_s, strO_k, isOD_t, isOD_o, rgtQ_t, rgtQ_o, eqOD_r, fnS_r, mForL_nil, mForL_cons, idQ_i, objQ_o, rsv, rsvD_t, rsvD_l, rsvD_i, rsvD_b, rsvD_s, rsvD_n, rsvE_v, rsvE_o, rsvE_n]
  refine run_ok hw (by simp) rok (.inr (.inr rfl)) ?_
  rw [sees_eq]
  show mForL (Tg.tup [Tg.name 9, Tg.name 10]) (mSeq b4_law b5_law) K ((((Rk k).map pD).zip ((sees w (Rk k)).map (seS "order"))).map fun p => PyData.tuple [p.1, p.2]) (envA w k a b c o3 o9 o10) S
  have hlen : (sees w (Rk k)).length = 24 := sees_len w (Rk k)
  refine mForL_idx (fun i Γ S' => (∃ o9 o10, Γ = envA w k a b c o3 o9 o10) ∧ St3 w S' a b c ((Rk k).take i) ((Rk k).take i)) _ ?_ ?_ _ _ ⟨⟨_, _, rfl⟩, h⟩
  · rintro Γ S' ⟨⟨o9, o10, rfl⟩, h⟩
    rw [List.length_map, List.length_zip, List.length_map, List.length_map, hlen, Rk_len] at h
    rw [show (Rk k).take (min 24 24) = Rk k from rfl] at h
    exact q _ _ _ h
  · rintro i x hx Γ S' nx ⟨⟨o9, o10, rfl⟩, h⟩ hnx
    obtain ⟨hi, ey⟩ := List.getElem?_eq_some_iff.mp hx
    rw [List.length_map, List.length_zip, List.length_map, List.length_map, hlen, Rk_len] at hi
    have hi : i < 24 := by omega
    have hiR : i < (Rk k).length := by rw [Rk_len]; exact hi
    rw [List.getElem_map, List.getElem_zip, List.getElem_map, List.getElem_map] at ey
    subst ey
    obtain ⟨kd, n, hri⟩ : ∃ kd n, (Rk k)[i] = (kd, n) := ⟨_, _, rfl⟩
    have hn : n = k := by
      have := (rok.keys _ (List.getElem_mem hiR)).2
      rw [hri] at this
      simpa using this
    subst hn
    have his : i < (sees w (Rk n)).length := by omega
    have e1 : (Rk n).take i ++ [(kd, n)] = (Rk n).take (i + 1) := by rw [take_1 hiR, hri]
    have e2 : sees w ((Rk n).take i) ++ [(sees w (Rk n))[i]] = sees w ((Rk n).take (i + 1)) := by
      rw [sees_take, sees_take, List.take_succ_eq_append_getElem his]
    have hr := rowOk_take (n := i) rok
    have htl : ((Rk n).take i).length < 24 := by rw [List.length_take]; omega
    simp_arith only [b4_law_r, mSeq_r, mNext_r, sC_r, sRd_r, mRet_r, mDrop_r, mIf_r, mSet_r, mSetC_r, mTgt_r, mTgtC_r, mPar_k, mParK_2, mFor_r, mC_r, mR_r, tR_r, mOp_r, mB1_r, mAndT_r, mOrT_r, mNotT_r, mAnd_r, mNil_r, mCons_r, mCb_r, mTup_r, mRes_r, mMeth_r, mMeth0_r, mMethK_r, mMake_r, noneQ_n, mFldV_r, mFldL_r, mFApp_r, mFPop_r, mFAppPop_r, eFld_r, fldQ_v, fldQ_l, eMethO_r, eMethO0_r, intQ_i, lenO_k, strQ_s, strO_k, isOD_t, isOD_o, rgtQ_t, rgtQ_o, eqOD_r, fnS_r, mForL_nil, mForL_cons, idQ_i, objQ_o, rsv, rsvD_t, rsvD_l, rsvD_i, rsvD_b, rsvD_s, rsvD_n, rsvE_v, rsvE_o, rsvE_n, hri]
    refine ⟨atC_of h.ha rfl, note_ok (wok hw hk hr) ⟨hk, by simp⟩ (sees_ok hw (by simp) rok _ (List.getElem_mem his)) htl h.ha (by rw [e1, e2, left_two]; simp) ?_⟩
    rw [e1, e2, left_two]
    have hb' := (upS_ne (S := S') (k := wk [w, w] "order" ((Rk n).take (i + 1)) (sees w ((Rk n).take (i + 1)))) h.ab.symm).trans h.hb
    have hc' := (upS_ne (S := S') (k := wk [w, w] "order" ((Rk n).take (i + 1)) (sees w ((Rk n).take (i + 1)))) h.ac.symm).trans h.hc
    have ha' := upS_self S' a (wk [w, w] "order" ((Rk n).take (i + 1)) (sees w ((Rk n).take (i + 1))))
    generalize upS S' a (wk [w, w] "order" ((Rk n).take (i + 1)) (sees w ((Rk n).take (i + 1)))) = S1 at ha' hb' hc'
    have r01 : rsvD S1 (.tuple (intsD [0, 1])) = .tuple (intsD [0, 1]) := rfl
    refine ⟨by decide, by rw [r01]; exact (flat_ints _).sh, trivial, trivial, ?_⟩
    rw [r01, if_neg (by simp [PyData.eqv, PyData.eqvAll, intsD]), rsvD_wk hb', objQ_o]
    refine ⟨rfl, wlen_ok rfl (by decide) ?_⟩
    rw [intQ_i]
    refine ⟨by decide, rfl, trivial, ?_⟩
    rw [if_neg (by decide), objQ_o]
    refine ⟨rfl, wleft_ok rfl (by simp) ?_⟩
    rw [show leftZ "order" [w, w] [] [] = [0, 1] from left_two "order" w []]
    refine ⟨by decide, (flat_ints _).sh, trivial, ?_⟩
    rw [if_neg (by simp [PyData.eqv, PyData.eqvAll, intsD])]
    obtain ⟨T, eT⟩ := hist_at w (begun w) (Rk n) i hiR
    have ef : (found w (endT w (begun w) ((Rk n).take i)) n).1.isSome = decide (kd ≠ .put) := by
      have h1 : (foundR w (begun w) (Rk n))[i]? = some (found w (endT w (begun w) ((Rk n).take i)) n).1.isSome := by
        unfold foundR
        rw [List.getElem?_map, eT, hri]
        rfl
      rw [(cyc_ok hw hk).fnd] at h1
      unfold putR at h1
      rw [List.getElem?_map, List.getElem?_eq_getElem hiR, hri] at h1
      simpa using h1.symm
    simp_arith only [b5_law_r, mSeq_r, mNext_r, sC_r, sRd_r, mRet_r, mDrop_r, mIf_r, mSet_r, mSetC_r, mTgt_r, mTgtC_r, mPar_k, mParK_2, mFor_r, mC_r, mR_r, tR_r, mOp_r, mB1_r, mAndT_r, mOrT_r, mNotT_r, mAnd_r, mNil_r, mCons_r, mCb_r, mTup_r, mRes_r, mMeth_r, mMeth0_r, mMethK_r, mMake_r, noneQ_n, mFldV_r, mFldL_r, mFApp_r, mFPop_r, mFAppPop_r, eFld_r, fldQ_v, fldQ_l, eMethO_r, eMethO0_r, intQ_i, lenO_k, strQ_s, strO_k, isOD_t, isOD_o, rgtQ_t, rgtQ_o, eqOD_r, fnS_r, mForL_nil, mForL_cons, idQ_i, objQ_o, rsv, rsvD_t, rsvD_l, rsvD_i, rsvD_b, rsvD_s, rsvD_n, rsvE_v, rsvE_o, rsvE_n]
    refine ⟨atC_of hc' rfl, do_ok hw (by simp) hr hk htl hc' (by simp) ?_⟩
    rw [e1, rsvD_t, yE, ye, yZ]
    have ek : decide (kd ≠ Deed3.put) = !decide (kindS kd = "put") := by cases kd <;> decide
    rw [show (found w (endT w (begun w) ((Rk n).take i)) (kd, n).snd).1.isSome = !decide (kindS kd = "put") from ef.trans ek, rsvD_b]
    refine ⟨rfl, trivial, trivial, rfl, trivial, trivial, ?_⟩
    rw [if_neg (by simp [PyData.eqv])]
    refine hnx _ _ ⟨⟨_, _, rfl⟩, by rw [upS_ne h.ac]; exact ha', by rw [upS_ne h.bc]; exact hb', upS_self _ _ _, h.ab, h.ac, h.bc⟩
theorem law_ok : m_law [sD] noS (fun d _ => d = .bool true) (fun _ _ => False) := by
  simp_arith only [m_law_r, b1_law_r, mSeq_r, mNext_r, sC_r, sRd_r, mRet_r, mDrop_r, mIf_r, mSet_r, mSetC_r, mTgt_r, mTgtC_r, mPar_k, mParK_2, mFor_r, mC_r, mR_r, tR_r, mOp_r, mB1_r, mAndT_r, mOrT_r, mNotT_r, mAnd_r, mNil_r, mCons_r, mCb_r, mTup_r, mRes_r, mMeth_r, mMeth0_r, mMethK_r, mMake_r, noneQ_n, mFldV_r, mFldL_r, mFApp_r, mFPop_r, mFAppPop_r, eFld_r, fldQ_v, fldQ_l, eMethO_r, eMethO0_r, intQ_i, lenO_k, strQ_s, strO_k, isOD_t, isOD_o, rgtQ_t, rgtQ_o, eqOD_r, fnS_r, mForL_nil, mForL_cons, idQ_i, objQ_o, rsv, rsvD_t, rsvD_l, rsvD_i, rsvD_b, rsvD_s, rsvD_n, rsvE_v, rsvE_o, rsvE_n]
  refine way_drawn fun w hw => ?_
  refine ⟨by decide, by decide, fun k k0 k1 => ?_⟩
  have hk : KeyOk k := ⟨k0, by omega⟩
  have ws : ∀ v ∈ [w, w], v.Ok := fun v hv => by simp at hv; rw [hv]; exact hw
  simp_arith only [b2_law_r, mSeq_r, mNext_r, sC_r, sRd_r, mRet_r, mDrop_r, mIf_r, mSet_r, mSetC_r, mTgt_r, mTgtC_r, mPar_k, mParK_2, mFor_r, mC_r, mR_r, tR_r, mOp_r, mB1_r, mAndT_r, mOrT_r, mNotT_r, mAnd_r, mNil_r, mCons_r, mCb_r, mTup_r, mRes_r, mMeth_r, mMeth0_r, mMethK_r, mMake_r, noneQ_n, mFldV_r, mFldL_r, mFApp_r, mFPop_r, mFAppPop_r, eFld_r, fldQ_v, fldQ_l, eMethO_r, eMethO0_r, intQ_i, lenO_k, strQ_s, strO_k, isOD_t, isOD_o, rgtQ_t, rgtQ_o, eqOD_r, fnS_r, mForL_nil, mForL_cons, idQ_i, objQ_o, rsv, rsvD_t, rsvD_l, rsvD_i, rsvD_b, rsvD_s, rsvD_n, rsvE_v, rsvE_o, rsvE_n]
  refine ⟨by decide, by decide, fun a ha => winit_ok (ws := [w, w]) (x := "order") ws (by simp) (by simp) (.inr (.inr rfl)) (by rw [new_up, upS_self]) ?_⟩
  rw [noneQ_n]
  refine ⟨by decide, fun b hb => winit_ok (ws := [w, w]) (x := "order") ws (by simp) (by simp) (.inr (.inr rfl)) (by rw [new_up, upS_self]) ?_⟩
  have ab := ne_of (upS_self _ _ _) hb
  rw [noneQ_n]
  intro c hc
  have bc := ne_of (upS_self _ _ _) hc
  have ac : a ≠ c := ne_of (k := wk [w, w] "order" [] []) (by rw [upS_ne ab, new_up, upS_ne ab, upS_self]) hc
  refine init_ok hw (by rw [new_up, upS_self]) ?_
  rw [noneQ_n]
  have st : St3 w (upS (stoNew (upS (stoNew (upS (stoNew noS a (Str.ofString "Watcher")) a (wk [w, w] "order" [] [])) b (Str.ofString "Watcher")) b (wk [w, w] "order" [] [])) c (Str.ofString "Desk")) c (dk w [] [])) a b c [] [] :=
    ⟨by rw [upS_ne ac, new_up, upS_ne ac, upS_ne ab, new_up, upS_ne ab, upS_self]; rfl, by rw [upS_ne bc, new_up, upS_ne bc, upS_self], upS_self _ _ _, ab, ac, bc⟩
  generalize upS (stoNew (upS (stoNew (upS (stoNew noS a (Str.ofString "Watcher")) a (wk [w, w] "order" [] [])) b (Str.ofString "Watcher")) b (wk [w, w] "order" [] [])) c (Str.ofString "Desk")) c (dk w [] []) = S at st
  refine ⟨by decide, ?_⟩
  simp_arith only [b3_law_r, mSeq_r, mNext_r, sC_r, sRd_r, mRet_r, mDrop_r, mIf_r, mSet_r, mSetC_r, mTgt_r, mTgtC_r, mPar_k, mParK_2, mFor_r, mC_r, mR_r, tR_r, mOp_r, mB1_r, mAndT_r, mOrT_r, mNotT_r, mAnd_r, mNil_r, mCons_r, mCb_r, mTup_r, mRes_r, mMeth_r, mMeth0_r, mMethK_r, mMake_r, noneQ_n, mFldV_r, mFldL_r, mFApp_r, mFPop_r, mFAppPop_r, eFld_r, fldQ_v, fldQ_l, eMethO_r, eMethO0_r, intQ_i, lenO_k, strQ_s, strO_k, isOD_t, isOD_o, rgtQ_t, rgtQ_o, eqOD_r, fnS_r, mForL_nil, mForL_cons, idQ_i, objQ_o, rsv, rsvD_t, rsvD_l, rsvD_i, rsvD_b, rsvD_s, rsvD_n, rsvE_v, rsvE_o, rsvE_n]
  refine ⟨by decide, by decide, by decide, by decide, by simp, by decide, by decide, by decide, ?_⟩
  refine loop_ok hw hk st ?_
  clear st
  intro S1 o9 o10 st
  have rok := Rk_ok hk
  have C := cyc_ok hw hk
  have o24 := wok hw hk rok
  have see1 : seS "order" (0, [k]) = .tuple [.int k] := rfl
  simp_arith only [b7_law_r, mSeq_r, mNext_r, sC_r, sRd_r, mRet_r, mDrop_r, mIf_r, mSet_r, mSetC_r, mTgt_r, mTgtC_r, mPar_k, mParK_2, mFor_r, mC_r, mR_r, tR_r, mOp_r, mB1_r, mAndT_r, mOrT_r, mNotT_r, mAnd_r, mNil_r, mCons_r, mCb_r, mTup_r, mRes_r, mMeth_r, mMeth0_r, mMethK_r, mMake_r, noneQ_n, mFldV_r, mFldL_r, mFApp_r, mFPop_r, mFAppPop_r, eFld_r, fldQ_v, fldQ_l, eMethO_r, eMethO0_r, intQ_i, lenO_k, strQ_s, strO_k, isOD_t, isOD_o, rgtQ_t, rgtQ_o, eqOD_r, fnS_r, mForL_nil, mForL_cons, idQ_i, objQ_o, rsv, rsvD_t, rsvD_l, rsvD_i, rsvD_b, rsvD_s, rsvD_n, rsvE_v, rsvE_o, rsvE_n]
  refine ⟨atC_of st.ha rfl, by decide, by decide, ?_⟩
  rw [← see1]
  refine note_many (kd := .put) o24 hk ⟨by simp, by simp, by simp, fun z hz => by rw [List.mem_singleton.mp hz]; exact hk⟩ rfl st.ha ⟨"many", resW_many, by decide, sh_w _, trivial, trivial, ?_⟩
  rw [if_neg (by simp [PyData.eqv]), rsvD_wk st.ha, objQ_o]
  refine ⟨rfl, wlen_ok o24.hs (by rw [Rk_len]; decide) ?_⟩
  rw [intQ_i, Rk_len]
  refine ⟨by decide, rfl, trivial, ?_⟩
  rw [if_neg (by decide)]
  simp_arith only [b8_law_r, mSeq_r, mNext_r, sC_r, sRd_r, mRet_r, mDrop_r, mIf_r, mSet_r, mSetC_r, mTgt_r, mTgtC_r, mPar_k, mParK_2, mFor_r, mC_r, mR_r, tR_r, mOp_r, mB1_r, mAndT_r, mOrT_r, mNotT_r, mAnd_r, mNil_r, mCons_r, mCb_r, mTup_r, mRes_r, mMeth_r, mMeth0_r, mMethK_r, mMake_r, noneQ_n, mFldV_r, mFldL_r, mFApp_r, mFPop_r, mFAppPop_r, eFld_r, fldQ_v, fldQ_l, eMethO_r, eMethO0_r, intQ_i, lenO_k, strQ_s, strO_k, isOD_t, isOD_o, rgtQ_t, rgtQ_o, eqOD_r, fnS_r, mForL_nil, mForL_cons, idQ_i, objQ_o, rsv, rsvD_t, rsvD_l, rsvD_i, rsvD_b, rsvD_s, rsvD_n, rsvE_v, rsvE_o, rsvE_n]
  refine ⟨atC_of st.hc rfl, by decide, do_many (kd := .put) hk rfl st.hc ⟨"many", resW_many, by decide, sh_w _, trivial, trivial, ?_⟩⟩
  rw [if_neg (by simp [PyData.eqv]), rsvD_dk st.hc, objQ_o]
  refine ⟨rfl, d_len (by rw [Rk_len]; decide) ?_⟩
  rw [intQ_i, Rk_len]
  refine ⟨by decide, rfl, trivial, ?_⟩
  rw [if_neg (by decide), objQ_o]
  refine ⟨rfl, d_order hw (by simp) rok ?_⟩
  rw [C.emp (by decide)]
  refine ⟨by decide, rfl, trivial, ?_⟩
  rw [if_neg (by decide)]
  simp_arith only [b9_law_r, mSeq_r, mNext_r, sC_r, sRd_r, mRet_r, mDrop_r, mIf_r, mSet_r, mSetC_r, mTgt_r, mTgtC_r, mPar_k, mParK_2, mFor_r, mC_r, mR_r, tR_r, mOp_r, mB1_r, mAndT_r, mOrT_r, mNotT_r, mAnd_r, mNil_r, mCons_r, mCb_r, mTup_r, mRes_r, mMeth_r, mMeth0_r, mMethK_r, mMake_r, noneQ_n, mFldV_r, mFldL_r, mFApp_r, mFPop_r, mFAppPop_r, eFld_r, fldQ_v, fldQ_l, eMethO_r, eMethO0_r, intQ_i, lenO_k, strQ_s, strO_k, isOD_t, isOD_o, rgtQ_t, rgtQ_o, eqOD_r, fnS_r, mForL_nil, mForL_cons, idQ_i, objQ_o, rsv, rsvD_t, rsvD_l, rsvD_i, rsvD_b, rsvD_s, rsvD_n, rsvE_v, rsvE_o, rsvE_n]
  intro d hd
  have ad := ne_of st.ha hd
  have bd := ne_of st.hb hd
  have cd := ne_of st.hc hd
  refine init_ok hw (by rw [new_up, upS_self]) ?_
  rw [noneQ_n]
  have st2 : St3 w (upS (stoNew S1 d (Str.ofString "Desk")) d (dk w [] [])) a b c (Rk k) (Rk k) := ⟨by rw [upS_ne ad, new_up, upS_ne ad]; exact st.ha, by rw [upS_ne bd, new_up, upS_ne bd]; exact st.hb, by rw [upS_ne cd, new_up, upS_ne cd]; exact st.hc, ab, ac, bc⟩
  have hd2 := upS_self (stoNew S1 d (Str.ofString "Desk")) d (dk w [] [])
  clear hd st
  generalize upS (stoNew S1 d (Str.ofString "Desk")) d (dk w [] []) = S2 at st2 hd2
  simp_arith only [b10_law_r, mSeq_r, mNext_r, sC_r, sRd_r, mRet_r, mDrop_r, mIf_r, mSet_r, mSetC_r, mTgt_r, mTgtC_r, mPar_k, mParK_2, mFor_r, mC_r, mR_r, tR_r, mOp_r, mB1_r, mAndT_r, mOrT_r, mNotT_r, mAnd_r, mNil_r, mCons_r, mCb_r, mTup_r, mRes_r, mMeth_r, mMeth0_r, mMethK_r, mMake_r, noneQ_n, mFldV_r, mFldL_r, mFApp_r, mFPop_r, mFAppPop_r, eFld_r, fldQ_v, fldQ_l, eMethO_r, eMethO0_r, intQ_i, lenO_k, strQ_s, strO_k, isOD_t, isOD_o, rgtQ_t, rgtQ_o, eqOD_r, fnS_r, mForL_nil, mForL_cons, idQ_i, objQ_o, rsv, rsvD_t, rsvD_l, rsvD_i, rsvD_b, rsvD_s, rsvD_n, rsvE_v, rsvE_o, rsvE_n]
  rw [rsvD_dk hd2, objQ_o]
  refine ⟨rfl, d_len (by decide) ?_⟩
  rw [intQ_i]
  refine ⟨by decide, rfl, trivial, ?_⟩
  rw [if_neg (by decide), objQ_o]
  refine ⟨rfl, d_history ?_⟩
  refine ⟨by decide, rfl, trivial, ?_⟩
  rw [if_neg (by decide)]
  refine ⟨atC_of hd2 rfl, undo_no hd2 ⟨"undo", resW_undo, by decide, sh_w _, trivial, trivial, ?_⟩⟩
  rw [if_neg (by simp [PyData.eqv])]
  simp_arith only [b11_law_r, mSeq_r, mNext_r, sC_r, sRd_r, mRet_r, mDrop_r, mIf_r, mSet_r, mSetC_r, mTgt_r, mTgtC_r, mPar_k, mParK_2, mFor_r, mC_r, mR_r, tR_r, mOp_r, mB1_r, mAndT_r, mOrT_r, mNotT_r, mAnd_r, mNil_r, mCons_r, mCb_r, mTup_r, mRes_r, mMeth_r, mMeth0_r, mMethK_r, mMake_r, noneQ_n, mFldV_r, mFldL_r, mFApp_r, mFPop_r, mFAppPop_r, eFld_r, fldQ_v, fldQ_l, eMethO_r, eMethO0_r, intQ_i, lenO_k, strQ_s, strO_k, isOD_t, isOD_o, rgtQ_t, rgtQ_o, eqOD_r, fnS_r, mForL_nil, mForL_cons, idQ_i, objQ_o, rsv, rsvD_t, rsvD_l, rsvD_i, rsvD_b, rsvD_s, rsvD_n, rsvE_v, rsvE_o, rsvE_n]
  refine ⟨atC_of hd2 rfl, by decide, do_ok (ks := [k]) (kd := .put) (k := k) hw (by simp) ⟨fun p hp => by simp at hp, by simp⟩ hk (by simp) hd2 (by simp) ?_⟩
  have st3 : St3 w (upS S2 d (dk w ([] ++ [(Deed3.put, k)]) [])) a b c (Rk k) (Rk k) := ⟨by rw [upS_ne ad]; exact st2.ha, by rw [upS_ne bd]; exact st2.hb, by rw [upS_ne cd]; exact st2.hc, ab, ac, bc⟩
  have hd3 := upS_self S2 d (dk w ([] ++ [(Deed3.put, k)]) [])
  clear st2 hd2
  generalize upS S2 d (dk w ([] ++ [(Deed3.put, k)]) []) = S3 at st3 hd3
  rw [List.nil_append] at hd3
  have e23 : Rk k = (Rn k 7 ++ [(Deed3.put, k), (Deed3.ask, k)]) ++ [(Deed3.take, k)] := rfl
  have r23 : RowOk [k] (Rn k 7 ++ [(Deed3.put, k), (Deed3.ask, k)]) := rowOk_take (n := 23) rok
  have l23 : (Rn k 7 ++ [(Deed3.put, k), (Deed3.ask, k)]).length = 23 := rfl
  have C1 := C.one 7 rfl
  have hc3 := st3.hc
  rw [e23] at hc3
  simp_arith only [b12_law_r, mSeq_r, mNext_r, sC_r, sRd_r, mRet_r, mDrop_r, mIf_r, mSet_r, mSetC_r, mTgt_r, mTgtC_r, mPar_k, mParK_2, mFor_r, mC_r, mR_r, tR_r, mOp_r, mB1_r, mAndT_r, mOrT_r, mNotT_r, mAnd_r, mNil_r, mCons_r, mCb_r, mTup_r, mRes_r, mMeth_r, mMeth0_r, mMethK_r, mMake_r, noneQ_n, mFldV_r, mFldL_r, mFApp_r, mFPop_r, mFAppPop_r, eFld_r, fldQ_v, fldQ_l, eMethO_r, eMethO0_r, intQ_i, lenO_k, strQ_s, strO_k, isOD_t, isOD_o, rgtQ_t, rgtQ_o, eqOD_r, fnS_r, mForL_nil, mForL_cons, idQ_i, objQ_o, rsv, rsvD_t, rsvD_l, rsvD_i, rsvD_b, rsvD_s, rsvD_n, rsvE_v, rsvE_o, rsvE_n]
  refine ⟨atC_of hc3 rfl, undo_ok (by decide) hc3 ?_⟩
  have cd' := cd.symm
  have ha4 := (upS_ne (S := S3) (k := dk w (Rn k 7 ++ [(Deed3.put, k), (Deed3.ask, k)]) ([] ++ [(Deed3.take, k)])) ac).trans st3.ha
  have hb4 := (upS_ne (S := S3) (k := dk w (Rn k 7 ++ [(Deed3.put, k), (Deed3.ask, k)]) ([] ++ [(Deed3.take, k)])) bc).trans st3.hb
  have hd4 := (upS_ne (S := S3) (k := dk w (Rn k 7 ++ [(Deed3.put, k), (Deed3.ask, k)]) ([] ++ [(Deed3.take, k)])) cd').trans hd3
  have hc4 := upS_self S3 c (dk w (Rn k 7 ++ [(Deed3.put, k), (Deed3.ask, k)]) ([] ++ [(Deed3.take, k)]))
  clear st3 hd3 hc3
  generalize upS S3 c (dk w (Rn k 7 ++ [(Deed3.put, k), (Deed3.ask, k)]) ([] ++ [(Deed3.take, k)])) = S4 at ha4 hb4 hc4 hd4
  simp_arith only [mSeq_r, mNext_r, sC_r, sRd_r, mRet_r, mDrop_r, mIf_r, mSet_r, mSetC_r, mTgt_r, mTgtC_r, mPar_k, mParK_2, mFor_r, mC_r, mR_r, tR_r, mOp_r, mB1_r, mAndT_r, mOrT_r, mNotT_r, mAnd_r, mNil_r, mCons_r, mCb_r, mTup_r, mRes_r, mMeth_r, mMeth0_r, mMethK_r, mMake_r, noneQ_n, mFldV_r, mFldL_r, mFApp_r, mFPop_r, mFAppPop_r, eFld_r, fldQ_v, fldQ_l, eMethO_r, eMethO0_r, intQ_i, lenO_k, strQ_s, strO_k, isOD_t, isOD_o, rgtQ_t, rgtQ_o, eqOD_r, fnS_r, mForL_nil, mForL_cons, idQ_i, objQ_o, rsv, rsvD_t, rsvD_l, rsvD_i, rsvD_b, rsvD_s, rsvD_n, rsvE_v, rsvE_o, rsvE_n]
  refine ⟨by decide, trivial, trivial, trivial, ?_⟩
  rw [if_neg (by decide), rsvD_dk hc4, objQ_o]
  refine ⟨rfl, d_order hw (by simp) r23 ?_⟩
  rw [C1]
  have fk : Flat 1 (.tuple (intsD [k])) := flat_ints [k]
  have ek : PyData.eqv (.tuple (intsD [k])) (.tuple [.int k]) = true := eqv_of fk rfl
  refine ⟨by decide, fk.sh, trivial, ?_⟩
  rw [ek, if_neg (by decide), rsvD_dk hd4, objQ_o]
  have r1 : RowOk [k] [(Deed3.put, k)] := ⟨fun p hp => by rw [List.mem_singleton.mp hp]; exact ⟨hk, by simp⟩, by simp⟩
  refine ⟨rfl, d_order hw (by simp) r1 ?_⟩
  rw [one_put hw hk]
  refine ⟨by decide, fk.sh, trivial, ?_⟩
  rw [ek, if_neg (by decide), objQ_o]
  refine ⟨rfl, d_len (by simp) ?_⟩
  rw [intQ_i]
  refine ⟨by simp, rfl, trivial, ?_⟩
  rw [if_neg (by simp [PyData.eqv])]
  simp_arith only [b13_law_r, mSeq_r, mNext_r, sC_r, sRd_r, mRet_r, mDrop_r, mIf_r, mSet_r, mSetC_r, mTgt_r, mTgtC_r, mPar_k, mParK_2, mFor_r, mC_r, mR_r, tR_r, mOp_r, mB1_r, mAndT_r, mOrT_r, mNotT_r, mAnd_r, mNil_r, mCons_r, mCb_r, mTup_r, mRes_r, mMeth_r, mMeth0_r, mMethK_r, mMake_r, noneQ_n, mFldV_r, mFldL_r, mFApp_r, mFPop_r, mFAppPop_r, eFld_r, fldQ_v, fldQ_l, eMethO_r, eMethO0_r, intQ_i, lenO_k, strQ_s, strO_k, isOD_t, isOD_o, rgtQ_t, rgtQ_o, eqOD_r, fnS_r, mForL_nil, mForL_cons, idQ_i, objQ_o, rsv, rsvD_t, rsvD_l, rsvD_i, rsvD_b, rsvD_s, rsvD_n, rsvE_v, rsvE_o, rsvE_n]
  refine ⟨atC_of hc4 rfl, by decide, do_ok (ks := [k]) (kd := .ask) (k := k) hw (by simp) r23 hk (by rw [l23]; decide) hc4 (by simp) ?_⟩
  have ha5 := (upS_ne (S := S4) (k := dk w (Rn k 7 ++ [(Deed3.put, k), (Deed3.ask, k)] ++ [(Deed3.ask, k)]) []) ac).trans ha4
  have hb5 := (upS_ne (S := S4) (k := dk w (Rn k 7 ++ [(Deed3.put, k), (Deed3.ask, k)] ++ [(Deed3.ask, k)]) []) bc).trans hb4
  have hc5 := upS_self S4 c (dk w (Rn k 7 ++ [(Deed3.put, k), (Deed3.ask, k)] ++ [(Deed3.ask, k)]) [])
  clear ha4 hb4 hc4 hd4
  generalize upS S4 c (dk w (Rn k 7 ++ [(Deed3.put, k), (Deed3.ask, k)] ++ [(Deed3.ask, k)]) []) = S5 at ha5 hb5 hc5
  have f23 : (found w (endT w (begun w) (Rn k 7 ++ [(Deed3.put, k), (Deed3.ask, k)])) k).1.isSome = true := by
    obtain ⟨T, eT⟩ := hist_at w (begun w) (Rk k) 23 (by rw [Rk_len]; decide)
    have h1 : (foundR w (begun w) (Rk k))[23]? = some (found w (endT w (begun w) ((Rk k).take 23)) k).1.isSome := by
      unfold foundR
      rw [List.getElem?_map, eT]
      rfl
    rw [C.fnd] at h1
    have h2 : some true = some (found w (endT w (begun w) ((Rk k).take 23)) k).1.isSome := h1
    injection h2 with h2
    exact h2.symm
  rw [rsvD_t, yE, ye, yZ, f23]
  refine ⟨rfl, ?_⟩
  rw [zp]
  rw [if_neg (by decide), rsvD_dk hc5, objQ_o]
  refine ⟨rfl, d_history ?_⟩
  have eR : rsvD S5 (rowD (Rk k)) = .tuple ((Rn k 7 ++ [(Deed3.put, k), (Deed3.ask, k)]).map pD ++ [pD (Deed3.take, k)]) := rfl
  have eA : (.tuple ((Rn k 7 ++ [(Deed3.put, k), (Deed3.ask, k)]).map pD ++ [.tuple [.str (Str.ofString "ask"), .int k]]) : D) = rowD (Rn k 7 ++ [(Deed3.put, k), (Deed3.ask, k)] ++ [(Deed3.ask, k)]) := by
    unfold rowD
    rw [List.map_append, List.map_append, List.map_append]
    rfl
  rw [eR, qC, cut_init, yH, eA]
  have fr := flat_row (Rn k 7 ++ [(Deed3.put, k), (Deed3.ask, k)] ++ [(Deed3.ask, k)])
  refine ⟨by decide, by decide, by rw [List.length_map, l23]; simp, fr.sh, fr.sh, ?_⟩
  rw [eqv_of fr rfl, if_neg (by decide)]
  rw [e23, sees_app] at ha5
  refine ⟨atC_of ha5 rfl, wundo_ok (sees_len _ _) ha5 ?_⟩
  have ha6 := upS_self S5 a (wk [w, w] "order" (Rn k 7 ++ [(Deed3.put, k), (Deed3.ask, k)]) (sees w (Rn k 7 ++ [(Deed3.put, k), (Deed3.ask, k)])))
  have hb6 := (upS_ne (S := S5) (k := wk [w, w] "order" (Rn k 7 ++ [(Deed3.put, k), (Deed3.ask, k)]) (sees w (Rn k 7 ++ [(Deed3.put, k), (Deed3.ask, k)]))) ab.symm).trans hb5
  clear ha5 hb5 hc5
  generalize upS S5 a (wk [w, w] "order" (Rn k 7 ++ [(Deed3.put, k), (Deed3.ask, k)]) (sees w (Rn k 7 ++ [(Deed3.put, k), (Deed3.ask, k)]))) = S6 at ha6 hb6
  simp_arith only [b14_law_r, mSeq_r, mNext_r, sC_r, sRd_r, mRet_r, mDrop_r, mIf_r, mSet_r, mSetC_r, mTgt_r, mTgtC_r, mPar_k, mParK_2, mFor_r, mC_r, mR_r, tR_r, mOp_r, mB1_r, mAndT_r, mOrT_r, mNotT_r, mAnd_r, mNil_r, mCons_r, mCb_r, mTup_r, mRes_r, mMeth_r, mMeth0_r, mMethK_r, mMake_r, noneQ_n, mFldV_r, mFldL_r, mFApp_r, mFPop_r, mFAppPop_r, eFld_r, fldQ_v, fldQ_l, eMethO_r, eMethO0_r, intQ_i, lenO_k, strQ_s, strO_k, isOD_t, isOD_o, rgtQ_t, rgtQ_o, eqOD_r, fnS_r, mForL_nil, mForL_cons, idQ_i, objQ_o, rsv, rsvD_t, rsvD_l, rsvD_i, rsvD_b, rsvD_s, rsvD_n, rsvE_v, rsvE_o, rsvE_n, mAnd_r]
  rw [rsvD_wk hb6, objQ_o]
  refine ⟨rfl, wnotes_ok ?_⟩
  refine ⟨by decide, rfl, trivial, trivial, ?_⟩
  rw [if_pos (by decide), rsvD_wk ha6, objQ_o]
  have o23 := wok hw hk r23
  refine ⟨rfl, wlen_ok o23.hs (by rw [l23]; decide) ?_⟩
  rw [intQ_i, l23]
  refine ⟨by decide, rfl, trivial, trivial, ?_⟩
  rw [if_pos (by decide)]
  have es : seS "order" (lastS w (Rn k 7 ++ [(Deed3.put, k), (Deed3.ask, k)]) (Deed3.take, k)) = .tuple [] := by
    have h := C.emp (by decide)
    rw [show Rn k 8 = Rn k 7 ++ [(Deed3.put, k), (Deed3.ask, k)] ++ [(Deed3.take, k)] from e23, endT_append] at h
    rw [see_order]
    show PyData.tuple (intsD (order (endT w (endT w (begun w) (Rn k 7 ++ [(Deed3.put, k), (Deed3.ask, k)])) [(Deed3.take, k)]))) = .tuple []
    rw [h]
    rfl
  have eZ : leftZ "order" [w, w] (Rn k 7 ++ [(Deed3.put, k), (Deed3.ask, k)] ++ [(Deed3.take, k)]) (sees w (Rn k 7 ++ [(Deed3.put, k), (Deed3.ask, k)]) ++ [lastS w (Rn k 7 ++ [(Deed3.put, k), (Deed3.ask, k)]) (Deed3.take, k)]) = [0, 1] := by
    rw [← sees_app, left_two]
  have heS : SeOk (lastS w (Rn k 7 ++ [(Deed3.put, k), (Deed3.ask, k)]) (Deed3.take, k)) := sees_ok hw (by simp) rok _ (by
    rw [e23, sees_app]
    exact List.mem_append_right _ List.mem_cons_self)
  rw [← es]
  refine ⟨atC_of ha6 rfl, by decide, by decide, note_ok (kd := .take) o23 ⟨hk, by simp⟩ heS (by rw [l23]; decide) ha6 (by rw [eZ]; simp) ?_⟩
  rw [eZ]
  refine ⟨by decide, (flat_ints _).sh, trivial, trivial, ?_⟩
  rw [rsvD_t]
  simp [PyData.eqv, PyData.eqvAll, intsD]
end
end G6
namespace DL
open PySem PySem.Spec L2
def xisXD (c : Str) : D → Option D
  | .dict [(.none, .str n)] => if (resW n).isSome = true then some (.bool (decide (n = c))) else none
  | _ => none
theorem kisXD (c : Str) : KU (isXD c) (xisXD c) := fun d a h Q E q => by
  unfold xisXD at h
  split at h
  · rename_i n
    split at h
    · rename_i hs
      cases h
      exact ⟨Option.isSome_iff_exists.mp hs, q⟩
    · cases h
  · cases h
def xisVD : D → Option D
  | .dict [(.none, .str n)] => if (resW n).isSome = true then some (.bool true) else none
  | _ => none
theorem kisVD : KU isVD xisVD := fun d a h Q E q => by
  unfold xisVD at h
  split at h
  · rename_i n
    split at h
    · rename_i hs
      cases h
      exact ⟨Option.isSome_iff_exists.mp hs, q⟩
    · cases h
  · cases h
def isWord (w : Str) : Option Out → Bool
  | some (.rt (.tuple [.str v])) => decide (v = w)
  | _ => false
theorem isWord_some {w : Str} {o : Option Out} (h : isWord w o = true) : o = some (.rt (.tuple [.str w])) := by
  unfold isWord at h
  split at h
  · rw [of_decide_eq_true h]
  · cases h
end DL
namespace G6
open PySem PySem.Spec L2 DL
def xb1__law_result : XS := (xsRet (xeTup (xaCons (xeC (.str "returns")) (xaCons (xeVar 4) xaNil))))
theorem kb1__law_result : KSt b1__law_result xb1__law_result := (ksRet (keTup (kaCons (keC (.str "returns")) (kaCons (keVar 4) kaNil))))
def xb2__law_result : XS := (xsIf (xtB1 (xeOp (xisND false) (xeVar 3) (xeC .none))) xb1__law_result xsNext)
theorem kb2__law_result : KSt b2__law_result xb2__law_result := (ksIf (ktB1 (keOp (kisND false) (keVar 3) (keC .none))) kb1__law_result ksNext)
def xb3__law_result : XS := (xsSetD 1 (xdDisp (xpCons (xeC (.str "way")) (xeUn1 (xisXD "InvalidWay") (xeVar 3)) (xpCons (xeC (.str "ways")) (xeUn1 (xisXD "InvalidWays") (xeVar 3)) xpNil))))
theorem kb3__law_result : KSt b3__law_result xb3__law_result := (ksSetD 1 (kdDisp (kpCons (keC (.str "way")) (keUn1 (kisXD "InvalidWay") (keVar 3)) (kpCons (keC (.str "ways")) (keUn1 (kisXD "InvalidWays") (keVar 3)) kpNil))))
def xb4__law_result : XS := (xsUpd 1 (xdDisp (xpCons (xeC (.str "size")) (xeUn1 (xisXD "InvalidSize") (xeVar 3)) (xpCons (xeC (.str "key")) (xeUn1 (xisXD "InvalidKey") (xeVar 3)) xpNil))))
theorem kb4__law_result : KSt b4__law_result xb4__law_result := (ksUpd 1 (kdDisp (kpCons (keC (.str "size")) (keUn1 (kisXD "InvalidSize") (keVar 3)) (kpCons (keC (.str "key")) (keUn1 (kisXD "InvalidKey") (keVar 3)) kpNil))))
def xb5__law_result : XS := (xsUpd 1 (xdDisp (xpCons (xeC (.str "all")) (xeUn1 (xisXD "InvalidKeys") (xeVar 3)) (xpCons (xeC (.str "row")) (xeUn1 (xisXD "InvalidRow") (xeVar 3)) xpNil))))
theorem kb5__law_result : KSt b5__law_result xb5__law_result := (ksUpd 1 (kdDisp (kpCons (keC (.str "all")) (keUn1 (kisXD "InvalidKeys") (keVar 3)) (kpCons (keC (.str "row")) (keUn1 (kisXD "InvalidRow") (keVar 3)) kpNil))))
def xb6__law_result : XS := (xsUpd 1 (xdDisp (xpCons (xeC (.str "sight")) (xeUn1 (xisXD "InvalidSight") (xeVar 3)) (xpCons (xeC (.str "seen")) (xeUn1 (xisXD "InvalidSeen") (xeVar 3)) xpNil))))
theorem kb6__law_result : KSt b6__law_result xb6__law_result := (ksUpd 1 (kdDisp (kpCons (keC (.str "sight")) (keUn1 (kisXD "InvalidSight") (keVar 3)) (kpCons (keC (.str "seen")) (keUn1 (kisXD "InvalidSeen") (keVar 3)) kpNil))))
def xb7__law_result : XS := (xsUpd 1 (xdDisp (xpCons (xeC (.str "order")) (xeUn1 (xisXD "InvalidOrder") (xeVar 3)) xpNil)))
theorem kb7__law_result : KSt b7__law_result xb7__law_result := (ksUpd 1 (kdDisp (kpCons (keC (.str "order")) (keUn1 (kisXD "InvalidOrder") (keVar 3)) kpNil)))
def xb8__law_result : XS := (xsUpd 1 (xdDisp (xpCons (xeC (.str "table")) (xeUn1 (xisXD "InvalidTable") (xeVar 3)) (xpCons (xeC (.str "number")) (xeUn1 (xisXD "InvalidNumber") (xeVar 3)) xpNil))))
theorem kb8__law_result : KSt b8__law_result xb8__law_result := (ksUpd 1 (kdDisp (kpCons (keC (.str "table")) (keUn1 (kisXD "InvalidTable") (keVar 3)) (kpCons (keC (.str "number")) (keUn1 (kisXD "InvalidNumber") (keVar 3)) kpNil))))
def xb9__law_result : XS := (xsUpd 1 (xdDisp (xpCons (xeC (.str "deed")) (xeUn1 (xisXD "InvalidDeed") (xeVar 3)) (xpCons (xeC (.str "text")) (xeUn1 (xisXD "InvalidText") (xeVar 3)) xpNil))))
theorem kb9__law_result : KSt b9__law_result xb9__law_result := (ksUpd 1 (kdDisp (kpCons (keC (.str "deed")) (keUn1 (kisXD "InvalidDeed") (keVar 3)) (kpCons (keC (.str "text")) (keUn1 (kisXD "InvalidText") (keVar 3)) kpNil))))
def xb10__law_result : XS := (xsUpd 1 (xdDisp (xpCons (xeC (.str "large")) (xeUn1 (xisXD "TooLarge") (xeVar 3)) (xpCons (xeC (.str "alike")) (xeUn1 (xisXD "Alike") (xeVar 3)) xpNil))))
theorem kb10__law_result : KSt b10__law_result xb10__law_result := (ksUpd 1 (kdDisp (kpCons (keC (.str "large")) (keUn1 (kisXD "TooLarge") (keVar 3)) (kpCons (keC (.str "alike")) (keUn1 (kisXD "Alike") (keVar 3)) kpNil))))
def xb11__law_result : XS := (xsUpd 1 (xdDisp (xpCons (xeC (.str "sound")) (xeUn1 (xisXD "Sound") (xeVar 3)) (xpCons (xeC (.str "shown")) (xeUn1 (xisXD "NotShown") (xeVar 3)) xpNil))))
theorem kb11__law_result : KSt b11__law_result xb11__law_result := (ksUpd 1 (kdDisp (kpCons (keC (.str "sound")) (keUn1 (kisXD "Sound") (keVar 3)) (kpCons (keC (.str "shown")) (keUn1 (kisXD "NotShown") (keVar 3)) kpNil))))
def xb12__law_result : XS := (xsUpd 1 (xdDisp (xpCons (xeC (.str "there")) (xeUn1 (xisXD "NoRow") (xeVar 3)) (xpCons (xeC (.str "many")) (xeUn1 (xisXD "TooMany") (xeVar 3)) xpNil))))
theorem kb12__law_result : KSt b12__law_result xb12__law_result := (ksUpd 1 (kdDisp (kpCons (keC (.str "there")) (keUn1 (kisXD "NoRow") (keVar 3)) (kpCons (keC (.str "many")) (keUn1 (kisXD "TooMany") (keVar 3)) kpNil))))
def xb13__law_result : XS := (xsUpd 1 (xdDisp (xpCons (xeC (.str "undo")) (xeUn1 (xisXD "NothingToUndo") (xeVar 3)) xpNil)))
theorem kb13__law_result : KSt b13__law_result xb13__law_result := (ksUpd 1 (kdDisp (kpCons (keC (.str "undo")) (keUn1 (kisXD "NothingToUndo") (keVar 3)) kpNil)))
def xb14__law_result : XS := (xsSetFP 2 (xeLc (xsKeys2 (xeVar 1)) (.name 5) [5] (xtB1 (xeOp xdgetD (xeVar 1) (xeVar 5))) (xeVar 5)))
theorem kb14__law_result : KSt b14__law_result xb14__law_result := (ksSetFP 2 (keLc (ksKeys2 (keVar 1)) (.name 5) [5] (ktB1 (keOp kdgetD (keVar 1) (keVar 5))) (keVar 5)))
def xb15__law_result : XS := (xsRet (xeIf (xtAndD (xtB1 (xeOp (xeqD false) (xeCb (xone1 xlenD) (xaCons (xeVar 2) xaNil)) (xeC (.int 1)))) (xtB1 (xeUn1 xisVD (xeVar 3)))) (xeTup (xaCons (xeOp xidxD (xeVar 2) (xeC (.int 0))) xaNil)) (xeTup (xaCons (xeC (.str "other error")) xaNil))))
theorem kb15__law_result : KSt b15__law_result xb15__law_result := (ksRet (keIf (ktAndD (ktB1 (keOp (keqD false) (keCb (kone1 klenD) (kaCons (keVar 2) kaNil)) (keC (.int 1)))) (ktB1 (keUn1 kisVD (keVar 3)))) (keTup (kaCons (keOp kidxD (keVar 2) (keC (.int 0))) kaNil)) (keTup (kaCons (keC (.str "other error")) kaNil))))
def xg__law_result : XS := (xsSeq xb2__law_result
    (xsSeq xb3__law_result
    (xsSeq xb4__law_result
    (xsSeq xb5__law_result
    (xsSeq xb6__law_result
    (xsSeq xb7__law_result
    (xsSeq xb8__law_result
    (xsSeq xb9__law_result
    (xsSeq xb10__law_result
    (xsSeq xb11__law_result
    (xsSeq xb12__law_result
    (xsSeq xb13__law_result
    (xsLck 1 (xsSeq xb14__law_result
    (xsFrz 2 xb15__law_result)))))))))))))))
theorem kg__law_result : KSt g__law_result xg__law_result := (ksSeq kb2__law_result
    (ksSeq kb3__law_result
    (ksSeq kb4__law_result
    (ksSeq kb5__law_result
    (ksSeq kb6__law_result
    (ksSeq kb7__law_result
    (ksSeq kb8__law_result
    (ksSeq kb9__law_result
    (ksSeq kb10__law_result
    (ksSeq kb11__law_result
    (ksSeq kb12__law_result
    (ksSeq kb13__law_result
    (ksLck 1 (ksSeq kb14__law_result
    (ksFrz 2 kb15__law_result)))))))))))))))
theorem g_ret : ∀ d (k : KS), k.rt (.tuple [.str "returns", d]) → g__law_result (((noneG 7).set 3 (some (.val .none))).set 4 (some (.val d))) k := fun d k q => kg__law_result _ (.rt (.tuple [.str "returns", d])) rfl k q
theorem g_all : (resL.all fun p => isWord p.2 (xg__law_result ((noneG 7).set 3 (some (.val (excD p.1)))))) = true := by kernel_rfl
theorem g_exc : ∀ n w (k : KS), resW n = some w → k.rt (.tuple [.str w]) → g__law_result ((noneG 7).set 3 (some (.val (excD n)))) k := fun n w k h q => kg__law_result _ _ (isWord_some (List.all_eq_true.mp g_all _ (resW_mem h))) k q
end G6
namespace G6
open PySem PySem.Spec L2 DL
abbrev s_is_between : Stmt := top 28
abbrev s_is_word : Stmt := top 29
abbrev s_home_of : Stmt := top 44
abbrev s_bound_of : Stmt := top 46
abbrev s_begun : Stmt := top 50
abbrev s_keys_in : Stmt := top 51
abbrev s_each_once : Stmt := top 53
abbrev s_with_slot : Stmt := top 55
abbrev s_watcher_left : Stmt := mtop 73 2
abbrev s_watcher_table : Stmt := mtop 73 3
abbrev s_watcher_notes : Stmt := mtop 73 4
abbrev s_watcher_undo : Stmt := mtop 73 5
abbrev s_watcher_eq : Stmt := mtop 73 6
abbrev s_watcher_len : Stmt := mtop 73 7
abbrev s_desk_undo : Stmt := mtop 75 2
abbrev s_desk_table : Stmt := mtop 75 5
abbrev s_desk_history : Stmt := mtop 75 6
abbrev s_desk_eq : Stmt := mtop 75 7
abbrev s_desk_len : Stmt := mtop 75 8
abbrev s__law_draw : Stmt := top 77
abbrev s__law_begun : Stmt := top 78
abbrev s__law_result : Stmt := top 79
abbrev s_is_slot_way : Stmt := top 30
abbrev s_is_key : Stmt := top 34
abbrev s_check_sight : Stmt := top 42
abbrev s_walk_of : Stmt := top 45
abbrev s_order_in : Stmt := top 52
abbrev s_distance : Stmt := top 56
abbrev s_used_in : Stmt := top 59
abbrev s__law_way : Stmt := top 80
abbrev s_is_way : Stmt := top 31
abbrev s_is_deed : Stmt := top 38
abbrev s_found_at : Stmt := top 54
abbrev s_placed : Stmt := top 57
abbrev s_pulled : Stmt := top 61
abbrev s_seen_of : Stmt := top 64
abbrev s_is_order : Stmt := top 70
abbrev s_desk_order : Stmt := mtop 75 4
abbrev s_check_way : Stmt := top 32
abbrev s_check_ways : Stmt := top 33
abbrev s_is_row : Stmt := top 39
abbrev s_check_deed : Stmt := top 40
abbrev s_laid_anew : Stmt := top 58
abbrev s_is_sight_of : Stmt := top 71
abbrev s_desk_str : Stmt := mtop 75 9
abbrev s_check_row : Stmt := top 41
abbrev s_grown : Stmt := top 60
abbrev s_removed : Stmt := top 62
abbrev s_watcher_init : Stmt := mtop 73 0
abbrev s_desk_init : Stmt := mtop 75 0
abbrev s_done : Stmt := top 63
abbrev s_work : Stmt := top 66
abbrev s_watcher_note : Stmt := mtop 73 1
abbrev s_desk_do : Stmt := mtop 75 1
abbrev s_desk_redo : Stmt := mtop 75 3
abbrev s_seen_along : Stmt := top 67
abbrev s_run : Stmt := top 68
abbrev s_law : Stmt := top 81
structure Tx [Nm] (w : World) (K : PySem.W.Frag) (mg : Str → Option Value) (base : Heap) : Prop where
  b_ValueError : mg "ValueError" = none
  b_all : mg "all" = none
  b_bool : mg "bool" = none
  b_dict : mg "dict" = none
  b_enumerate : mg "enumerate" = none
  b_int : mg "int" = none
  b_isinstance : mg "isinstance" = none
  b_len : mg "len" = none
  b_range : mg "range" = none
  b_str : mg "str" = none
  b_tuple : mg "tuple" = none
  b_zip : mg "zip" = none
  c_EMPTY : ∃ t, mg "EMPTY" = some (.int (-1) t)
  c_GONE : ∃ t, mg "GONE" = some (.int (-2) t)
  c_HOMES : ∃ u : Addr, mg "HOMES" = some (.ref u) ∧ ∀ (O : Ob) (H : Hp) (P : Addr → Prop), Dv O K H P (.ref u) c_HOMES
  c_STEPS : ∃ u : Addr, mg "STEPS" = some (.ref u) ∧ ∀ (O : Ob) (H : Hp) (P : Addr → Prop), Dv O K H P (.ref u) c_STEPS
  c_COMES : ∃ u : Addr, mg "COMES" = some (.ref u) ∧ ∀ (O : Ob) (H : Hp) (P : Addr → Prop), Dv O K H P (.ref u) c_COMES
  c_GONES : ∃ u : Addr, mg "GONES" = some (.ref u) ∧ ∀ (O : Ob) (H : Hp) (P : Addr → Prop), Dv O K H P (.ref u) c_GONES
  c_GROWS : ∃ u : Addr, mg "GROWS" = some (.ref u) ∧ ∀ (O : Ob) (H : Hp) (P : Addr → Prop), Dv O K H P (.ref u) c_GROWS
  c_KINDS : ∃ u : Addr, mg "KINDS" = some (.ref u) ∧ ∀ (O : Ob) (H : Hp) (P : Addr → Prop), Dv O K H P (.ref u) c_KINDS
  c_SIGHTS : ∃ u : Addr, mg "SIGHTS" = some (.ref u) ∧ ∀ (O : Ob) (H : Hp) (P : Addr → Prop), Dv O K H P (.ref u) c_SIGHTS
  f_is_between : FnT K mg "is_between" s_is_between
  f_is_word : FnT K mg "is_word" s_is_word
  f_home_of : FnT K mg "home_of" s_home_of
  f_bound_of : FnT K mg "bound_of" s_bound_of
  f_begun : FnT K mg "begun" s_begun
  f_keys_in : FnT K mg "keys_in" s_keys_in
  f_each_once : FnT K mg "each_once" s_each_once
  f_with_slot : FnT K mg "with_slot" s_with_slot
  f_watcher_left : FnO K mg "Watcher" "Watcher.left" "left" s_watcher_left
  f_watcher_table : FnO K mg "Watcher" "Watcher.table" "table" s_watcher_table
  f_watcher_notes : FnO K mg "Watcher" "Watcher.notes" "notes" s_watcher_notes
  f_watcher_undo : FnO K mg "Watcher" "Watcher.undo" "undo" s_watcher_undo
  f_watcher_eq : FnO K mg "Watcher" "Watcher.__eq__" "__eq__" s_watcher_eq
  f_watcher_len : FnO K mg "Watcher" "Watcher.__len__" "__len__" s_watcher_len
  f_desk_undo : FnO K mg "Desk" "Desk.undo" "undo" s_desk_undo
  f_desk_table : FnO K mg "Desk" "Desk.table" "table" s_desk_table
  f_desk_history : FnO K mg "Desk" "Desk.history" "history" s_desk_history
  f_desk_eq : FnO K mg "Desk" "Desk.__eq__" "__eq__" s_desk_eq
  f_desk_len : FnO K mg "Desk" "Desk.__len__" "__len__" s_desk_len
  f__law_draw : FnT K mg "_law_draw" s__law_draw
  f__law_begun : FnT K mg "_law_begun" s__law_begun
  f__law_result : FnT K mg "_law_result" s__law_result
  f_is_slot_way : FnT K mg "is_slot_way" s_is_slot_way
  f_is_key : FnT K mg "is_key" s_is_key
  f_check_sight : FnT K mg "check_sight" s_check_sight
  f_walk_of : FnT K mg "walk_of" s_walk_of
  f_order_in : FnT K mg "order_in" s_order_in
  f_distance : FnT K mg "distance" s_distance
  f_used_in : FnT K mg "used_in" s_used_in
  f__law_way : FnT K mg "_law_way" s__law_way
  f_is_way : FnT K mg "is_way" s_is_way
  f_is_deed : FnT K mg "is_deed" s_is_deed
  f_found_at : FnT K mg "found_at" s_found_at
  f_placed : FnT K mg "placed" s_placed
  f_pulled : FnT K mg "pulled" s_pulled
  f_seen_of : FnT K mg "seen_of" s_seen_of
  f_is_order : FnT K mg "is_order" s_is_order
  f_desk_order : FnO K mg "Desk" "Desk.order" "order" s_desk_order
  f_check_way : FnT K mg "check_way" s_check_way
  f_check_ways : FnT K mg "check_ways" s_check_ways
  f_is_row : FnT K mg "is_row" s_is_row
  f_check_deed : FnT K mg "check_deed" s_check_deed
  f_laid_anew : FnT K mg "laid_anew" s_laid_anew
  f_is_sight_of : FnT K mg "is_sight_of" s_is_sight_of
  f_desk_str : FnO K mg "Desk" "Desk.__str__" "__str__" s_desk_str
  f_check_row : FnT K mg "check_row" s_check_row
  f_grown : FnT K mg "grown" s_grown
  f_removed : FnT K mg "removed" s_removed
  f_watcher_init : FnJ K mg "Watcher" "Watcher.__init__" s_watcher_init
  f_desk_init : FnJ K mg "Desk" "Desk.__init__" s_desk_init
  f_done : FnT K mg "done" s_done
  f_work : FnT K mg "work" s_work
  f_watcher_note : FnO K mg "Watcher" "Watcher.note" "note" s_watcher_note
  f_desk_do : FnO K mg "Desk" "Desk.do" "do" s_desk_do
  f_desk_redo : FnO K mg "Desk" "Desk.redo" "redo" s_desk_redo
  f_seen_along : FnT K mg "seen_along" s_seen_along
  f_run : FnT K mg "run" s_run
  f_law : FnT K mg "law" s_law
  oc_Desk : OcT K mg "Desk"
  oc_Watcher : OcT K mg "Watcher"
  x_InvalidDeed : XcF K mg "InvalidDeed"
  x_InvalidRow : XcF K mg "InvalidRow"
  x_InvalidSeen : XcF K mg "InvalidSeen"
  x_InvalidSight : XcF K mg "InvalidSight"
  x_InvalidWay : XcF K mg "InvalidWay"
  x_InvalidWays : XcF K mg "InvalidWays"
  x_NotShown : XcF K mg "NotShown"
  x_NothingToUndo : XcF K mg "NothingToUndo"
  x_TooMany : XcF K mg "TooMany"
  xa : XcA K mg
  t_law : TabF K mg base "law"
section
variable [Nm] {P : Program} {w : World} {K : PySem.W.Frag} {mg : Str → Option Value} {base : Heap}
theorem sc_is_between : FnScope ["value", "low", "high"] ["value", "low", "high"] (defScope s_is_between) := ⟨rfl, rfl, rfl, by decide +kernel, rfl, by decide +kernel, by decide +kernel⟩
theorem cal_is_between (T : Tx w K mg base) : Cal (obT P w mg) P w K mg base "is_between" 1 ["value", "low", "high"] m_is_between := by
  refine cal_of (k := 0) T.f_is_between sc_is_between (fun _ _ _ _ _ _ us hl => match us, hl with | [_, _, _], _ => rfl) (fun f cdv A outer s H E hr ai => ?_)
  exact (dss_one (ds_ret (de_and (de_isi (x := "x") (T := "int") (n := "int") (de_var 0) (by rfl) T.b_isinstance (by rfl) T.b_int (by decide +kernel)) (de_and (de_not (de_isi (x := "x") (T := "bool") (n := "bool") (de_var 0) (by rfl) T.b_isinstance (by rfl) T.b_bool (by decide +kernel))) (de_one (de_chain op_le op_le opd_le opd_le (de_var 1) (de_var 0) (de_var 2)))))))
theorem sc_is_word : FnScope ["value", "words"] ["value", "words"] (defScope s_is_word) := ⟨rfl, rfl, rfl, by decide +kernel, rfl, by decide +kernel, by decide +kernel⟩
theorem cal_is_word (T : Tx w K mg base) : Cal (obT P w mg) P w K mg base "is_word" 1 ["value", "words"] m_is_word := by
  refine cal_of (k := 0) T.f_is_word sc_is_word (fun _ _ _ _ _ _ us hl => match us, hl with | [_, _], _ => rfl) (fun f cdv A outer s H E hr ai => ?_)
  exact (dss_one (ds_ret (de_and (de_isi (x := "x") (T := "str") (n := "str") (de_var 0) (by rfl) T.b_isinstance (by rfl) T.b_str (by decide +kernel)) (de_one (de_cmp (op_inA (u65 hr)) opd_in (de_var 0) (de_var 1) rfl)))))
theorem sc_home_of : FnScope ["way", "key", "size"] ["way", "key", "size"] (defScope s_home_of) := ⟨rfl, rfl, rfl, by decide +kernel, rfl, by decide +kernel, by decide +kernel⟩
theorem cal_home_of (T : Tx w K mg base) : Cal (obT P w mg) P w K mg base "home_of" 1 ["way", "key", "size"] m_home_of := by
  refine cal_of (k := 0) T.f_home_of sc_home_of (fun _ _ _ _ _ _ us hl => match us, hl with | [_, _, _], _ => rfl) (fun f cdv A outer s H E hr ai => ?_)
  exact (dss_one (ds_ret (de_op op_mod opd_mod (de_if (dt_cmp (op_eqD hr.units) opd_eq (de_idx (de_var 0) de_int (fun _ _ => rfl)) de_str (nomark _)) (de_var 1) (de_op op_addD opd_add (de_var 1) (de_op op_fdiv opd_fdiv (de_var 1) de_int))) (de_var 2))))
theorem sc_bound_of : FnScope ["way", "size"] ["way", "size"] (defScope s_bound_of) := ⟨rfl, rfl, rfl, by decide +kernel, rfl, by decide +kernel, by decide +kernel⟩
theorem cal_bound_of (T : Tx w K mg base) : Cal (obT P w mg) P w K mg base "bound_of" 1 ["way", "size"] m_bound_of := by
  refine cal_of (k := 0) T.f_bound_of sc_bound_of (fun _ _ _ _ _ _ us hl => match us, hl with | [_, _], _ => rfl) (fun f cdv A outer s H E hr ai => ?_)
  exact (dss_cons (ds_if (dt_cmp (op_eqD hr.units) opd_eq (de_idx (de_var 0) de_int (fun _ _ => rfl)) de_str (nomark _)) (dss_one (ds_ret (de_if (dt_cmp (op_eqD hr.units) opd_eq (de_idx (de_var 0) de_int (fun _ _ => rfl)) de_str (nomark _)) (de_var 1) (de_op op_mulD opd_mul de_int (de_var 1))))) dss_nil)
      (dss_one (ds_ret (de_dget (obT_no _ _ _) (u65 hr) (DD.de (dd_disp (dps_cons de_str (de_op op_fdiv opd_fdiv (de_var 1) de_int) (dps_cons de_str (de_op op_fdiv opd_fdiv (de_op op_mulD opd_mul (de_var 1) de_int) de_int) (dps_cons de_str (de_op op_sub opd_sub (de_var 1) de_int) dps_nil))))) (de_idx (de_var 0) de_int (fun _ _ => rfl)) (fun _ _ => rfl)))))
theorem sc_begun : FnScope ["way", "size"] ["way", "size"] (defScope s_begun) := ⟨rfl, rfl, rfl, by decide +kernel, rfl, by decide +kernel, by decide +kernel⟩
theorem cal_begun (T : Tx w K mg base) : Cal (obT P w mg) P w K mg base "begun" 1 ["way", "size"] m_begun := by
  refine cal_of (k := 0) T.f_begun sc_begun (fun _ _ _ _ _ _ us hl => match us, hl with | [_, _], _ => rfl) (fun f cdv A outer s H E hr ai => ?_)
  exact (dss_one (ds_ret (de_if (dt_cmp (op_eqD hr.units) opd_eq (de_idx (de_var 0) de_int (fun _ _ => rfl)) de_str (nomark _)) (de_op op_mulD opd_mul (de_tup (da_cons (de_tup da_nil) da_nil)) (de_var 1)) (de_op op_mulD opd_mul (de_tup (da_cons (de_globI (by rfl) T.c_EMPTY) da_nil)) (de_var 1)))))
theorem sc_keys_in : FnScope ["way", "table", "key", "row"] ["way", "table"] (defScope s_keys_in) := ⟨rfl, rfl, rfl, by decide +kernel, rfl, by decide +kernel, by decide +kernel⟩
theorem cal_keys_in (T : Tx w K mg base) : Cal (obT P w mg) P w K mg base "keys_in" 1 ["way", "table"] m_keys_in := by
  refine cal_of (k := 0) T.f_keys_in sc_keys_in (fun _ _ _ _ _ _ us hl => match us, hl with | [_, _], _ => rfl) (fun f cdv A outer s H E hr ai => ?_)
  exact (dss_cons (ds_if (dt_cmp (op_eqD hr.units) opd_eq (de_idx (de_var 0) de_int (fun _ _ => rfl)) de_str (nomark _)) (dss_one (ds_ret (DF.de (DLc.df (lc2 (own := [("row", 3), ("key", 2)]) (vs1 := [2]) rfl sc_keys_in.nd (di_seq (de_var 1)) (blkOk_by (by kernel_rfl)) (by decide) (fun _ _ _ _ _ => (dg_name 3 sc_keys_in.nd)) (fun _ _ _ _ _ => dts_nil) (fun _ _ _ _ _ => (di_seq (de_var 3))) (fun _ _ _ _ _ => (dg_name 2 sc_keys_in.nd)) (fun _ _ _ _ _ => dts_nil) (fun _ _ _ _ _ => (de_var 2)) (by decide) (by decide)))))) dss_nil)
      (dss_one (ds_ret (DF.de (DLc.df (lc1 (own := [("key", 2)]) rfl sc_keys_in.nd (di_seq (de_var 1)) (blkOk_by (by kernel_rfl)) (fun _ _ _ _ _ => (dg_name 2 sc_keys_in.nd)) (fun _ _ _ _ _ => (dts_one (dt_cmp op_ge opd_ge (de_var 2) de_int (nomark _)))) (fun _ _ _ _ _ => (de_var 2)) (by decide)))))))
theorem sc_each_once : FnScope ["keys", "found", "key"] ["keys"] (defScope s_each_once) := ⟨rfl, rfl, rfl, by decide +kernel, rfl, by decide +kernel, by decide +kernel⟩
theorem cal_each_once (T : Tx w K mg base) : Cal (obT P w mg) P w K mg base "each_once" 1 ["keys"] m_each_once := by
  refine cal_of (k := 0) T.f_each_once sc_each_once (fun _ _ _ _ _ _ us hl => match us, hl with | [_], _ => rfl) (fun f cdv A outer s H E hr ai => ?_)
  exact (dss_cons (ds_setF 1 sc_each_once.nd (df_lst da_nil))
      (dss_cons (ds_for ai.own rfl (di_seq (de_var 0)) (dg_name 2 sc_each_once.nd) (dss_one (ds_if (dt_cmp (op_notInA (u65 hr)) opd_notIn (de_var 2) (de_var 1) rfl) (dss_one (ds_app 1 (de_var 2))) dss_nil)))
      (dss_one (ds_ret (de_var 1)))))
theorem sc_with_slot : FnScope ["table", "slot", "thing"] ["table", "slot", "thing"] (defScope s_with_slot) := ⟨rfl, rfl, rfl, by decide +kernel, rfl, by decide +kernel, by decide +kernel⟩
theorem cal_with_slot (T : Tx w K mg base) : Cal (obT P w mg) P w K mg base "with_slot" 1 ["table", "slot", "thing"] m_with_slot := by
  refine cal_of (k := 0) T.f_with_slot sc_with_slot (fun _ _ _ _ _ _ us hl => match us, hl with | [_, _, _], _ => rfl) (fun f cdv A outer s H E hr ai => ?_)
  exact (dss_one (ds_ret (de_op op_addD opd_add (de_op op_addD opd_add (de_slice (de_var 0) do_none (do_some (de_var 1))) (de_tup (da_cons (de_var 2) da_nil))) (de_slice (de_var 0) (do_some (de_op op_addD opd_add (de_var 1) de_int)) do_none))))
theorem sc_watcher_left : FnScope ["self", "index", "table"] ["self"] (defScope s_watcher_left) := ⟨rfl, rfl, rfl, by decide +kernel, rfl, by decide +kernel, by decide +kernel⟩
theorem cal_watcher_left (T : Tx w K mg base) : CalO (obT P w mg) P w K mg base "Watcher" "left" 1 ["self"] m_watcher_left := by
  refine calO_of (k := 0) T.f_watcher_left sc_watcher_left (fun _ _ _ _ _ _ us hl => match us, hl with | [_], _ => rfl) (fun f cdv A outer s H E hr ai => ?_)
  exact (dss_one (ds_ret (de_callTy call_tupF cbd_tuple (by rfl) T.b_tuple (by decide +kernel) (da_cons (DF.de (DLc.df (lc1 (own := [("index", 1), ("table", 2)]) rfl sc_watcher_left.nd (di_seq (de_idx (de_fldO (f := "left_along") T.oc_Watcher (de_var 0)) (de_neg de_int) (fun _ _ => rfl))) (blkOk_by (by kernel_rfl)) (fun _ _ _ _ _ => (dg_tup rfl (dgs_cons (dg_name 1 sc_watcher_left.nd) (dgs_cons (dg_name 2 sc_watcher_left.nd) dgs_nil)))) (fun _ _ _ _ _ => dts_nil) (fun _ _ _ _ _ => (de_var 1)) (by decide)))) da_nil))))
theorem sc_watcher_notes : FnScope ["self"] ["self"] (defScope s_watcher_notes) := ⟨rfl, rfl, rfl, by decide +kernel, rfl, by decide +kernel, by decide +kernel⟩
theorem cal_watcher_notes (T : Tx w K mg base) : CalO (obT P w mg) P w K mg base "Watcher" "notes" 1 ["self"] m_watcher_notes := by
  refine calO_of (k := 0) T.f_watcher_notes sc_watcher_notes (fun _ _ _ _ _ _ us hl => match us, hl with | [_], _ => rfl) (fun f cdv A outer s H E hr ai => ?_)
  exact (dss_one (ds_ret (de_callTy call_tupF cbd_tuple (by rfl) T.b_tuple (by decide +kernel) (da_cons (de_fldO (f := "noted") T.oc_Watcher (de_var 0)) da_nil))))
theorem sc_watcher_undo : FnScope ["self"] ["self"] (defScope s_watcher_undo) := ⟨rfl, rfl, rfl, by decide +kernel, rfl, by decide +kernel, by decide +kernel⟩
theorem cal_watcher_undo (T : Tx w K mg base) : CalZ (obT P w mg) P w K mg base "Watcher" "undo" 1 ["self"] m_watcher_undo := by
  refine calZ_of (k := 0) T.f_watcher_undo sc_watcher_undo (fun _ _ _ _ _ _ us hl => match us, hl with | [_], _ => rfl) (fun f cdv A outer s H E hr ai => ?_)
  exact (mss_cons (ms_if (mt_rd (dt_cmp (op_eqD hr.units) opd_eq (de_fldO (f := "noted") T.oc_Watcher (de_var 0)) (DF.de (df_lst da_nil)) (nomark _))) (mss_one (ms_cl (ds_raise ai T.x_NothingToUndo))) mss_nil)
      (mss_cons (ms_expr (me_fpop (f := "left_along") T.oc_Watcher (de_var 0)))
      (mss_one (ms_ret (me_fpop (f := "noted") T.oc_Watcher (de_var 0))))))
theorem sc_watcher_len : FnScope ["self"] ["self"] (defScope s_watcher_len) := ⟨rfl, rfl, rfl, by decide +kernel, rfl, by decide +kernel, by decide +kernel⟩
theorem cal_watcher_len (T : Tx w K mg base) : CalO (obT P w mg) P w K mg base "Watcher" "__len__" 1 ["self"] m_watcher_len := by
  refine calO_of (k := 0) T.f_watcher_len sc_watcher_len (fun _ _ _ _ _ _ us hl => match us, hl with | [_], _ => rfl) (fun f cdv A outer s H E hr ai => ?_)
  exact (dss_one (ds_ret (de_callB call_len cbd_len (by rfl) T.b_len (by decide +kernel) (da_cons (de_fldO (f := "noted") T.oc_Watcher (de_var 0)) da_nil))))
theorem sc_desk_undo : FnScope ["self"] ["self"] (defScope s_desk_undo) := ⟨rfl, rfl, rfl, by decide +kernel, rfl, by decide +kernel, by decide +kernel⟩
theorem cal_desk_undo (T : Tx w K mg base) : CalZ (obT P w mg) P w K mg base "Desk" "undo" 1 ["self"] m_desk_undo := by
  refine calZ_of (k := 0) T.f_desk_undo sc_desk_undo (fun _ _ _ _ _ _ us hl => match us, hl with | [_], _ => rfl) (fun f cdv A outer s H E hr ai => ?_)
  exact (mss_cons (ms_if (mt_rd (dt_cmp (op_eqD hr.units) opd_eq (de_fldO (f := "past") T.oc_Desk (de_var 0)) (DF.de (df_lst da_nil)) (nomark _))) (mss_one (ms_cl (ds_raise ai T.x_NothingToUndo))) mss_nil)
      (mss_cons (ms_expr (me_fpop (f := "tables") T.oc_Desk (de_var 0)))
      (mss_cons (ms_fappPop (f := "future") (g := "past") T.oc_Desk (de_var 0) (de_var 0))
      (mss_one (ms_ret (me_rd (de_idx (de_fldO (f := "future") T.oc_Desk (de_var 0)) (de_neg de_int) (fun _ _ => rfl))))))))
theorem sc_desk_history : FnScope ["self"] ["self"] (defScope s_desk_history) := ⟨rfl, rfl, rfl, by decide +kernel, rfl, by decide +kernel, by decide +kernel⟩
theorem cal_desk_history (T : Tx w K mg base) : CalO (obT P w mg) P w K mg base "Desk" "history" 1 ["self"] m_desk_history := by
  refine calO_of (k := 0) T.f_desk_history sc_desk_history (fun _ _ _ _ _ _ us hl => match us, hl with | [_], _ => rfl) (fun f cdv A outer s H E hr ai => ?_)
  exact (dss_one (ds_ret (de_callTy call_tupF cbd_tuple (by rfl) T.b_tuple (by decide +kernel) (da_cons (de_fldO (f := "past") T.oc_Desk (de_var 0)) da_nil))))
theorem sc_desk_len : FnScope ["self"] ["self"] (defScope s_desk_len) := ⟨rfl, rfl, rfl, by decide +kernel, rfl, by decide +kernel, by decide +kernel⟩
theorem cal_desk_len (T : Tx w K mg base) : CalO (obT P w mg) P w K mg base "Desk" "__len__" 1 ["self"] m_desk_len := by
  refine calO_of (k := 0) T.f_desk_len sc_desk_len (fun _ _ _ _ _ _ us hl => match us, hl with | [_], _ => rfl) (fun f cdv A outer s H E hr ai => ?_)
  exact (dss_one (ds_ret (de_callB call_len cbd_len (by rfl) T.b_len (by decide +kernel) (da_cons (de_fldO (f := "past") T.oc_Desk (de_var 0)) da_nil))))
theorem sc__law_draw : FnScope ["script", "town", "many", "at", "rest", "number"] ["script", "town", "many"] (defScope s__law_draw) := ⟨rfl, rfl, rfl, by decide +kernel, rfl, by decide +kernel, by decide +kernel⟩
theorem cal__law_draw (T : Tx w K mg base) : Cal (obT P w mg) P w K mg base "_law_draw" 1 ["script", "town", "many"] m__law_draw := by
  refine DL.cal_draw T.f__law_draw sc__law_draw (fun _ _ _ _ _ _ us hl => match us, hl with | [_, _, _], _ => rfl) (fun f cdv A outer s H E hr => ?_)
  have hu1 := u65 hr
  have hu : (cxOf (L2.CX P w) P w K mg base ["script", "town", "many", "at", "rest", "number"] "_law_draw" (defScope s__law_draw) f cdv A outer s H E).nox.A.units + 1 < cLine := by
    show (A.deeper _).units + 1 < cLine
    omega
  exact pss_cons (ps_dput hu (pv 1) pe_str (pe_op op_add (pe_dget hu (pv 1) pe_str (fun _ _ => rfl)) pe_int) rfl)
    (pss_cons (ps_set (i := 3) sc__law_draw.nd rfl (Or.inl rfl) (pe_ifExp (pt_truth (pv 0) (fun _ => rfl)) (pe_op op_mod (pe_dget hu (pv 1) pe_str (fun _ _ => rfl)) (pe_callB call_len rfl T.b_len boot_len (pa_cons (pv 0) pa_nil))) pe_int))
    (pss_cons (ps_set (i := 4) sc__law_draw.nd rfl (Or.inl rfl) (pe_dget2 hu (pe_dget hu (pv 1) pe_str (fun _ _ => rfl)) (pv 3) (pe_ifExp (pt_truth (pv 0) (fun _ => rfl)) (pe_ix ix_list (pv 0) (pv 3) (fun _ _ => rfl)) pe_int) ⟨rfl, rfl, rfl, rfl⟩))
    (pss_cons (ps_if (pt_cmpR op_ge (pv 4) (pe_op op_pow pe_int pe_int) (nomark _)) (pss_cons (ps_dput hu (pe_dget hu (pv 1) pe_str (fun _ _ => rfl)) (pv 3) (pe_op op_fdiv (pv 4) (pv 2)) rfl) (pss_one (ps_ret (pe_op op_mod (pv 4) (pv 2))))) pss_nil)
    (pss_cons (ps_set (i := 5) sc__law_draw.nd rfl (Or.inl rfl) (pe_op op_mod (pe_op op_add (pv 4) (pe_op op_mul pe_int (pe_dget hu (pv 1) pe_str (fun _ _ => rfl)))) pe_int))
    (pss_cons (ps_set (i := 5) sc__law_draw.nd rfl (Or.inl rfl) (pe_op op_mod (pe_op op_pow (pv 5) pe_int) pe_int))
    (pss_one (ps_ret (pe_op op_mod (pe_op op_fdiv (pe_op op_mod (pe_op op_add (pe_op op_mul (pe_op op_fdiv (pv 5) pe_int) pe_int) (pv 5)) pe_int) pe_int) (pv 2)))))))))
theorem sc__law_begun : FnScope [] [] (defScope s__law_begun) := ⟨rfl, rfl, rfl, by decide +kernel, rfl, by decide +kernel, by decide +kernel⟩
theorem cal__law_begun (T : Tx w K mg base) : Cal (obT P w mg) P w K mg base "_law_begun" 1 [] m__law_begun := by
  refine DL.cal_begun T.f__law_begun sc__law_begun (fun _ _ _ _ _ _ us hl => match us, hl with | [], _ => rfl) (fun f cdv A outer s H E hr => ?_)
  exact pss_one (ps_ret (pe_disp (pps_cons pe_str pe_int (pps_cons pe_str pe_dnewK pps_nil)) rfl rfl (fun z => nomatch z) (by decide)))
theorem sc__law_result : FnScope ["call", "some", "names", "caught", "answer", "name", "e"] ["call"] (defScope s__law_result) := ⟨rfl, rfl, rfl, by decide +kernel, rfl, by decide +kernel, by decide +kernel⟩
theorem res_ok (T : Tx w K mg base) : ResOkS P w K mg base s__law_result ["call", "some", "names", "caught", "answer", "name", "e"] := by
  refine ⟨T.f__law_result, sc__law_result, (fun _ _ _ _ _ _ us hl => match us, hl with | [_], _ => rfl), rfl, Or.inl rfl, fun X k q g cdg e1 e2 e3 e4 e5 hr => ?_⟩
  subst e1 e2 e3 e4 e5
  exact give_resS (ic := 3) (ia := 4) (ie := 6) T.xa rfl sc__law_result.nd rfl rfl rfl rfl rfl rfl rfl (by decide) (by decide) (by decide) (fun s H => ps_asg (pe_tupF (pa_cons pe_non (pa_cons pe_non pa_nil))) (pg_tup rfl (pgs_cons (pg_name sc__law_result.nd rfl (.inl rfl)) (pgs_cons (pg_name sc__law_result.nd rfl (.inl rfl)) pgs_nil))))
    (fun s H => have hr := hr.deeper (PyProof.Rows.envOfC "_law_result" (defScope s__law_result) s.heap.objs.size g cdg)
      (dss_cons (ds_if (dt_cmp op_isN opd_isN (de_var 3) de_non (nomark _)) (dss_one (ds_ret (de_tup (da_cons de_str (da_cons (de_var 4) da_nil))))) dss_nil)
      (dss_cons (ds_setD 1 sc__law_result.nd (dd_disp (dps_cons de_str (de_isX (u := "way") T.xa (by decide +kernel) (de_var 3) (by rfl) T.b_isinstance (by rfl)) (dps_cons de_str (de_isX (u := "ways") T.xa (by decide +kernel) (de_var 3) (by rfl) T.b_isinstance (by rfl)) dps_nil))))
      (dss_cons (ds_upd 1 (dd_disp (dps_cons de_str (de_isX (u := "size") T.xa (by decide +kernel) (de_var 3) (by rfl) T.b_isinstance (by rfl)) (dps_cons de_str (de_isX (u := "key") T.xa (by decide +kernel) (de_var 3) (by rfl) T.b_isinstance (by rfl)) dps_nil))))
      (dss_cons (ds_upd 1 (dd_disp (dps_cons de_str (de_isX (u := "all") T.xa (by decide +kernel) (de_var 3) (by rfl) T.b_isinstance (by rfl)) (dps_cons de_str (de_isX (u := "row") T.xa (by decide +kernel) (de_var 3) (by rfl) T.b_isinstance (by rfl)) dps_nil))))
      (dss_cons (ds_upd 1 (dd_disp (dps_cons de_str (de_isX (u := "sight") T.xa (by decide +kernel) (de_var 3) (by rfl) T.b_isinstance (by rfl)) (dps_cons de_str (de_isX (u := "seen") T.xa (by decide +kernel) (de_var 3) (by rfl) T.b_isinstance (by rfl)) dps_nil))))
      (dss_cons (ds_upd 1 (dd_disp (dps_cons de_str (de_isX (u := "order") T.xa (by decide +kernel) (de_var 3) (by rfl) T.b_isinstance (by rfl)) dps_nil)))
      (dss_cons (ds_upd 1 (dd_disp (dps_cons de_str (de_isX (u := "table") T.xa (by decide +kernel) (de_var 3) (by rfl) T.b_isinstance (by rfl)) (dps_cons de_str (de_isX (u := "number") T.xa (by decide +kernel) (de_var 3) (by rfl) T.b_isinstance (by rfl)) dps_nil))))
      (dss_cons (ds_upd 1 (dd_disp (dps_cons de_str (de_isX (u := "deed") T.xa (by decide +kernel) (de_var 3) (by rfl) T.b_isinstance (by rfl)) (dps_cons de_str (de_isX (u := "text") T.xa (by decide +kernel) (de_var 3) (by rfl) T.b_isinstance (by rfl)) dps_nil))))
      (dss_cons (ds_upd 1 (dd_disp (dps_cons de_str (de_isX (u := "large") T.xa (by decide +kernel) (de_var 3) (by rfl) T.b_isinstance (by rfl)) (dps_cons de_str (de_isX (u := "alike") T.xa (by decide +kernel) (de_var 3) (by rfl) T.b_isinstance (by rfl)) dps_nil))))
      (dss_cons (ds_upd 1 (dd_disp (dps_cons de_str (de_isX (u := "sound") T.xa (by decide +kernel) (de_var 3) (by rfl) T.b_isinstance (by rfl)) (dps_cons de_str (de_isX (u := "shown") T.xa (by decide +kernel) (de_var 3) (by rfl) T.b_isinstance (by rfl)) dps_nil))))
      (dss_cons (ds_upd 1 (dd_disp (dps_cons de_str (de_isX (u := "there") T.xa (by decide +kernel) (de_var 3) (by rfl) T.b_isinstance (by rfl)) (dps_cons de_str (de_isX (u := "many") T.xa (by decide +kernel) (de_var 3) (by rfl) T.b_isinstance (by rfl)) dps_nil))))
      (dss_cons (ds_upd 1 (dd_disp (dps_cons de_str (de_isX (u := "undo") T.xa (by decide +kernel) (de_var 3) (by rfl) T.b_isinstance (by rfl)) dps_nil)))
      (dss_lck 1 (dss_cons (ds_setLcFP 2 (lc1 (own := [("name", 5)]) rfl sc__law_result.nd (di_keys (obT_no _ _ _) (de_var 1)) (blkOk_by (by kernel_rfl)) (fun _ _ _ _ _ => (dg_name 5 sc__law_result.nd)) (fun _ _ _ _ _ => (dts_one (dt_val (de_dget (obT_no _ _ _) (u65 hr) (de_var 1) (de_var 5) (fun _ _ => rfl))))) (fun _ _ _ _ _ => (de_var 5)) (by decide)))
      (dss_frz 2 (dss_one (ds_ret (de_if (DW.dt (dw_and (dt_cmp (op_eqD hr.units) opd_eq (de_callB call_len cbd_len (by rfl) T.b_len (by decide +kernel) (da_cons (de_var 2) da_nil)) de_int (nomark _)) (dw_and1 (dt_val (de_isV T.xa (de_var 3) (by rfl) T.b_isinstance (by rfl) T.b_ValueError))))) (de_tup (da_cons (de_idx (de_var 2) de_int (fun _ _ => rfl)) da_nil)) (de_tup (da_cons de_str da_nil))))))))))))))))))))) g_ret g_exc
theorem sc_is_slot_way : FnScope ["value"] ["value"] (defScope s_is_slot_way) := ⟨rfl, rfl, rfl, by decide +kernel, rfl, by decide +kernel, by decide +kernel⟩
theorem cal_is_slot_way (T : Tx w K mg base) : Cal (obT P w mg) P w K mg base "is_slot_way" 2 ["value"] m_is_slot_way := by
  have C_is_word := cal_is_word (P := P) (w := w) (base := base) T
  refine cal_of (k := 1) T.f_is_slot_way sc_is_slot_way (fun _ _ _ _ _ _ us hl => match us, hl with | [_], _ => rfl) (fun f cdv A outer s H E hr ai => ?_)
  exact (dss_cons (ds_if (DW.dt (dw_or (dt_cmp (op_neD hr.units) opd_ne (de_callB call_len cbd_len (by rfl) T.b_len (by decide +kernel) (da_cons (de_var 0) da_nil)) de_int (nomark _)) (dw_or (dt_not (dt_val (de_fn C_is_word hr ai.pass (da_cons (de_idx (de_var 0) de_int (fun _ _ => rfl)) (da_cons (de_globE (by rfl) T.c_HOMES) da_nil))))) (dw_or1 (dt_not (dt_val (de_fn C_is_word hr ai.pass (da_cons (de_idx (de_var 0) de_int (fun _ _ => rfl)) (da_cons (de_globE (by rfl) T.c_STEPS) da_nil))))))))) (dss_one (ds_ret de_bl)) dss_nil)
      (dss_cons (ds_if (DW.dt (dw_or (dt_not (dt_val (de_fn C_is_word hr ai.pass (da_cons (de_idx (de_var 0) de_int (fun _ _ => rfl)) (da_cons (de_globE (by rfl) T.c_COMES) da_nil))))) (dw_or (dt_not (dt_val (de_fn C_is_word hr ai.pass (da_cons (de_idx (de_var 0) de_int (fun _ _ => rfl)) (da_cons (de_globE (by rfl) T.c_GONES) da_nil))))) (dw_or1 (dt_not (dt_val (de_fn C_is_word hr ai.pass (da_cons (de_idx (de_var 0) de_int (fun _ _ => rfl)) (da_cons (de_globE (by rfl) T.c_GROWS) da_nil))))))))) (dss_one (ds_ret de_bl)) dss_nil)
      (dss_one (ds_ret (de_or (de_cmp (op_inA (u65 hr)) opd_in (de_idx (de_var 0) de_int (fun _ _ => rfl)) (de_tup (da_cons de_str (da_cons de_str da_nil))) rfl) (de_one (de_and (de_cmp (op_inA (u65 hr)) opd_in (de_idx (de_var 0) de_int (fun _ _ => rfl)) (de_tup (da_cons de_str (da_cons de_str da_nil))) rfl) (de_one (de_cmp (op_neD hr.units) opd_ne (de_idx (de_var 0) de_int (fun _ _ => rfl)) de_str (nomark _))))))))))
theorem sc_is_key : FnScope ["value"] ["value"] (defScope s_is_key) := ⟨rfl, rfl, rfl, by decide +kernel, rfl, by decide +kernel, by decide +kernel⟩
theorem cal_is_key (T : Tx w K mg base) : Cal (obT P w mg) P w K mg base "is_key" 2 ["value"] m_is_key := by
  have C_is_between := cal_is_between (P := P) (w := w) (base := base) T
  refine cal_of (k := 1) T.f_is_key sc_is_key (fun _ _ _ _ _ _ us hl => match us, hl with | [_], _ => rfl) (fun f cdv A outer s H E hr ai => ?_)
  exact (dss_one (ds_ret (de_fn C_is_between hr ai.pass (da_cons (de_var 0) (da_cons de_int (da_cons de_int da_nil))))))
theorem sc_check_sight : FnScope ["sight"] ["sight"] (defScope s_check_sight) := ⟨rfl, rfl, rfl, by decide +kernel, rfl, by decide +kernel, by decide +kernel⟩
theorem cal_check_sight (T : Tx w K mg base) : Cal (obT P w mg) P w K mg base "check_sight" 2 ["sight"] m_check_sight := by
  have C_is_word := cal_is_word (P := P) (w := w) (base := base) T
  refine cal_of (k := 1) T.f_check_sight sc_check_sight (fun _ _ _ _ _ _ us hl => match us, hl with | [_], _ => rfl) (fun f cdv A outer s H E hr ai => ?_)
  exact (dss_one (ds_if (dt_not (dt_val (de_fn C_is_word hr ai.pass (da_cons (de_var 0) (da_cons (de_globE (by rfl) T.c_SIGHTS) da_nil))))) (dss_one (ds_raise ai T.x_InvalidSight)) dss_nil))
theorem sc_walk_of : FnScope ["way", "key", "size", "start", "at"] ["way", "key", "size"] (defScope s_walk_of) := ⟨rfl, rfl, rfl, by decide +kernel, rfl, by decide +kernel, by decide +kernel⟩
theorem cal_walk_of (T : Tx w K mg base) : Cal (obT P w mg) P w K mg base "walk_of" 2 ["way", "key", "size"] m_walk_of := by
  have C_home_of := cal_home_of (P := P) (w := w) (base := base) T
  refine cal_of (k := 1) T.f_walk_of sc_walk_of (fun _ _ _ _ _ _ us hl => match us, hl with | [_, _, _], _ => rfl) (fun f cdv A outer s H E hr ai => ?_)
  exact (dss_cons (ds_set 3 sc_walk_of.nd (de_fn C_home_of hr ai.pass (da_cons (de_var 0) (da_cons (de_var 1) (da_cons (de_var 2) da_nil)))))
      (dss_cons (ds_if (dt_cmp (op_eqD hr.units) opd_eq (de_idx (de_var 0) de_int (fun _ _ => rfl)) de_str (nomark _)) (dss_one (ds_ret (de_tup (da_cons (de_var 3) da_nil)))) dss_nil)
      (dss_cons (ds_if (dt_cmp (op_eqD hr.units) opd_eq (de_idx (de_var 0) de_int (fun _ _ => rfl)) de_str (nomark _)) (dss_one (ds_ret (de_callTy call_tupF cbd_tuple (by rfl) T.b_tuple (by decide +kernel) (da_cons (DF.de (DLc.df (lc1 (own := [("at", 4)]) rfl sc_walk_of.nd (di_range1 (by rfl) T.b_range (da_cons (de_var 2) da_nil)) (blkOk_by (by kernel_rfl)) (fun _ _ _ _ _ => (dg_name 4 sc_walk_of.nd)) (fun _ _ _ _ _ => dts_nil) (fun _ _ _ _ _ => (de_op op_mod opd_mod (de_op op_addD opd_add (de_var 3) (de_var 4)) (de_var 2))) (by decide)))) da_nil)))) dss_nil)
      (dss_cons (ds_if (dt_cmp (op_eqD hr.units) opd_eq (de_idx (de_var 0) de_int (fun _ _ => rfl)) de_str (nomark _)) (dss_one (ds_ret (de_callTy call_tupF cbd_tuple (by rfl) T.b_tuple (by decide +kernel) (da_cons (DF.de (DLc.df (lc1 (own := [("at", 4)]) rfl sc_walk_of.nd (di_range1 (by rfl) T.b_range (da_cons (de_var 2) da_nil)) (blkOk_by (by kernel_rfl)) (fun _ _ _ _ _ => (dg_name 4 sc_walk_of.nd)) (fun _ _ _ _ _ => dts_nil) (fun _ _ _ _ _ => (de_op op_mod opd_mod (de_op op_sub opd_sub (de_var 3) (de_var 4)) (de_var 2))) (by decide)))) da_nil)))) dss_nil)
      (dss_cons (ds_if (dt_cmp (op_eqD hr.units) opd_eq (de_idx (de_var 0) de_int (fun _ _ => rfl)) de_str (nomark _)) (dss_one (ds_ret (de_callTy call_tupF cbd_tuple (by rfl) T.b_tuple (by decide +kernel) (da_cons (DF.de (DLc.df (lc1 (own := [("at", 4)]) rfl sc_walk_of.nd (di_range1 (by rfl) T.b_range (da_cons (de_var 2) da_nil)) (blkOk_by (by kernel_rfl)) (fun _ _ _ _ _ => (dg_name 4 sc_walk_of.nd)) (fun _ _ _ _ _ => dts_nil) (fun _ _ _ _ _ => (de_op op_mod opd_mod (de_op op_addD opd_add (de_var 3) (de_op op_fdiv opd_fdiv (de_op op_mulD opd_mul (de_var 4) (de_op op_addD opd_add (de_var 4) de_int)) de_int)) (de_var 2))) (by decide)))) da_nil)))) dss_nil)
      (dss_one (ds_ret (de_callTy call_tupF cbd_tuple (by rfl) T.b_tuple (by decide +kernel) (da_cons (DF.de (DLc.df (lc1 (own := [("at", 4)]) rfl sc_walk_of.nd (di_range1 (by rfl) T.b_range (da_cons (de_var 2) da_nil)) (blkOk_by (by kernel_rfl)) (fun _ _ _ _ _ => (dg_name 4 sc_walk_of.nd)) (fun _ _ _ _ _ => dts_nil) (fun _ _ _ _ _ => (de_op op_mod opd_mod (de_op op_addD opd_add (de_var 3) (de_op op_mulD opd_mul (de_var 4) (de_op op_addD opd_add de_int (de_op op_mulD opd_mul de_int (de_op op_mod opd_mod (de_op op_fdiv opd_fdiv (de_var 1) de_int) de_int))))) (de_var 2))) (by decide)))) da_nil)))))))))
theorem sc_order_in : FnScope ["way", "table"] ["way", "table"] (defScope s_order_in) := ⟨rfl, rfl, rfl, by decide +kernel, rfl, by decide +kernel, by decide +kernel⟩
theorem cal_order_in (T : Tx w K mg base) : Cal (obT P w mg) P w K mg base "order_in" 2 ["way", "table"] m_order_in := by
  have C_keys_in := cal_keys_in (P := P) (w := w) (base := base) T
  refine cal_of (k := 1) T.f_order_in sc_order_in (fun _ _ _ _ _ _ us hl => match us, hl with | [_, _], _ => rfl) (fun f cdv A outer s H E hr ai => ?_)
  exact (dss_one (ds_ret (de_callTy call_tupF cbd_tuple (by rfl) T.b_tuple (by decide +kernel) (da_cons (de_fn C_keys_in hr ai.pass (da_cons (de_var 0) (da_cons (de_var 1) da_nil))) da_nil))))
theorem sc_distance : FnScope ["way", "key", "slot", "size", "start"] ["way", "key", "slot", "size"] (defScope s_distance) := ⟨rfl, rfl, rfl, by decide +kernel, rfl, by decide +kernel, by decide +kernel⟩
theorem cal_distance (T : Tx w K mg base) : Cal (obT P w mg) P w K mg base "distance" 2 ["way", "key", "slot", "size"] m_distance := by
  have C_home_of := cal_home_of (P := P) (w := w) (base := base) T
  refine cal_of (k := 1) T.f_distance sc_distance (fun _ _ _ _ _ _ us hl => match us, hl with | [_, _, _, _], _ => rfl) (fun f cdv A outer s H E hr ai => ?_)
  exact (dss_cons (ds_set 4 sc_distance.nd (de_fn C_home_of hr ai.pass (da_cons (de_var 0) (da_cons (de_var 1) (da_cons (de_var 3) da_nil)))))
      (dss_one (ds_ret (de_if (dt_cmp (op_eqD hr.units) opd_eq (de_idx (de_var 0) de_int (fun _ _ => rfl)) de_str (nomark _)) (de_op op_mod opd_mod (de_op op_sub opd_sub (de_var 2) (de_var 4)) (de_var 3)) (de_op op_mod opd_mod (de_op op_sub opd_sub (de_var 4) (de_var 2)) (de_var 3))))))
theorem sc_used_in : FnScope ["way", "table", "thing"] ["way", "table"] (defScope s_used_in) := ⟨rfl, rfl, rfl, by decide +kernel, rfl, by decide +kernel, by decide +kernel⟩
theorem cal_used_in (T : Tx w K mg base) : Cal (obT P w mg) P w K mg base "used_in" 2 ["way", "table"] m_used_in := by
  have C_keys_in := cal_keys_in (P := P) (w := w) (base := base) T
  refine cal_of (k := 1) T.f_used_in sc_used_in (fun _ _ _ _ _ _ us hl => match us, hl with | [_, _], _ => rfl) (fun f cdv A outer s H E hr ai => ?_)
  exact (dss_cons (ds_if (dt_cmp (op_eqD hr.units) opd_eq (de_idx (de_var 0) de_int (fun _ _ => rfl)) de_str (nomark _)) (dss_one (ds_ret (de_callB call_len cbd_len (by rfl) T.b_len (by decide +kernel) (da_cons (de_fn C_keys_in hr ai.pass (da_cons (de_var 0) (da_cons (de_var 1) da_nil))) da_nil)))) dss_nil)
      (dss_one (ds_ret (de_callB call_len cbd_len (by rfl) T.b_len (by decide +kernel) (da_cons (DF.de (DLc.df (lc1 (own := [("thing", 2)]) rfl sc_used_in.nd (di_seq (de_var 1)) (blkOk_by (by kernel_rfl)) (fun _ _ _ _ _ => (dg_name 2 sc_used_in.nd)) (fun _ _ _ _ _ => (dts_one (dt_cmp (op_neD hr.units) opd_ne (de_var 2) (de_globI (by rfl) T.c_EMPTY) (nomark _)))) (fun _ _ _ _ _ => (de_var 2)) (by decide)))) da_nil)))))
theorem sc__law_way : FnScope ["script", "town", "home_word", "step", "line", "come", "gone"] ["script", "town"] (defScope s__law_way) := ⟨rfl, rfl, rfl, by decide +kernel, rfl, by decide +kernel, by decide +kernel⟩
theorem cal__law_way (T : Tx w K mg base) : Cal (obT P w mg) P w K mg base "_law_way" 2 ["script", "town"] m__law_way := by
  have C__law_draw := cal__law_draw (P := P) (w := w) (base := base) T
  refine cal_of (k := 1) T.f__law_way sc__law_way (fun _ _ _ _ _ _ us hl => match us, hl with | [_, _], _ => rfl) (fun f cdv A outer s H E hr ai => ?_)
  exact (dss_cons (ds_set 2 sc__law_way.nd (de_idx (de_tup (da_cons de_str (da_cons de_str da_nil))) (de_op op_fdiv opd_fdiv (de_fn C__law_draw hr ai.pass (da_cons (de_var 0) (da_cons (de_var 1) (da_cons de_int da_nil)))) de_int) (fun _ _ => rfl)))
      (dss_cons (ds_if (dt_cmp (op_eqD hr.units) opd_eq (de_fn C__law_draw hr ai.pass (da_cons (de_var 0) (da_cons (de_var 1) (da_cons de_int da_nil)))) de_int (nomark _)) (dss_cons (ds_set 5 sc__law_way.nd (de_idx (de_tup (da_cons de_str (da_cons de_str da_nil))) (de_fn C__law_draw hr ai.pass (da_cons (de_var 0) (da_cons (de_var 1) (da_cons de_int da_nil)))) (fun _ _ => rfl)))
      (dss_one (ds_ret (de_tup (da_cons de_str (da_cons (de_var 2) (da_cons (de_var 5) (da_cons (de_idx (de_tup (da_cons de_str (da_cons de_str da_nil))) (de_fn C__law_draw hr ai.pass (da_cons (de_var 0) (da_cons (de_var 1) (da_cons de_int da_nil)))) (fun _ _ => rfl)) da_nil)))))))) dss_nil)
      (dss_cons (ds_set 3 sc__law_way.nd (de_idx (de_tup (da_cons de_str (da_cons de_str (da_cons de_str (da_cons de_str (da_cons de_str da_nil)))))) (de_fn C__law_draw hr ai.pass (da_cons (de_var 0) (da_cons (de_var 1) (da_cons de_int da_nil)))) (fun _ _ => rfl)))
      (dss_cons (ds_set 4 sc__law_way.nd (de_cmp (op_inA (u65 hr)) opd_in (de_var 3) (de_tup (da_cons de_str (da_cons de_str da_nil))) rfl))
      (dss_cons (ds_set 5 sc__law_way.nd (de_idx (de_tup (da_cons de_str (da_cons de_str (da_cons de_str (da_cons de_str da_nil))))) (de_fn C__law_draw hr ai.pass (da_cons (de_var 0) (da_cons (de_var 1) (da_cons (de_if (dt_tru (de_var 4)) de_int de_int) da_nil)))) (fun _ _ => rfl)))
      (dss_cons (ds_set 6 sc__law_way.nd (de_idx (de_tup (da_cons de_str (da_cons de_str (da_cons de_str (da_cons de_str da_nil))))) (de_fn C__law_draw hr ai.pass (da_cons (de_var 0) (da_cons (de_var 1) (da_cons (de_if (dt_tru (de_var 4)) de_int de_int) da_nil)))) (fun _ _ => rfl)))
      (dss_one (ds_ret (de_tup (da_cons de_str (da_cons (de_var 2) (da_cons (de_var 3) (da_cons (de_var 5) (da_cons (de_var 6) (da_cons (de_idx (de_tup (da_cons de_str (da_cons de_str (da_cons de_str da_nil)))) (de_fn C__law_draw hr ai.pass (da_cons (de_var 0) (da_cons (de_var 1) (da_cons de_int da_nil)))) (fun _ _ => rfl)) da_nil)))))))))))))))
theorem sc_is_way : FnScope ["value"] ["value"] (defScope s_is_way) := ⟨rfl, rfl, rfl, by decide +kernel, rfl, by decide +kernel, by decide +kernel⟩
theorem cal_is_way (T : Tx w K mg base) : Cal (obT P w mg) P w K mg base "is_way" 3 ["value"] m_is_way := by
  have C_is_slot_way := cal_is_slot_way (P := P) (w := w) (base := base) T
  have C_is_word := cal_is_word (P := P) (w := w) (base := base) T
  refine cal_of (k := 2) T.f_is_way sc_is_way (fun _ _ _ _ _ _ us hl => match us, hl with | [_], _ => rfl) (fun f cdv A outer s H E hr ai => ?_)
  exact (dss_cons (ds_if (DW.dt (dw_or (dt_not (dt_val (de_isi (x := "x") (T := "tuple") (n := "tuple") (de_var 0) (by rfl) T.b_isinstance (by rfl) T.b_tuple (by decide +kernel)))) (dw_or (dt_cmp (op_eqD hr.units) opd_eq (de_var 0) (de_tup da_nil) (nomark _)) (dw_or1 (dt_not (dt_val (de_fn C_is_word hr ai.pass (da_cons (de_idx (de_var 0) de_int (fun _ _ => rfl)) (da_cons (de_tup (da_cons de_str (da_cons de_str da_nil))) da_nil))))))))) (dss_one (ds_ret de_bl)) dss_nil)
      (dss_cons (ds_if (dt_cmp (op_eqD hr.units) opd_eq (de_idx (de_var 0) de_int (fun _ _ => rfl)) de_str (nomark _)) (dss_one (ds_ret (de_fn C_is_slot_way hr ai.pass (da_cons (de_var 0) da_nil)))) dss_nil)
      (dss_cons (ds_if (DW.dt (dw_or (dt_cmp (op_neD hr.units) opd_ne (de_callB call_len cbd_len (by rfl) T.b_len (by decide +kernel) (da_cons (de_var 0) da_nil)) de_int (nomark _)) (dw_or1 (dt_not (dt_val (de_fn C_is_word hr ai.pass (da_cons (de_idx (de_var 0) de_int (fun _ _ => rfl)) (da_cons (de_globE (by rfl) T.c_HOMES) da_nil)))))))) (dss_one (ds_ret de_bl)) dss_nil)
      (dss_one (ds_ret (de_and (de_fn C_is_word hr ai.pass (da_cons (de_idx (de_var 0) de_int (fun _ _ => rfl)) (da_cons (de_tup (da_cons de_str (da_cons de_str da_nil))) da_nil))) (de_one (de_fn C_is_word hr ai.pass (da_cons (de_idx (de_var 0) de_int (fun _ _ => rfl)) (da_cons (de_tup (da_cons de_str (da_cons de_str da_nil))) da_nil))))))))))
theorem sc_is_deed : FnScope ["value"] ["value"] (defScope s_is_deed) := ⟨rfl, rfl, rfl, by decide +kernel, rfl, by decide +kernel, by decide +kernel⟩
theorem cal_is_deed (T : Tx w K mg base) : Cal (obT P w mg) P w K mg base "is_deed" 3 ["value"] m_is_deed := by
  have C_is_key := cal_is_key (P := P) (w := w) (base := base) T
  have C_is_word := cal_is_word (P := P) (w := w) (base := base) T
  refine cal_of (k := 2) T.f_is_deed sc_is_deed (fun _ _ _ _ _ _ us hl => match us, hl with | [_], _ => rfl) (fun f cdv A outer s H E hr ai => ?_)
  exact (dss_one (ds_ret (de_and (de_isi (x := "x") (T := "tuple") (n := "tuple") (de_var 0) (by rfl) T.b_isinstance (by rfl) T.b_tuple (by decide +kernel)) (de_and (de_cmp (op_eqD hr.units) opd_eq (de_callB call_len cbd_len (by rfl) T.b_len (by decide +kernel) (da_cons (de_var 0) da_nil)) de_int (nomark _)) (de_and (de_fn C_is_word hr ai.pass (da_cons (de_idx (de_var 0) de_int (fun _ _ => rfl)) (da_cons (de_globE (by rfl) T.c_KINDS) da_nil))) (de_one (de_fn C_is_key hr ai.pass (da_cons (de_idx (de_var 0) de_int (fun _ _ => rfl)) da_nil))))))))
theorem sc_found_at : FnScope ["way", "table", "key", "looks", "slot", "row"] ["way", "table", "key"] (defScope s_found_at) := ⟨rfl, rfl, rfl, by decide +kernel, rfl, by decide +kernel, by decide +kernel⟩
theorem cal_found_at (T : Tx w K mg base) : Cal (obT P w mg) P w K mg base "found_at" 3 ["way", "table", "key"] m_found_at := by
  have C_home_of := cal_home_of (P := P) (w := w) (base := base) T
  have C_walk_of := cal_walk_of (P := P) (w := w) (base := base) T
  refine cal_of (k := 2) T.f_found_at sc_found_at (fun _ _ _ _ _ _ us hl => match us, hl with | [_, _, _], _ => rfl) (fun f cdv A outer s H E hr ai => ?_)
  exact (dss_cons (ds_if (dt_cmp (op_eqD hr.units) opd_eq (de_idx (de_var 0) de_int (fun _ _ => rfl)) de_str (nomark _)) (dss_cons (ds_set 5 sc_found_at.nd (de_idx (de_var 1) (de_fn C_home_of hr ai.pass (da_cons (de_var 0) (da_cons (de_var 2) (da_cons (de_callB call_len cbd_len (by rfl) T.b_len (by decide +kernel) (da_cons (de_var 1) da_nil)) da_nil)))) (fun _ _ => rfl)))
      (dss_cons (ds_if (dt_cmp (op_inA (u65 hr)) opd_in (de_var 2) (de_var 5) rfl) (dss_one (ds_ret (de_tup (da_cons (de_fn C_home_of hr ai.pass (da_cons (de_var 0) (da_cons (de_var 2) (da_cons (de_callB call_len cbd_len (by rfl) T.b_len (by decide +kernel) (da_cons (de_var 1) da_nil)) da_nil)))) (da_cons (de_op op_addD opd_add (de_index (u65 hr) (de_var 5) (de_var 2)) de_int) da_nil))))) dss_nil)
      (dss_one (ds_ret (de_tup (da_cons de_non (da_cons (de_callB call_len cbd_len (by rfl) T.b_len (by decide +kernel) (da_cons (de_var 5) da_nil)) da_nil))))))) dss_nil)
      (dss_cons (ds_set 3 sc_found_at.nd de_int)
      (dss_cons (ds_for ai.own rfl (di_seq (de_fn C_walk_of hr ai.pass (da_cons (de_var 0) (da_cons (de_var 2) (da_cons (de_callB call_len cbd_len (by rfl) T.b_len (by decide +kernel) (da_cons (de_var 1) da_nil)) da_nil))))) (dg_name 4 sc_found_at.nd) (dss_cons (ds_aug 3 sc_found_at.nd de_int ip_add)
      (dss_cons (ds_if (dt_cmp (op_eqD hr.units) opd_eq (de_idx (de_var 1) (de_var 4) (fun _ _ => rfl)) (de_globI (by rfl) T.c_EMPTY) (nomark _)) (dss_one (ds_ret (de_tup (da_cons de_non (da_cons (de_var 3) da_nil))))) dss_nil)
      (dss_one (ds_if (dt_cmp (op_eqD hr.units) opd_eq (de_idx (de_var 1) (de_var 4) (fun _ _ => rfl)) (de_var 2) (nomark _)) (dss_one (ds_ret (de_tup (da_cons (de_var 4) (da_cons (de_var 3) da_nil))))) dss_nil)))))
      (dss_one (ds_ret (de_tup (da_cons de_non (da_cons (de_var 3) da_nil))))))))
theorem sc_placed : FnScope ["way", "table", "key", "size", "slot", "row", "free", "mover", "here"] ["way", "table", "key"] (defScope s_placed) := ⟨rfl, rfl, rfl, by decide +kernel, rfl, by decide +kernel, by decide +kernel⟩
theorem cal_placed (T : Tx w K mg base) : Cal (obT P w mg) P w K mg base "placed" 3 ["way", "table", "key"] m_placed := by
  have C_distance := cal_distance (P := P) (w := w) (base := base) T
  have C_home_of := cal_home_of (P := P) (w := w) (base := base) T
  have C_walk_of := cal_walk_of (P := P) (w := w) (base := base) T
  have C_with_slot := cal_with_slot (P := P) (w := w) (base := base) T
  refine cal_of (k := 2) T.f_placed sc_placed (fun _ _ _ _ _ _ us hl => match us, hl with | [_, _, _], _ => rfl) (fun f cdv A outer s H E hr ai => ?_)
  exact (dss_cons (ds_set 3 sc_placed.nd (de_callB call_len cbd_len (by rfl) T.b_len (by decide +kernel) (da_cons (de_var 1) da_nil)))
      (dss_cons (ds_if (dt_cmp (op_eqD hr.units) opd_eq (de_idx (de_var 0) de_int (fun _ _ => rfl)) de_str (nomark _)) (dss_cons (ds_set 4 sc_placed.nd (de_fn C_home_of hr ai.pass (da_cons (de_var 0) (da_cons (de_var 2) (da_cons (de_var 3) da_nil)))))
      (dss_cons (ds_set 5 sc_placed.nd (de_idx (de_var 1) (de_var 4) (fun _ _ => rfl)))
      (dss_one (ds_ret (de_fn C_with_slot hr ai.pass (da_cons (de_var 1) (da_cons (de_var 4) (da_cons (de_if (dt_cmp (op_eqD hr.units) opd_eq (de_idx (de_var 0) de_int (fun _ _ => rfl)) de_str (nomark _)) (de_op op_addD opd_add (de_tup (da_cons (de_var 2) da_nil)) (de_var 5)) (de_op op_addD opd_add (de_var 5) (de_tup (da_cons (de_var 2) da_nil)))) da_nil)))))))) dss_nil)
      (dss_cons (ds_if (dt_cmp (op_inA (u65 hr)) opd_in (de_idx (de_var 0) de_int (fun _ _ => rfl)) (de_tup (da_cons de_str (da_cons de_str da_nil))) rfl) (dss_cons (ds_set 6 sc_placed.nd (de_if (dt_cmp (op_eqD hr.units) opd_eq (de_idx (de_var 0) de_int (fun _ _ => rfl)) de_str (nomark _)) (de_tup (da_cons (de_globI (by rfl) T.c_EMPTY) (da_cons (de_globI (by rfl) T.c_GONE) da_nil))) (de_tup (da_cons (de_globI (by rfl) T.c_EMPTY) da_nil))))
      (dss_one (ds_ret (de_fn C_with_slot hr ai.pass (da_cons (de_var 1) (da_cons (de_idx (DF.de (DLc.df (lc1 (own := [("slot", 4)]) rfl sc_placed.nd (di_seq (de_fn C_walk_of hr ai.pass (da_cons (de_var 0) (da_cons (de_var 2) (da_cons (de_var 3) da_nil))))) (blkOk_by (by kernel_rfl)) (fun _ _ _ _ _ => (dg_name 4 sc_placed.nd)) (fun _ _ _ _ _ => (dts_one (dt_cmp (op_inA (u65 hr)) opd_in (de_idx (de_var 1) (de_var 4) (fun _ _ => rfl)) (de_var 6) rfl))) (fun _ _ _ _ _ => (de_var 4)) (by decide)))) de_int (fun _ _ => rfl)) (da_cons (de_var 2) da_nil))))))) dss_nil)
      (dss_cons (ds_par (i := 4) (j := 7) rfl sc_placed.nd (da_cons (de_fn C_home_of hr ai.pass (da_cons (de_var 0) (da_cons (de_var 2) (da_cons (de_var 3) da_nil)))) (da_cons (de_var 2) da_nil)) (by rfl))
      (dss_cons (ds_while ai.own (dt_cmp op_ge opd_ge (de_idx (de_var 1) (de_var 4) (fun _ _ => rfl)) de_int (nomark _)) (dss_cons (ds_set 8 sc_placed.nd (de_idx (de_var 1) (de_var 4) (fun _ _ => rfl)))
      (dss_cons (ds_if (DW.dt (dw_or (dt_cmp (op_eqD hr.units) opd_eq (de_idx (de_var 0) de_int (fun _ _ => rfl)) de_str (nomark _)) (dw_or1 (dt_cmp op_lt opd_lt (de_fn C_distance hr ai.pass (da_cons (de_var 0) (da_cons (de_var 8) (da_cons (de_var 4) (da_cons (de_var 3) da_nil))))) (de_fn C_distance hr ai.pass (da_cons (de_var 0) (da_cons (de_var 7) (da_cons (de_var 4) (da_cons (de_var 3) da_nil))))) (nomark _))))) (dss_one (ds_tgt (de_tup (da_cons (de_fn C_with_slot hr ai.pass (da_cons (de_var 1) (da_cons (de_var 4) (da_cons (de_var 7) da_nil)))) (da_cons (de_var 8) da_nil))) (dg_tup rfl (dgs_cons (dg_name 1 sc_placed.nd) (dgs_cons (dg_name 7 sc_placed.nd) dgs_nil))))) dss_nil)
      (dss_one (ds_set 4 sc_placed.nd (de_if (dt_cmp (op_eqD hr.units) opd_eq (de_idx (de_var 0) de_int (fun _ _ => rfl)) de_str (nomark _)) (de_op op_mod opd_mod (de_op op_addD opd_add (de_var 4) de_int) (de_var 3)) (de_op op_mod opd_mod (de_op op_sub opd_sub (de_var 4) de_int) (de_var 3))))))))
      (dss_one (ds_ret (de_fn C_with_slot hr ai.pass (da_cons (de_var 1) (da_cons (de_var 4) (da_cons (de_var 7) da_nil)))))))))))
theorem sc_pulled : FnScope ["way", "table", "slot", "size", "at", "key"] ["way", "table", "slot"] (defScope s_pulled) := ⟨rfl, rfl, rfl, by decide +kernel, rfl, by decide +kernel, by decide +kernel⟩
theorem cal_pulled (T : Tx w K mg base) : Cal (obT P w mg) P w K mg base "pulled" 3 ["way", "table", "slot"] m_pulled := by
  have C_distance := cal_distance (P := P) (w := w) (base := base) T
  have C_with_slot := cal_with_slot (P := P) (w := w) (base := base) T
  refine cal_of (k := 2) T.f_pulled sc_pulled (fun _ _ _ _ _ _ us hl => match us, hl with | [_, _, _], _ => rfl) (fun f cdv A outer s H E hr ai => ?_)
  exact (dss_cons (ds_set 3 sc_pulled.nd (de_callB call_len cbd_len (by rfl) T.b_len (by decide +kernel) (da_cons (de_var 1) da_nil)))
      (dss_cons (ds_par (i := 1) (j := 4) rfl sc_pulled.nd (da_cons (de_fn C_with_slot hr ai.pass (da_cons (de_var 1) (da_cons (de_var 2) (da_cons (de_globI (by rfl) T.c_EMPTY) da_nil)))) (da_cons (de_var 2) da_nil)) (by rfl))
      (dss_one (ds_while ai.own (dt_val de_bl) (dss_cons (ds_set 4 sc_pulled.nd (de_if (dt_cmp (op_eqD hr.units) opd_eq (de_idx (de_var 0) de_int (fun _ _ => rfl)) de_str (nomark _)) (de_op op_mod opd_mod (de_op op_addD opd_add (de_var 4) de_int) (de_var 3)) (de_op op_mod opd_mod (de_op op_sub opd_sub (de_var 4) de_int) (de_var 3))))
      (dss_cons (ds_if (dt_cmp (op_eqD hr.units) opd_eq (de_idx (de_var 1) (de_var 4) (fun _ _ => rfl)) (de_globI (by rfl) T.c_EMPTY) (nomark _)) (dss_one (ds_ret (de_var 1))) dss_nil)
      (dss_cons (ds_set 5 sc_pulled.nd (de_idx (de_var 1) (de_var 4) (fun _ _ => rfl)))
      (dss_one (ds_if (dt_cmp op_le opd_le (de_fn C_distance hr ai.pass (da_cons (de_var 0) (da_cons (de_var 5) (da_cons (de_var 2) (da_cons (de_var 3) da_nil))))) (de_fn C_distance hr ai.pass (da_cons (de_var 0) (da_cons (de_var 5) (da_cons (de_var 4) (da_cons (de_var 3) da_nil))))) (nomark _)) (dss_cons (ds_set 1 sc_pulled.nd (de_fn C_with_slot hr ai.pass (da_cons (de_fn C_with_slot hr ai.pass (da_cons (de_var 1) (da_cons (de_var 2) (da_cons (de_var 5) da_nil)))) (da_cons (de_var 4) (da_cons (de_globI (by rfl) T.c_EMPTY) da_nil)))))
      (dss_one (ds_set 2 sc_pulled.nd (de_var 4)))) dss_nil)))))))))
theorem sc_seen_of : FnScope ["way", "table", "looks", "sight"] ["way", "table", "looks", "sight"] (defScope s_seen_of) := ⟨rfl, rfl, rfl, by decide +kernel, rfl, by decide +kernel, by decide +kernel⟩
theorem cal_seen_of (T : Tx w K mg base) : Cal (obT P w mg) P w K mg base "seen_of" 3 ["way", "table", "looks", "sight"] m_seen_of := by
  have C_order_in := cal_order_in (P := P) (w := w) (base := base) T
  refine cal_of (k := 2) T.f_seen_of sc_seen_of (fun _ _ _ _ _ _ us hl => match us, hl with | [_, _, _, _], _ => rfl) (fun f cdv A outer s H E hr ai => ?_)
  exact (dss_cons (ds_if (dt_cmp (op_eqD hr.units) opd_eq (de_var 3) de_str (nomark _)) (dss_one (ds_ret (de_var 2))) dss_nil)
      (dss_one (ds_ret (de_if (dt_cmp (op_eqD hr.units) opd_eq (de_var 3) de_str (nomark _)) (de_fn C_order_in hr ai.pass (da_cons (de_var 0) (da_cons (de_var 1) da_nil))) (de_tup (da_cons (de_var 2) (da_cons (de_fn C_order_in hr ai.pass (da_cons (de_var 0) (da_cons (de_var 1) da_nil))) da_nil)))))))
theorem sc_is_order : FnScope ["value", "one"] ["value"] (defScope s_is_order) := ⟨rfl, rfl, rfl, by decide +kernel, rfl, by decide +kernel, by decide +kernel⟩
theorem cal_is_order (T : Tx w K mg base) : Cal (obT P w mg) P w K mg base "is_order" 3 ["value"] m_is_order := by
  have C_is_key := cal_is_key (P := P) (w := w) (base := base) T
  refine cal_of (k := 2) T.f_is_order sc_is_order (fun _ _ _ _ _ _ us hl => match us, hl with | [_], _ => rfl) (fun f cdv A outer s H E hr ai => ?_)
  exact (dss_one (ds_ret (de_and (de_isi (x := "x") (T := "tuple") (n := "tuple") (de_var 0) (by rfl) T.b_isinstance (by rfl) T.b_tuple (by decide +kernel)) (de_and (de_cmp op_le opd_le (de_callB call_len cbd_len (by rfl) T.b_len (by decide +kernel) (da_cons (de_var 0) da_nil)) de_int (nomark _)) (de_one (de_callB (cr_all rfl) cbd_all (by rfl) T.b_all (by decide +kernel) (da_cons (DF.de (DLc.df (lc1 (own := [("one", 1)]) rfl sc_is_order.nd (di_seq (de_var 0)) (blkOk_by (by kernel_rfl)) (fun _ _ _ _ _ => (dg_name 1 sc_is_order.nd)) (fun _ _ _ _ _ => dts_nil) (fun _ _ _ _ _ => (de_fn C_is_key hr passL (da_cons (de_var 1) da_nil))) (by decide)))) da_nil)))))))
theorem sc_desk_order : FnScope ["self"] ["self"] (defScope s_desk_order) := ⟨rfl, rfl, rfl, by decide +kernel, rfl, by decide +kernel, by decide +kernel⟩
theorem cal_desk_order (T : Tx w K mg base) : CalO (obT P w mg) P w K mg base "Desk" "order" 3 ["self"] m_desk_order := by
  have C_order_in := cal_order_in (P := P) (w := w) (base := base) T
  refine calO_of (k := 2) T.f_desk_order sc_desk_order (fun _ _ _ _ _ _ us hl => match us, hl with | [_], _ => rfl) (fun f cdv A outer s H E hr ai => ?_)
  exact (dss_one (ds_ret (de_fn C_order_in hr ai.pass (da_cons (de_fldO (f := "way") T.oc_Desk (de_var 0)) (da_cons (de_idx (de_fldO (f := "tables") T.oc_Desk (de_var 0)) (de_neg de_int) (fun _ _ => rfl)) da_nil)))))
theorem sc_check_way : FnScope ["way"] ["way"] (defScope s_check_way) := ⟨rfl, rfl, rfl, by decide +kernel, rfl, by decide +kernel, by decide +kernel⟩
theorem cal_check_way (T : Tx w K mg base) : Cal (obT P w mg) P w K mg base "check_way" 4 ["way"] m_check_way := by
  have C_is_way := cal_is_way (P := P) (w := w) (base := base) T
  refine cal_of (k := 3) T.f_check_way sc_check_way (fun _ _ _ _ _ _ us hl => match us, hl with | [_], _ => rfl) (fun f cdv A outer s H E hr ai => ?_)
  exact (dss_one (ds_if (dt_not (dt_val (de_fn C_is_way hr ai.pass (da_cons (de_var 0) da_nil)))) (dss_one (ds_raise ai T.x_InvalidWay)) dss_nil))
theorem sc_check_ways : FnScope ["ways", "most", "way"] ["ways", "most"] (defScope s_check_ways) := ⟨rfl, rfl, rfl, by decide +kernel, rfl, by decide +kernel, by decide +kernel⟩
theorem cal_check_ways (T : Tx w K mg base) : Cal (obT P w mg) P w K mg base "check_ways" 4 ["ways", "most"] m_check_ways := by
  have C_is_way := cal_is_way (P := P) (w := w) (base := base) T
  refine cal_of (k := 3) T.f_check_ways sc_check_ways (fun _ _ _ _ _ _ us hl => match us, hl with | [_, _], _ => rfl) (fun f cdv A outer s H E hr ai => ?_)
  exact (dss_one (ds_if (DW.dt (dw_or (dt_not (dt_val (de_isi (x := "x") (T := "tuple") (n := "tuple") (de_var 0) (by rfl) T.b_isinstance (by rfl) T.b_tuple (by decide +kernel)))) (dw_or (dt_not (dt_chain op_le op_le opd_le opd_le de_int (de_callB call_len cbd_len (by rfl) T.b_len (by decide +kernel) (da_cons (de_var 0) da_nil)) (de_var 1))) (dw_or1 (dt_not (dt_val (de_callB (cr_all rfl) cbd_all (by rfl) T.b_all (by decide +kernel) (da_cons (DF.de (DLc.df (lc1 (own := [("way", 2)]) rfl sc_check_ways.nd (di_seq (de_var 0)) (blkOk_by (by kernel_rfl)) (fun _ _ _ _ _ => (dg_name 2 sc_check_ways.nd)) (fun _ _ _ _ _ => dts_nil) (fun _ _ _ _ _ => (de_fn C_is_way hr passL (da_cons (de_var 2) da_nil))) (by decide)))) da_nil)))))))) (dss_one (ds_raise ai T.x_InvalidWays)) dss_nil))
theorem sc_is_row : FnScope ["value", "one"] ["value"] (defScope s_is_row) := ⟨rfl, rfl, rfl, by decide +kernel, rfl, by decide +kernel, by decide +kernel⟩
theorem cal_is_row (T : Tx w K mg base) : Cal (obT P w mg) P w K mg base "is_row" 4 ["value"] m_is_row := by
  have C_is_deed := cal_is_deed (P := P) (w := w) (base := base) T
  refine cal_of (k := 3) T.f_is_row sc_is_row (fun _ _ _ _ _ _ us hl => match us, hl with | [_], _ => rfl) (fun f cdv A outer s H E hr ai => ?_)
  exact (dss_one (ds_ret (de_and (de_isi (x := "x") (T := "tuple") (n := "tuple") (de_var 0) (by rfl) T.b_isinstance (by rfl) T.b_tuple (by decide +kernel)) (de_and (de_cmp op_le opd_le (de_callB call_len cbd_len (by rfl) T.b_len (by decide +kernel) (da_cons (de_var 0) da_nil)) de_int (nomark _)) (de_one (de_callB (cr_all rfl) cbd_all (by rfl) T.b_all (by decide +kernel) (da_cons (DF.de (DLc.df (lc1 (own := [("one", 1)]) rfl sc_is_row.nd (di_seq (de_var 0)) (blkOk_by (by kernel_rfl)) (fun _ _ _ _ _ => (dg_name 1 sc_is_row.nd)) (fun _ _ _ _ _ => dts_nil) (fun _ _ _ _ _ => (de_fn C_is_deed hr passL (da_cons (de_var 1) da_nil))) (by decide)))) da_nil)))))))
theorem sc_check_deed : FnScope ["deed"] ["deed"] (defScope s_check_deed) := ⟨rfl, rfl, rfl, by decide +kernel, rfl, by decide +kernel, by decide +kernel⟩
theorem cal_check_deed (T : Tx w K mg base) : Cal (obT P w mg) P w K mg base "check_deed" 4 ["deed"] m_check_deed := by
  have C_is_deed := cal_is_deed (P := P) (w := w) (base := base) T
  refine cal_of (k := 3) T.f_check_deed sc_check_deed (fun _ _ _ _ _ _ us hl => match us, hl with | [_], _ => rfl) (fun f cdv A outer s H E hr ai => ?_)
  exact (dss_one (ds_if (dt_not (dt_val (de_fn C_is_deed hr ai.pass (da_cons (de_var 0) da_nil)))) (dss_one (ds_raise ai T.x_InvalidDeed)) dss_nil))
theorem sc_laid_anew : FnScope ["way", "table", "size", "made", "key"] ["way", "table", "size"] (defScope s_laid_anew) := ⟨rfl, rfl, rfl, by decide +kernel, rfl, by decide +kernel, by decide +kernel⟩
theorem cal_laid_anew (T : Tx w K mg base) : Cal (obT P w mg) P w K mg base "laid_anew" 4 ["way", "table", "size"] m_laid_anew := by
  have C_begun := cal_begun (P := P) (w := w) (base := base) T
  have C_each_once := cal_each_once (P := P) (w := w) (base := base) T
  have C_keys_in := cal_keys_in (P := P) (w := w) (base := base) T
  have C_placed := cal_placed (P := P) (w := w) (base := base) T
  refine cal_of (k := 3) T.f_laid_anew sc_laid_anew (fun _ _ _ _ _ _ us hl => match us, hl with | [_, _, _], _ => rfl) (fun f cdv A outer s H E hr ai => ?_)
  exact (dss_cons (ds_set 3 sc_laid_anew.nd (de_fn C_begun hr ai.pass (da_cons (de_var 0) (da_cons (de_var 2) da_nil))))
      (dss_cons (ds_for ai.own rfl (di_seq (de_fn C_each_once hr ai.pass (da_cons (de_fn C_keys_in hr ai.pass (da_cons (de_var 0) (da_cons (de_var 1) da_nil))) da_nil))) (dg_name 4 sc_laid_anew.nd) (dss_one (ds_set 3 sc_laid_anew.nd (de_fn C_placed hr ai.pass (da_cons (de_var 0) (da_cons (de_var 3) (da_cons (de_var 4) da_nil)))))))
      (dss_one (ds_ret (de_var 3)))))
theorem sc_is_sight_of : FnScope ["value", "sight"] ["value", "sight"] (defScope s_is_sight_of) := ⟨rfl, rfl, rfl, by decide +kernel, rfl, by decide +kernel, by decide +kernel⟩
theorem cal_is_sight_of (T : Tx w K mg base) : Cal (obT P w mg) P w K mg base "is_sight_of" 4 ["value", "sight"] m_is_sight_of := by
  have C_is_between := cal_is_between (P := P) (w := w) (base := base) T
  have C_is_order := cal_is_order (P := P) (w := w) (base := base) T
  refine cal_of (k := 3) T.f_is_sight_of sc_is_sight_of (fun _ _ _ _ _ _ us hl => match us, hl with | [_, _], _ => rfl) (fun f cdv A outer s H E hr ai => ?_)
  exact (dss_cons (ds_if (dt_cmp (op_eqD hr.units) opd_eq (de_var 1) de_str (nomark _)) (dss_one (ds_ret (de_fn C_is_between hr ai.pass (da_cons (de_var 0) (da_cons de_int (da_cons de_int da_nil)))))) dss_nil)
      (dss_cons (ds_if (dt_cmp (op_eqD hr.units) opd_eq (de_var 1) de_str (nomark _)) (dss_one (ds_ret (de_fn C_is_order hr ai.pass (da_cons (de_var 0) da_nil)))) dss_nil)
      (dss_one (ds_ret (de_and (de_isi (x := "x") (T := "tuple") (n := "tuple") (de_var 0) (by rfl) T.b_isinstance (by rfl) T.b_tuple (by decide +kernel)) (de_and (de_cmp (op_eqD hr.units) opd_eq (de_callB call_len cbd_len (by rfl) T.b_len (by decide +kernel) (da_cons (de_var 0) da_nil)) de_int (nomark _)) (de_and (de_fn C_is_between hr ai.pass (da_cons (de_idx (de_var 0) de_int (fun _ _ => rfl)) (da_cons de_int (da_cons de_int da_nil)))) (de_one (de_fn C_is_order hr ai.pass (da_cons (de_idx (de_var 0) de_int (fun _ _ => rfl)) da_nil))))))))))
theorem sc_check_row : FnScope ["row"] ["row"] (defScope s_check_row) := ⟨rfl, rfl, rfl, by decide +kernel, rfl, by decide +kernel, by decide +kernel⟩
theorem cal_check_row (T : Tx w K mg base) : Cal (obT P w mg) P w K mg base "check_row" 5 ["row"] m_check_row := by
  have C_is_row := cal_is_row (P := P) (w := w) (base := base) T
  refine cal_of (k := 4) T.f_check_row sc_check_row (fun _ _ _ _ _ _ us hl => match us, hl with | [_], _ => rfl) (fun f cdv A outer s H E hr ai => ?_)
  exact (dss_one (ds_if (dt_not (dt_val (de_fn C_is_row hr ai.pass (da_cons (de_var 0) da_nil)))) (dss_one (ds_raise ai T.x_InvalidRow)) dss_nil))
theorem sc_grown : FnScope ["way", "table", "size"] ["way", "table"] (defScope s_grown) := ⟨rfl, rfl, rfl, by decide +kernel, rfl, by decide +kernel, by decide +kernel⟩
theorem cal_grown (T : Tx w K mg base) : Cal (obT P w mg) P w K mg base "grown" 5 ["way", "table"] m_grown := by
  have C_bound_of := cal_bound_of (P := P) (w := w) (base := base) T
  have C_each_once := cal_each_once (P := P) (w := w) (base := base) T
  have C_keys_in := cal_keys_in (P := P) (w := w) (base := base) T
  have C_laid_anew := cal_laid_anew (P := P) (w := w) (base := base) T
  have C_used_in := cal_used_in (P := P) (w := w) (base := base) T
  refine cal_of (k := 4) T.f_grown sc_grown (fun _ _ _ _ _ _ us hl => match us, hl with | [_, _], _ => rfl) (fun f cdv A outer s H E hr ai => ?_)
  exact (dss_cons (ds_set 2 sc_grown.nd (de_callB call_len cbd_len (by rfl) T.b_len (by decide +kernel) (da_cons (de_var 1) da_nil)))
      (dss_cons (ds_if (dt_cmp op_le opd_le (de_op op_addD opd_add (de_fn C_used_in hr ai.pass (da_cons (de_var 0) (da_cons (de_var 1) da_nil))) de_int) (de_fn C_bound_of hr ai.pass (da_cons (de_var 0) (da_cons (de_var 2) da_nil))) (nomark _)) (dss_one (ds_ret (de_var 1))) dss_nil)
      (dss_cons (ds_if (DW.dt (dw_and (dt_cmp (op_eqD hr.units) opd_eq (de_idx (de_var 0) de_int (fun _ _ => rfl)) de_str (nomark _)) (dw_and1 (dt_cmp op_le opd_le (de_op op_addD opd_add (de_callB call_len cbd_len (by rfl) T.b_len (by decide +kernel) (da_cons (de_fn C_each_once hr ai.pass (da_cons (de_fn C_keys_in hr ai.pass (da_cons (de_var 0) (da_cons (de_var 1) da_nil))) da_nil)) da_nil)) de_int) (de_fn C_bound_of hr ai.pass (da_cons (de_var 0) (da_cons (de_var 2) da_nil))) (nomark _))))) (dss_one (ds_ret (de_fn C_laid_anew hr ai.pass (da_cons (de_var 0) (da_cons (de_var 1) (da_cons (de_var 2) da_nil)))))) dss_nil)
      (dss_one (ds_ret (de_fn C_laid_anew hr ai.pass (da_cons (de_var 0) (da_cons (de_var 1) (da_cons (de_op op_mulD opd_mul de_int (de_var 2)) da_nil)))))))))
theorem sc_removed : FnScope ["way", "table", "slot", "key", "row", "one"] ["way", "table", "slot", "key"] (defScope s_removed) := ⟨rfl, rfl, rfl, by decide +kernel, rfl, by decide +kernel, by decide +kernel⟩
theorem cal_removed (T : Tx w K mg base) : Cal (obT P w mg) P w K mg base "removed" 5 ["way", "table", "slot", "key"] m_removed := by
  have C_laid_anew := cal_laid_anew (P := P) (w := w) (base := base) T
  have C_pulled := cal_pulled (P := P) (w := w) (base := base) T
  have C_with_slot := cal_with_slot (P := P) (w := w) (base := base) T
  refine cal_of (k := 4) T.f_removed sc_removed (fun _ _ _ _ _ _ us hl => match us, hl with | [_, _, _, _], _ => rfl) (fun f cdv A outer s H E hr ai => ?_)
  exact (dss_cons (ds_if (dt_cmp (op_eqD hr.units) opd_eq (de_idx (de_var 0) de_int (fun _ _ => rfl)) de_str (nomark _)) (dss_cons (ds_set 4 sc_removed.nd (de_idx (de_var 1) (de_var 2) (fun _ _ => rfl)))
      (dss_one (ds_ret (de_fn C_with_slot hr ai.pass (da_cons (de_var 1) (da_cons (de_var 2) (da_cons (de_callTy call_tupF cbd_tuple (by rfl) T.b_tuple (by decide +kernel) (da_cons (DF.de (DLc.df (lc1 (own := [("one", 5)]) rfl sc_removed.nd (di_seq (de_var 4)) (blkOk_by (by kernel_rfl)) (fun _ _ _ _ _ => (dg_name 5 sc_removed.nd)) (fun _ _ _ _ _ => (dts_one (dt_cmp (op_neD hr.units) opd_ne (de_var 5) (de_var 3) (nomark _)))) (fun _ _ _ _ _ => (de_var 5)) (by decide)))) da_nil)) da_nil))))))) dss_nil)
      (dss_cons (ds_if (dt_cmp (op_eqD hr.units) opd_eq (de_idx (de_var 0) de_int (fun _ _ => rfl)) de_str (nomark _)) (dss_one (ds_ret (de_fn C_with_slot hr ai.pass (da_cons (de_var 1) (da_cons (de_var 2) (da_cons (de_globI (by rfl) T.c_GONE) da_nil)))))) dss_nil)
      (dss_cons (ds_if (dt_cmp (op_eqD hr.units) opd_eq (de_idx (de_var 0) de_int (fun _ _ => rfl)) de_str (nomark _)) (dss_one (ds_ret (de_fn C_pulled hr ai.pass (da_cons (de_var 0) (da_cons (de_var 1) (da_cons (de_var 2) da_nil)))))) dss_nil)
      (dss_cons (ds_set 1 sc_removed.nd (de_fn C_with_slot hr ai.pass (da_cons (de_var 1) (da_cons (de_var 2) (da_cons (de_globI (by rfl) T.c_EMPTY) da_nil)))))
      (dss_one (ds_ret (de_if (dt_cmp (op_eqD hr.units) opd_eq (de_idx (de_var 0) de_int (fun _ _ => rfl)) de_str (nomark _)) (de_var 1) (de_fn C_laid_anew hr ai.pass (da_cons (de_var 0) (da_cons (de_var 1) (da_cons (de_callB call_len cbd_len (by rfl) T.b_len (by decide +kernel) (da_cons (de_var 1) da_nil)) da_nil)))))))))))
theorem sc_watcher_init : FnScope ["self", "ways", "sight", "index", "way"] ["self", "ways", "sight"] (defScope s_watcher_init) := ⟨rfl, rfl, rfl, by decide +kernel, rfl, by decide +kernel, by decide +kernel⟩
theorem cal_watcher_init (T : Tx w K mg base) : CalJ P w K mg base "Watcher" 5 ["self", "ways", "sight"] m_watcher_init := by
  have C_begun := cal_begun (P := P) (w := w) (base := base) T
  have C_check_sight := cal_check_sight (P := P) (w := w) (base := base) T
  have C_check_ways := cal_check_ways (P := P) (w := w) (base := base) T
  refine calJ_of (k := 4) T.f_watcher_init sc_watcher_init (fun _ _ _ _ _ _ us hl => match us, hl with | [_, _, _], _ => rfl) (fun f cdv A outer s H E hr ai => ?_)
  exact (mss_cons (ms_cl (ds_expr (de_fn C_check_ways hr ai.pass (da_cons (de_var 1) (da_cons de_int da_nil)))))
      (mss_cons (ms_cl (ds_expr (de_fn C_check_sight hr ai.pass (da_cons (de_var 2) da_nil))))
      (mss_cons (ms_fldV (f := "ways") T.oc_Watcher (de_var 0) (de_var 1))
      (mss_cons (ms_fldV (f := "sight") T.oc_Watcher (de_var 0) (de_var 2))
      (mss_cons (ms_fldL (f := "left_along") T.oc_Watcher (de_var 0) (df_lst (da_cons (de_callTy call_tupF cbd_tuple (by rfl) T.b_tuple (by decide +kernel) (da_cons (DF.de (DLc.df (lc1 (own := [("index", 3), ("way", 4)]) rfl sc_watcher_init.nd (di_enumerate (by rfl) T.b_enumerate (da_cons (de_var 1) da_nil)) (blkOk_by (by kernel_rfl)) (fun _ _ _ _ _ => (dg_tup rfl (dgs_cons (dg_name 3 sc_watcher_init.nd) (dgs_cons (dg_name 4 sc_watcher_init.nd) dgs_nil)))) (fun _ _ _ _ _ => dts_nil) (fun _ _ _ _ _ => (de_tup (da_cons (de_var 3) (da_cons (de_fn C_begun hr passL (da_cons (de_var 4) (da_cons de_int da_nil))) da_nil)))) (by decide)))) da_nil)) da_nil)))
      (mss_one (ms_fldL (f := "noted") T.oc_Watcher (de_var 0) (df_lst da_nil))))))))
theorem sc_desk_init : FnScope ["self", "way"] ["self", "way"] (defScope s_desk_init) := ⟨rfl, rfl, rfl, by decide +kernel, rfl, by decide +kernel, by decide +kernel⟩
theorem cal_desk_init (T : Tx w K mg base) : CalJ P w K mg base "Desk" 5 ["self", "way"] m_desk_init := by
  have C_begun := cal_begun (P := P) (w := w) (base := base) T
  have C_check_way := cal_check_way (P := P) (w := w) (base := base) T
  refine calJ_of (k := 4) T.f_desk_init sc_desk_init (fun _ _ _ _ _ _ us hl => match us, hl with | [_, _], _ => rfl) (fun f cdv A outer s H E hr ai => ?_)
  exact (mss_cons (ms_cl (ds_expr (de_fn C_check_way hr ai.pass (da_cons (de_var 1) da_nil))))
      (mss_cons (ms_fldV (f := "way") T.oc_Desk (de_var 0) (de_var 1))
      (mss_cons (ms_fldL (f := "tables") T.oc_Desk (de_var 0) (df_lst (da_cons (de_fn C_begun hr ai.pass (da_cons (de_var 1) (da_cons de_int da_nil))) da_nil)))
      (mss_cons (ms_fldL (f := "past") T.oc_Desk (de_var 0) (df_lst da_nil))
      (mss_one (ms_fldL (f := "future") T.oc_Desk (de_var 0) (df_lst da_nil)))))))
theorem sc_done : FnScope ["way", "table", "deed", "kind", "key", "slot", "looks"] ["way", "table", "deed"] (defScope s_done) := ⟨rfl, rfl, rfl, by decide +kernel, rfl, by decide +kernel, by decide +kernel⟩
theorem cal_done (T : Tx w K mg base) : Cal (obT P w mg) P w K mg base "done" 6 ["way", "table", "deed"] m_done := by
  have C_found_at := cal_found_at (P := P) (w := w) (base := base) T
  have C_grown := cal_grown (P := P) (w := w) (base := base) T
  have C_placed := cal_placed (P := P) (w := w) (base := base) T
  have C_removed := cal_removed (P := P) (w := w) (base := base) T
  refine cal_of (k := 5) T.f_done sc_done (fun _ _ _ _ _ _ us hl => match us, hl with | [_, _, _], _ => rfl) (fun f cdv A outer s H E hr ai => ?_)
  exact (dss_cons (ds_tgt (de_var 2) (dg_tup rfl (dgs_cons (dg_name 3 sc_done.nd) (dgs_cons (dg_name 4 sc_done.nd) dgs_nil))))
      (dss_cons (ds_tgt (de_fn C_found_at hr ai.pass (da_cons (de_var 0) (da_cons (de_var 1) (da_cons (de_var 4) da_nil)))) (dg_tup rfl (dgs_cons (dg_name 5 sc_done.nd) (dgs_cons (dg_name 6 sc_done.nd) dgs_nil))))
      (dss_cons (ds_if (DW.dt (dw_and (dt_cmp (op_eqD hr.units) opd_eq (de_var 3) de_str (nomark _)) (dw_and1 (dt_cmp op_isN opd_isN (de_var 5) de_non (nomark _))))) (dss_one (ds_set 1 sc_done.nd (de_fn C_placed hr ai.pass (da_cons (de_var 0) (da_cons (de_fn C_grown hr ai.pass (da_cons (de_var 0) (da_cons (de_var 1) da_nil))) (da_cons (de_var 4) da_nil)))))) dss_nil)
      (dss_cons (ds_if (DW.dt (dw_and (dt_cmp (op_eqD hr.units) opd_eq (de_var 3) de_str (nomark _)) (dw_and1 (dt_cmp op_notN opd_notN (de_var 5) de_non (nomark _))))) (dss_one (ds_set 1 sc_done.nd (de_fn C_removed hr ai.pass (da_cons (de_var 0) (da_cons (de_var 1) (da_cons (de_var 5) (da_cons (de_var 4) da_nil))))))) dss_nil)
      (dss_one (ds_ret (de_tup (da_cons (de_var 1) (da_cons (de_cmp op_notN opd_notN (de_var 5) de_non (nomark _)) (da_cons (de_var 6) da_nil))))))))))
theorem sc_work : FnScope ["way", "row", "deed", "tables", "told", "table", "was_found", "looks"] ["way", "row"] (defScope s_work) := ⟨rfl, rfl, rfl, by decide +kernel, rfl, by decide +kernel, by decide +kernel⟩
theorem cal_work (T : Tx w K mg base) : Cal (obT P w mg) P w K mg base "work" 7 ["way", "row"] m_work := by
  have C_begun := cal_begun (P := P) (w := w) (base := base) T
  have C_done := cal_done (P := P) (w := w) (base := base) T
  refine cal_of (k := 6) T.f_work sc_work (fun _ _ _ _ _ _ us hl => match us, hl with | [_, _], _ => rfl) (fun f cdv A outer s H E hr ai => ?_)
  exact (dss_cons (ds_parFF (i := 3) (j := 4) rfl sc_work.nd (df_lst (da_cons (de_fn C_begun hr ai.pass (da_cons (de_var 0) (da_cons de_int da_nil))) da_nil)) (df_lst da_nil) (by rfl))
      (dss_cons (ds_for ai.own rfl (di_seq (de_var 1)) (dg_name 2 sc_work.nd) (dss_cons (ds_tgtP (de_fn C_done hr ai.pass (da_cons (de_var 0) (da_cons (de_idx (de_var 3) (de_neg de_int) (fun _ _ => rfl)) (da_cons (de_var 2) da_nil)))) (dg_tup rfl (dgs_cons (dg_name 5 sc_work.nd) (dgs_cons (dg_name 6 sc_work.nd) (dgs_cons (dg_name 7 sc_work.nd) dgs_nil)))))
      (dss_cons (ds_app 3 (de_var 5))
      (dss_one (ds_app 4 (de_tup (da_cons (de_var 6) (da_cons (de_var 7) da_nil))))))))
      (dss_one (ds_ret (de_tup (da_cons (de_var 3) (da_cons (de_var 4) da_nil)))))))
theorem sc_watcher_note : FnScope ["self", "deed", "seen", "found", "index", "table", "there", "was_found", "looks"] ["self", "deed", "seen"] (defScope s_watcher_note) := ⟨rfl, rfl, rfl, by decide +kernel, rfl, by decide +kernel, by decide +kernel⟩
theorem cal_watcher_note (T : Tx w K mg base) : CalZ (obT P w mg) P w K mg base "Watcher" "note" 7 ["self", "deed", "seen"] m_watcher_note := by
  have C_check_deed := cal_check_deed (P := P) (w := w) (base := base) T
  have C_done := cal_done (P := P) (w := w) (base := base) T
  have C_is_sight_of := cal_is_sight_of (P := P) (w := w) (base := base) T
  have C_seen_of := cal_seen_of (P := P) (w := w) (base := base) T
  have C_watcher_left := cal_watcher_left (P := P) (w := w) (base := base) T
  refine calZ_of (k := 6) T.f_watcher_note sc_watcher_note (fun _ _ _ _ _ _ us hl => match us, hl with | [_, _, _], _ => rfl) (fun f cdv A outer s H E hr ai => ?_)
  exact (mss_cons (ms_cl (ds_expr (de_fn C_check_deed hr ai.pass (da_cons (de_var 1) da_nil))))
      (mss_cons (ms_if (mt_rd (dt_not (dt_val (de_fn C_is_sight_of hr ai.pass (da_cons (de_var 2) (da_cons (de_fldO (f := "sight") T.oc_Watcher (de_var 0)) da_nil)))))) (mss_one (ms_cl (ds_raise ai T.x_InvalidSeen))) mss_nil)
      (mss_cons (ms_if (mt_rd (dt_cmp (op_eqD hr.units) opd_eq (de_callB call_len cbd_len (by rfl) T.b_len (by decide +kernel) (da_cons (de_fldO (f := "noted") T.oc_Watcher (de_var 0)) da_nil)) de_int (nomark _))) (mss_one (ms_cl (ds_raise ai T.x_TooMany))) mss_nil)
      (mss_cons (ms_cl (ds_setF 3 sc_watcher_note.nd (df_lst da_nil)))
      (mss_cons (ms_rd (ds_for ai.own rfl (di_seq (de_idx (de_fldO (f := "left_along") T.oc_Watcher (de_var 0)) (de_neg de_int) (fun _ _ => rfl))) (dg_tup rfl (dgs_cons (dg_name 4 sc_watcher_note.nd) (dgs_cons (dg_name 5 sc_watcher_note.nd) dgs_nil))) (dss_cons (ds_tgt (de_fn C_done hr ai.pass (da_cons (de_idx (de_fldO (f := "ways") T.oc_Watcher (de_var 0)) (de_var 4) (fun _ _ => rfl)) (da_cons (de_var 5) (da_cons (de_var 1) da_nil)))) (dg_tup rfl (dgs_cons (dg_name 6 sc_watcher_note.nd) (dgs_cons (dg_name 7 sc_watcher_note.nd) (dgs_cons (dg_name 8 sc_watcher_note.nd) dgs_nil)))))
      (dss_one (ds_if (dt_cmp (op_eqD hr.units) opd_eq (de_fn C_seen_of hr ai.pass (da_cons (de_idx (de_fldO (f := "ways") T.oc_Watcher (de_var 0)) (de_var 4) (fun _ _ => rfl)) (da_cons (de_var 6) (da_cons (de_var 8) (da_cons (de_fldO (f := "sight") T.oc_Watcher (de_var 0)) da_nil))))) (de_var 2) (nomark _)) (dss_one (ds_app 3 (de_tup (da_cons (de_var 4) (da_cons (de_var 6) da_nil))))) dss_nil)))))
      (mss_cons (ms_cl (ds_if (dt_cmp (op_eqD hr.units) opd_eq (de_var 3) (DF.de (df_lst da_nil)) (nomark _)) (dss_one (ds_raise ai T.x_NotShown)) dss_nil))
      (mss_cons (ms_fapp (f := "left_along") T.oc_Watcher (de_var 0) (de_callTy call_tupF cbd_tuple (by rfl) T.b_tuple (by decide +kernel) (da_cons (de_var 3) da_nil)))
      (mss_cons (ms_fapp (f := "noted") T.oc_Watcher (de_var 0) (de_tup (da_cons (de_var 1) (da_cons (de_var 2) da_nil))))
      (mss_one (ms_ret (me_rd (de_methO0 C_watcher_left hr ai.pass (de_var 0)))))))))))))
theorem sc_desk_do : FnScope ["self", "deed", "there", "was_found", "looks"] ["self", "deed"] (defScope s_desk_do) := ⟨rfl, rfl, rfl, by decide +kernel, rfl, by decide +kernel, by decide +kernel⟩
theorem cal_desk_do (T : Tx w K mg base) : CalZ (obT P w mg) P w K mg base "Desk" "do" 7 ["self", "deed"] m_desk_do := by
  have C_check_deed := cal_check_deed (P := P) (w := w) (base := base) T
  have C_done := cal_done (P := P) (w := w) (base := base) T
  refine calZ_of (k := 6) T.f_desk_do sc_desk_do (fun _ _ _ _ _ _ us hl => match us, hl with | [_, _], _ => rfl) (fun f cdv A outer s H E hr ai => ?_)
  exact (mss_cons (ms_cl (ds_expr (de_fn C_check_deed hr ai.pass (da_cons (de_var 1) da_nil))))
      (mss_cons (ms_if (mt_rd (dt_cmp (op_eqD hr.units) opd_eq (de_callB call_len cbd_len (by rfl) T.b_len (by decide +kernel) (da_cons (de_fldO (f := "past") T.oc_Desk (de_var 0)) da_nil)) de_int (nomark _))) (mss_one (ms_cl (ds_raise ai T.x_TooMany))) mss_nil)
      (mss_cons (ms_tgtC (me_rd (de_fn C_done hr ai.pass (da_cons (de_fldO (f := "way") T.oc_Desk (de_var 0)) (da_cons (de_idx (de_fldO (f := "tables") T.oc_Desk (de_var 0)) (de_neg de_int) (fun _ _ => rfl)) (da_cons (de_var 1) da_nil))))) (dg_tup rfl (dgs_cons (dg_name 2 sc_desk_do.nd) (dgs_cons (dg_name 3 sc_desk_do.nd) (dgs_cons (dg_name 4 sc_desk_do.nd) dgs_nil)))))
      (mss_cons (ms_fapp (f := "tables") T.oc_Desk (de_var 0) (de_var 2))
      (mss_cons (ms_fapp (f := "past") T.oc_Desk (de_var 0) (de_var 1))
      (mss_cons (ms_fldL (f := "future") T.oc_Desk (de_var 0) (df_lst da_nil))
      (mss_one (ms_cl (ds_ret (de_tup (da_cons (de_var 3) (da_cons (de_var 4) da_nil))))))))))))
theorem sc_seen_along : FnScope ["way", "row", "sight", "tables", "told", "table", "one"] ["way", "row", "sight"] (defScope s_seen_along) := ⟨rfl, rfl, rfl, by decide +kernel, rfl, by decide +kernel, by decide +kernel⟩
theorem cal_seen_along (T : Tx w K mg base) : Cal (obT P w mg) P w K mg base "seen_along" 8 ["way", "row", "sight"] m_seen_along := by
  have C_seen_of := cal_seen_of (P := P) (w := w) (base := base) T
  have C_work := cal_work (P := P) (w := w) (base := base) T
  refine cal_of (k := 7) T.f_seen_along sc_seen_along (fun _ _ _ _ _ _ us hl => match us, hl with | [_, _, _], _ => rfl) (fun f cdv A outer s H E hr ai => ?_)
  exact (dss_cons (ds_tgt (de_fn C_work hr ai.pass (da_cons (de_var 0) (da_cons (de_var 1) da_nil))) (dg_tup rfl (dgs_cons (dg_name 3 sc_seen_along.nd) (dgs_cons (dg_name 4 sc_seen_along.nd) dgs_nil))))
      (dss_one (ds_ret (de_callTy call_tupF cbd_tuple (by rfl) T.b_tuple (by decide +kernel) (da_cons (DF.de (DLc.df (lc1 (own := [("table", 5), ("one", 6)]) rfl sc_seen_along.nd (di_zip (by rfl) T.b_zip (da_cons (de_slice (de_var 3) (do_some de_int) do_none) (da_cons (de_var 4) da_nil))) (blkOk_by (by kernel_rfl)) (fun _ _ _ _ _ => (dg_tup rfl (dgs_cons (dg_name 5 sc_seen_along.nd) (dgs_cons (dg_name 6 sc_seen_along.nd) dgs_nil)))) (fun _ _ _ _ _ => dts_nil) (fun _ _ _ _ _ => (de_fn C_seen_of hr passL (da_cons (de_var 0) (da_cons (de_var 5) (da_cons (de_idx (de_var 6) de_int (fun _ _ => rfl)) (da_cons (de_var 2) da_nil)))))) (by decide)))) da_nil)))))
theorem sc_run : FnScope ["way", "row", "sight"] ["way", "row", "sight"] (defScope s_run) := ⟨rfl, rfl, rfl, by decide +kernel, rfl, by decide +kernel, by decide +kernel⟩
theorem cal_run (T : Tx w K mg base) : Cal (obT P w mg) P w K mg base "run" 9 ["way", "row", "sight"] m_run := by
  have C_check_row := cal_check_row (P := P) (w := w) (base := base) T
  have C_check_sight := cal_check_sight (P := P) (w := w) (base := base) T
  have C_check_way := cal_check_way (P := P) (w := w) (base := base) T
  have C_seen_along := cal_seen_along (P := P) (w := w) (base := base) T
  refine cal_of (k := 8) T.f_run sc_run (fun _ _ _ _ _ _ us hl => match us, hl with | [_, _, _], _ => rfl) (fun f cdv A outer s H E hr ai => ?_)
  exact (dss_cons (ds_expr (de_fn C_check_way hr ai.pass (da_cons (de_var 0) da_nil)))
      (dss_cons (ds_expr (de_fn C_check_row hr ai.pass (da_cons (de_var 1) da_nil)))
      (dss_cons (ds_expr (de_fn C_check_sight hr ai.pass (da_cons (de_var 2) da_nil)))
      (dss_one (ds_ret (de_fn C_seen_along hr ai.pass (da_cons (de_var 0) (da_cons (de_var 1) (da_cons (de_var 2) da_nil)))))))))
theorem sc_law : FnScope ["script", "town", "row", "fresh", "way", "key", "watcher", "other", "desk", "deed", "seen"] ["script"] (defScope s_law) := ⟨rfl, rfl, rfl, by decide +kernel, rfl, by decide +kernel, by decide +kernel⟩
theorem ok_law (T : Tx w K mg base) {f : Addr} {fd : FuncData} (hm : mg "law" = some (.ref f)) (hF : FunD K "law" "law" (defArgs s_law) (defBody s_law) (defScope s_law) [] [] f fd) (hl : m_law [sD] noS (fun d _ => d = .bool true) (fun _ _ => False)) : FnOk P w K mg base (L2.CX P w) 10 f fd ["script"] (spLaw K) := by
  have C__law_begun := cal__law_begun (P := P) (w := w) (base := base) T
  have C__law_draw := cal__law_draw (P := P) (w := w) (base := base) T
  have C__law_way := cal__law_way (P := P) (w := w) (base := base) T
  have C_desk_do := cal_desk_do (P := P) (w := w) (base := base) T
  have C_desk_history := cal_desk_history (P := P) (w := w) (base := base) T
  have C_desk_init := cal_desk_init (P := P) (w := w) (base := base) T
  have C_desk_len := cal_desk_len (P := P) (w := w) (base := base) T
  have C_desk_order := cal_desk_order (P := P) (w := w) (base := base) T
  have C_desk_undo := cal_desk_undo (P := P) (w := w) (base := base) T
  have C_run := cal_run (P := P) (w := w) (base := base) T
  have C_watcher_init := cal_watcher_init (P := P) (w := w) (base := base) T
  have C_watcher_left := cal_watcher_left (P := P) (w := w) (base := base) T
  have C_watcher_len := cal_watcher_len (P := P) (w := w) (base := base) T
  have C_watcher_note := cal_watcher_note (P := P) (w := w) (base := base) T
  have C_watcher_notes := cal_watcher_notes (P := P) (w := w) (base := base) T
  have C_watcher_undo := cal_watcher_undo (P := P) (w := w) (base := base) T
  have R := res_ok (P := P) (w := w) T
  refine law_fnS (k := 9) hm hF sc_law (fun cdv A outer s H E hr tc0 ai => ?_) hl
  have tc := tc0 T.t_law
  exact (mss_cons (ms_cl (ds_set 1 sc_law.nd (de_fn0 C__law_begun hr ai.pass)))
      (mss_cons (ms_cl (ds_tgt (de_tup (da_cons (de_fn C__law_way hr ai.pass (da_cons (de_var 0) (da_cons (de_var 1) da_nil))) (da_cons (de_fn C__law_draw hr ai.pass (da_cons (de_var 0) (da_cons (de_var 1) (da_cons de_int da_nil)))) da_nil))) (dg_tup rfl (dgs_cons (dg_name 4 sc_law.nd) (dgs_cons (dg_name 5 sc_law.nd) dgs_nil)))))
      (mss_cons (ms_tgtC (me_tup (ma_cons (me_make C_watcher_init hr ai.pass (ma_cons (me_cl (de_tup (da_cons (de_var 4) (da_cons (de_var 4) da_nil)))) (ma_cons (me_cl de_str) ma_nil))) (ma_cons (me_make C_watcher_init hr ai.pass (ma_cons (me_cl (de_tup (da_cons (de_var 4) (da_cons (de_var 4) da_nil)))) (ma_cons (me_cl de_str) ma_nil))) (ma_cons (me_make C_desk_init hr ai.pass (ma_cons (me_cl (de_var 4)) ma_nil)) ma_nil)))) (dg_tup rfl (dgs_cons (dg_name 6 sc_law.nd) (dgs_cons (dg_name 7 sc_law.nd) (dgs_cons (dg_name 8 sc_law.nd) dgs_nil)))))
      (mss_cons (ms_cl (ds_set 2 sc_law.nd (de_op op_mulD opd_mul (de_tup (da_cons (de_tup (da_cons de_str (da_cons (de_var 5) da_nil))) (da_cons (de_tup (da_cons de_str (da_cons (de_var 5) da_nil))) (da_cons (de_tup (da_cons de_str (da_cons (de_var 5) da_nil))) da_nil)))) de_int)))
      (mss_cons (ms_for ai.own rfl (di_zipG (by rfl) T.b_zip (da_cons (de_var 2) (da_cons (de_fn C_run hr ai.pass (da_cons (de_var 4) (da_cons (de_var 2) (da_cons de_str da_nil)))) da_nil))) (dg_tup rfl (dgs_cons (dg_name 9 sc_law.nd) (dgs_cons (dg_name 10 sc_law.nd) dgs_nil))) (mss_cons (ms_if (MW.mt (mw_or (mt_cmp (op_neD hr.units) opd_ne (me_meth C_watcher_note hr ai.pass (de_var 6) (ma_cons (me_cl (de_var 9)) (ma_cons (me_cl (de_var 10)) ma_nil))) (me_cl (de_tup (da_cons de_int (da_cons de_int da_nil)))) (nomark _)) (mw_or (mt_rd (dt_cmp (op_neD hr.units) opd_ne (de_lenO C_watcher_len hr ai.pass (de_var 7) (by rfl) T.b_len) de_int (nomark _))) (mw_or1 (mt_rd (dt_cmp (op_neD hr.units) opd_ne (de_methO0 C_watcher_left hr ai.pass (de_var 7)) (de_tup (da_cons de_int (da_cons de_int da_nil))) (nomark _))))))) (mss_one (ms_cl (ds_ret de_bl))) mss_nil)
      (mss_one (ms_if (mt_cmp (op_neD hr.units) opd_ne (me_idx1 ix_seq opd_idx (me_meth C_desk_do hr ai.pass (de_var 8) (ma_cons (me_cl (de_var 9)) ma_nil)) de_int (fun _ _ => rfl)) (me_cl (de_cmp (op_neD hr.units) opd_ne (de_idx (de_var 9) de_int (fun _ _ => rfl)) de_str (nomark _))) (nomark _)) (mss_one (ms_cl (ds_ret de_bl))) mss_nil))))
      (mss_cons (ms_if (MW.mt (mw_or (mt_cmp (op_neD hr.units) opd_ne (me_res (x := "law") (k := 7) R tc hr (fun A outer s H E f1 c1 hr ai => (me_meth C_watcher_note hr ai.pass (de_var 6) (ma_cons (me_cl (de_tup (da_cons de_str (da_cons (de_var 5) da_nil)))) (ma_cons (me_cl (de_tup (da_cons (de_var 5) da_nil))) ma_nil))))) (me_cl (de_tup (da_cons de_str da_nil))) (nomark _)) (mw_or1 (mt_rd (dt_cmp (op_neD hr.units) opd_ne (de_lenO C_watcher_len hr ai.pass (de_var 6) (by rfl) T.b_len) de_int (nomark _)))))) (mss_one (ms_cl (ds_ret de_bl))) mss_nil)
      (mss_cons (ms_if (MW.mt (mw_or (mt_cmp (op_neD hr.units) opd_ne (me_res (x := "law") (k := 7) R tc hr (fun A outer s H E f1 c1 hr ai => (me_meth C_desk_do hr ai.pass (de_var 8) (ma_cons (me_cl (de_tup (da_cons de_str (da_cons (de_var 5) da_nil)))) ma_nil)))) (me_cl (de_tup (da_cons de_str da_nil))) (nomark _)) (mw_or (mt_rd (dt_cmp (op_neD hr.units) opd_ne (de_lenO C_desk_len hr ai.pass (de_var 8) (by rfl) T.b_len) de_int (nomark _))) (mw_or1 (mt_rd (dt_cmp (op_neD hr.units) opd_ne (de_methO0 C_desk_order hr ai.pass (de_var 8)) (de_tup da_nil) (nomark _))))))) (mss_one (ms_cl (ds_ret de_bl))) mss_nil)
      (mss_cons (ms_setC 3 sc_law.nd (me_make C_desk_init hr ai.pass (ma_cons (me_cl (de_var 4)) ma_nil)))
      (mss_cons (ms_if (MW.mt (mw_or (mt_rd (dt_cmp (op_neD hr.units) opd_ne (de_lenO C_desk_len hr ai.pass (de_var 3) (by rfl) T.b_len) de_int (nomark _))) (mw_or (mt_rd (dt_cmp (op_neD hr.units) opd_ne (de_methO0 C_desk_history hr ai.pass (de_var 3)) (de_tup da_nil) (nomark _))) (mw_or1 (mt_cmp (op_neD hr.units) opd_ne (me_res (x := "law") (k := 1) R tc hr (fun A outer s H E f1 c1 hr ai => (me_meth0 C_desk_undo hr ai.pass (de_var 3)))) (me_cl (de_tup (da_cons de_str da_nil))) (nomark _)))))) (mss_one (ms_cl (ds_ret de_bl))) mss_nil)
      (mss_cons (ms_expr (me_meth C_desk_do hr ai.pass (de_var 3) (ma_cons (me_cl (de_tup (da_cons de_str (da_cons (de_var 5) da_nil)))) ma_nil)))
      (mss_cons (ms_if (MW.mt (mw_or (mt_cmp (op_neD hr.units) opd_ne (me_meth0 C_desk_undo hr ai.pass (de_var 8)) (me_cl (de_tup (da_cons de_str (da_cons (de_var 5) da_nil)))) (nomark _)) (mw_or (mt_rd (dt_cmp (op_neD hr.units) opd_ne (de_methO0 C_desk_order hr ai.pass (de_var 8)) (de_tup (da_cons (de_var 5) da_nil)) (nomark _))) (mw_or (mt_rd (dt_cmp (op_neD hr.units) opd_ne (de_methO0 C_desk_order hr ai.pass (de_var 3)) (de_tup (da_cons (de_var 5) da_nil)) (nomark _))) (mw_or1 (mt_rd (dt_cmp (op_neD hr.units) opd_ne (de_lenO C_desk_len hr ai.pass (de_var 3) (by rfl) T.b_len) de_int (nomark _)))))))) (mss_one (ms_cl (ds_ret de_bl))) mss_nil)
      (mss_cons (ms_if (MW.mt (mw_or (mt_not (mt_val (me_idx1 ix_seq opd_idx (me_meth C_desk_do hr ai.pass (de_var 8) (ma_cons (me_cl (de_tup (da_cons de_str (da_cons (de_var 5) da_nil)))) ma_nil)) de_int (fun _ _ => rfl)))) (mw_or1 (mt_rd (dt_cmp (op_neD hr.units) opd_ne (de_methO0 C_desk_history hr ai.pass (de_var 8)) (de_op op_addD opd_add (de_slice (de_var 2) do_none (do_some (de_neg de_int))) (de_tup (da_cons (de_tup (da_cons de_str (da_cons (de_var 5) da_nil))) da_nil))) (nomark _)))))) (mss_one (ms_cl (ds_ret de_bl))) mss_nil)
      (mss_cons (ms_expr (me_meth0 C_watcher_undo hr ai.pass (de_var 6)))
      (mss_one (ms_ret (me_and (me_rd (de_cmp (op_eqD hr.units) opd_eq (de_methO0 C_watcher_notes hr ai.pass (de_var 7)) (de_tup da_nil) (nomark _))) (me_and (me_rd (de_cmp (op_eqD hr.units) opd_eq (de_lenO C_watcher_len hr ai.pass (de_var 6) (by rfl) T.b_len) de_int (nomark _))) (me_one (me_cmp (op_eqD hr.units) opd_eq (me_meth C_watcher_note hr ai.pass (de_var 6) (ma_cons (me_cl (de_tup (da_cons de_str (da_cons (de_var 5) da_nil)))) (ma_cons (me_cl (de_tup da_nil)) ma_nil))) (me_cl (de_tup (da_cons de_int (da_cons de_int da_nil)))) (nomark _))))))))))))))))))))
end
end G6
namespace G6
open PySem PySem.Spec L2 DL
theorem hun {w : World} {h : Heap} {K : PySem.W.Frag} (c : He.SaysX hfa hfn [] htf hex w h K) : uniqB (tabsOf K htf) = true := by
  have m : hex K = true := c.more
  unfold hex at m
  exact List.all_eq_true.mp m _ (List.mem_of_getElem? (i := 19) rfl)
theorem tx {w : World} {h base : Heap} {K : PySem.W.Frag} {mg : Str → Option Value} (X : K.In h) (G : h.Ns mainGlobals mg) (c : He.SaysX hfa hfn [] htf hex w h K) (tb : ∀ p ∈ htf.map (He.cT K), LamX.TabB base mg p.1 p.2) : @Tx (nmOf K htf (hun c)) w K mg base := by
  letI : Nm := nmOf K htf (hun c)
  have fact : ∀ (i : Nat) (f : He.Fa), hfa[i]? = some f → f.ok K = true := fun i f e => c.t.d.fact i e
  have fn : ∀ (i : Nat) (x : Str) (j : Nat), hfn[i]? = some (dOf x j) → (He.Fa.glo x).ok K = true → FnT K mg x (top j) := fun i x j e g => by
    obtain ⟨fd, F⟩ := c.t.d.def_ i e
    exact ⟨_, fd, He.glo_ok X G g, F⟩
  have m0 : hex K = true := c.more
  unfold hex at m0
  have m : ∀ (i : Nat) (b : Bool), [tupN K "HOMES" [.str "low", .str "fold"], tupN K "STEPS" [.str "up", .str "down", .str "wide", .str "own"], tupN K "COMES" [.str "late", .str "empty", .str "near", .str "first"], tupN K "GONES" [.str "mark", .str "hole", .str "again", .str "pull"], tupN K "GROWS" [.str "half", .str "three", .str "full"], tupN K "KINDS" [.str "ask", .str "put", .str "take"], tupN K "SIGHTS" [.str "both", .str "looks", .str "order"], xcB K "InvalidDeed", xcB K "InvalidRow", xcB K "InvalidSeen", xcB K "InvalidSight", xcB K "InvalidWay", xcB K "InvalidWays", xcB K "NotShown", xcB K "NothingToUndo", xcB K "TooMany", xaB K, ocB K "Desk", ocB K "Watcher", uniqB (tabsOf K htf)][i]? = some b → b = true := fun i b e => List.all_eq_true.mp m0 _ (List.mem_of_getElem? e)
  exact @Tx.mk (nmOf K htf (hun c)) _ _ _ _ (He.free_ok X G (fact 65 _ rfl))
    (He.free_ok X G (fact 66 _ rfl))
    (He.free_ok X G (fact 67 _ rfl))
    (He.free_ok X G (fact 68 _ rfl))
    (He.free_ok X G (fact 69 _ rfl))
    (He.free_ok X G (fact 70 _ rfl))
    (He.free_ok X G (fact 71 _ rfl))
    (He.free_ok X G (fact 72 _ rfl))
    (He.free_ok X G (fact 73 _ rfl))
    (He.free_ok X G (fact 74 _ rfl))
    (He.free_ok X G (fact 75 _ rfl))
    (He.free_ok X G (fact 76 _ rfl))
    (He.int_ok X G (fact 77 _ rfl))
    (He.int_ok X G (fact 78 _ rfl))
    (⟨_, He.glo_ok X G (fact 58 _ rfl), fun O H P => .tup (tupN_ok (m 0 _ rfl) H) (.cons (.str _ (by decide +kernel)) (.cons (.str _ (by decide +kernel)) (.nil)))⟩)
    (⟨_, He.glo_ok X G (fact 59 _ rfl), fun O H P => .tup (tupN_ok (m 1 _ rfl) H) (.cons (.str _ (by decide +kernel)) (.cons (.str _ (by decide +kernel)) (.cons (.str _ (by decide +kernel)) (.cons (.str _ (by decide +kernel)) (.nil)))))⟩)
    (⟨_, He.glo_ok X G (fact 60 _ rfl), fun O H P => .tup (tupN_ok (m 2 _ rfl) H) (.cons (.str _ (by decide +kernel)) (.cons (.str _ (by decide +kernel)) (.cons (.str _ (by decide +kernel)) (.cons (.str _ (by decide +kernel)) (.nil)))))⟩)
    (⟨_, He.glo_ok X G (fact 61 _ rfl), fun O H P => .tup (tupN_ok (m 3 _ rfl) H) (.cons (.str _ (by decide +kernel)) (.cons (.str _ (by decide +kernel)) (.cons (.str _ (by decide +kernel)) (.cons (.str _ (by decide +kernel)) (.nil)))))⟩)
    (⟨_, He.glo_ok X G (fact 62 _ rfl), fun O H P => .tup (tupN_ok (m 4 _ rfl) H) (.cons (.str _ (by decide +kernel)) (.cons (.str _ (by decide +kernel)) (.cons (.str _ (by decide +kernel)) (.nil))))⟩)
    (⟨_, He.glo_ok X G (fact 63 _ rfl), fun O H P => .tup (tupN_ok (m 5 _ rfl) H) (.cons (.str _ (by decide +kernel)) (.cons (.str _ (by decide +kernel)) (.cons (.str _ (by decide +kernel)) (.nil))))⟩)
    (⟨_, He.glo_ok X G (fact 64 _ rfl), fun O H P => .tup (tupN_ok (m 6 _ rfl) H) (.cons (.str _ (by decide +kernel)) (.cons (.str _ (by decide +kernel)) (.cons (.str _ (by decide +kernel)) (.nil))))⟩)
    (fn 0 _ _ rfl (fact 0 _ rfl))
    (fn 1 _ _ rfl (fact 1 _ rfl))
    (fn 2 _ _ rfl (fact 2 _ rfl))
    (fn 3 _ _ rfl (fact 3 _ rfl))
    (fn 4 _ _ rfl (fact 4 _ rfl))
    (fn 5 _ _ rfl (fact 5 _ rfl))
    (fn 6 _ _ rfl (fact 6 _ rfl))
    (fn 7 _ _ rfl (fact 7 _ rfl))
    ((let ⟨fd, F⟩ := c.t.d.def_ (i := 8) rfl; ⟨_, _, fd, He.glo_ok X G (fact 105 _ rfl), He.cls_ok (fact 103 _ rfl), He.meth_ok (fact 106 _ rfl), F⟩))
    ((let ⟨fd, F⟩ := c.t.d.def_ (i := 9) rfl; ⟨_, _, fd, He.glo_ok X G (fact 105 _ rfl), He.cls_ok (fact 103 _ rfl), He.meth_ok (fact 107 _ rfl), F⟩))
    ((let ⟨fd, F⟩ := c.t.d.def_ (i := 10) rfl; ⟨_, _, fd, He.glo_ok X G (fact 105 _ rfl), He.cls_ok (fact 103 _ rfl), He.meth_ok (fact 108 _ rfl), F⟩))
    ((let ⟨fd, F⟩ := c.t.d.def_ (i := 11) rfl; ⟨_, _, fd, He.glo_ok X G (fact 105 _ rfl), He.cls_ok (fact 103 _ rfl), He.meth_ok (fact 109 _ rfl), F⟩))
    ((let ⟨fd, F⟩ := c.t.d.def_ (i := 12) rfl; ⟨_, _, fd, He.glo_ok X G (fact 105 _ rfl), He.cls_ok (fact 103 _ rfl), He.meth_ok (fact 110 _ rfl), F⟩))
    ((let ⟨fd, F⟩ := c.t.d.def_ (i := 13) rfl; ⟨_, _, fd, He.glo_ok X G (fact 105 _ rfl), He.cls_ok (fact 103 _ rfl), He.meth_ok (fact 111 _ rfl), F⟩))
    ((let ⟨fd, F⟩ := c.t.d.def_ (i := 14) rfl; ⟨_, _, fd, He.glo_ok X G (fact 102 _ rfl), He.cls_ok (fact 100 _ rfl), He.meth_ok (fact 112 _ rfl), F⟩))
    ((let ⟨fd, F⟩ := c.t.d.def_ (i := 15) rfl; ⟨_, _, fd, He.glo_ok X G (fact 102 _ rfl), He.cls_ok (fact 100 _ rfl), He.meth_ok (fact 113 _ rfl), F⟩))
    ((let ⟨fd, F⟩ := c.t.d.def_ (i := 16) rfl; ⟨_, _, fd, He.glo_ok X G (fact 102 _ rfl), He.cls_ok (fact 100 _ rfl), He.meth_ok (fact 114 _ rfl), F⟩))
    ((let ⟨fd, F⟩ := c.t.d.def_ (i := 17) rfl; ⟨_, _, fd, He.glo_ok X G (fact 102 _ rfl), He.cls_ok (fact 100 _ rfl), He.meth_ok (fact 115 _ rfl), F⟩))
    ((let ⟨fd, F⟩ := c.t.d.def_ (i := 18) rfl; ⟨_, _, fd, He.glo_ok X G (fact 102 _ rfl), He.cls_ok (fact 100 _ rfl), He.meth_ok (fact 116 _ rfl), F⟩))
    (fn 19 _ _ rfl (fact 19 _ rfl))
    (fn 20 _ _ rfl (fact 20 _ rfl))
    (fn 21 _ _ rfl (fact 21 _ rfl))
    (fn 22 _ _ rfl (fact 22 _ rfl))
    (fn 23 _ _ rfl (fact 23 _ rfl))
    (fn 24 _ _ rfl (fact 24 _ rfl))
    (fn 25 _ _ rfl (fact 25 _ rfl))
    (fn 26 _ _ rfl (fact 26 _ rfl))
    (fn 27 _ _ rfl (fact 27 _ rfl))
    (fn 28 _ _ rfl (fact 28 _ rfl))
    (fn 29 _ _ rfl (fact 29 _ rfl))
    (fn 30 _ _ rfl (fact 30 _ rfl))
    (fn 31 _ _ rfl (fact 31 _ rfl))
    (fn 32 _ _ rfl (fact 32 _ rfl))
    (fn 33 _ _ rfl (fact 33 _ rfl))
    (fn 34 _ _ rfl (fact 34 _ rfl))
    (fn 35 _ _ rfl (fact 35 _ rfl))
    (fn 36 _ _ rfl (fact 36 _ rfl))
    ((let ⟨fd, F⟩ := c.t.d.def_ (i := 37) rfl; ⟨_, _, fd, He.glo_ok X G (fact 102 _ rfl), He.cls_ok (fact 100 _ rfl), He.meth_ok (fact 117 _ rfl), F⟩))
    (fn 38 _ _ rfl (fact 38 _ rfl))
    (fn 39 _ _ rfl (fact 39 _ rfl))
    (fn 40 _ _ rfl (fact 40 _ rfl))
    (fn 41 _ _ rfl (fact 41 _ rfl))
    (fn 42 _ _ rfl (fact 42 _ rfl))
    (fn 43 _ _ rfl (fact 43 _ rfl))
    ((let ⟨fd, F⟩ := c.t.d.def_ (i := 44) rfl; ⟨_, _, fd, He.glo_ok X G (fact 102 _ rfl), He.cls_ok (fact 100 _ rfl), He.meth_ok (fact 118 _ rfl), F⟩))
    (fn 45 _ _ rfl (fact 45 _ rfl))
    (fn 46 _ _ rfl (fact 46 _ rfl))
    (fn 47 _ _ rfl (fact 47 _ rfl))
    ((let ⟨fd, F⟩ := c.t.d.def_ (i := 48) rfl; ⟨_, _, fd, He.glo_ok X G (fact 105 _ rfl), He.mkr_ok (fact 104 _ rfl), F⟩))
    ((let ⟨fd, F⟩ := c.t.d.def_ (i := 49) rfl; ⟨_, _, fd, He.glo_ok X G (fact 102 _ rfl), He.mkr_ok (fact 101 _ rfl), F⟩))
    (fn 50 _ _ rfl (fact 50 _ rfl))
    (fn 51 _ _ rfl (fact 51 _ rfl))
    ((let ⟨fd, F⟩ := c.t.d.def_ (i := 52) rfl; ⟨_, _, fd, He.glo_ok X G (fact 105 _ rfl), He.cls_ok (fact 103 _ rfl), He.meth_ok (fact 119 _ rfl), F⟩))
    ((let ⟨fd, F⟩ := c.t.d.def_ (i := 53) rfl; ⟨_, _, fd, He.glo_ok X G (fact 102 _ rfl), He.cls_ok (fact 100 _ rfl), He.meth_ok (fact 120 _ rfl), F⟩))
    ((let ⟨fd, F⟩ := c.t.d.def_ (i := 54) rfl; ⟨_, _, fd, He.glo_ok X G (fact 102 _ rfl), He.cls_ok (fact 100 _ rfl), He.meth_ok (fact 121 _ rfl), F⟩))
    (fn 55 _ _ rfl (fact 55 _ rfl))
    (fn 56 _ _ rfl (fact 56 _ rfl))
    (fn 57 _ _ rfl (fact 57 _ rfl))
    (ocB_ok (m 17 _ rfl) (He.cls_ok (fact 100 _ rfl)) (He.glo_ok X G (fact 102 _ rfl)))
    (ocB_ok (m 18 _ rfl) (He.cls_ok (fact 103 _ rfl)) (He.glo_ok X G (fact 105 _ rfl)))
    (xcB_ok (m 7 _ rfl) (He.glo_ok X G (fact 91 _ rfl)))
    (xcB_ok (m 8 _ rfl) (He.glo_ok X G (fact 85 _ rfl)))
    (xcB_ok (m 9 _ rfl) (He.glo_ok X G (fact 87 _ rfl)))
    (xcB_ok (m 10 _ rfl) (He.glo_ok X G (fact 86 _ rfl)))
    (xcB_ok (m 11 _ rfl) (He.glo_ok X G (fact 80 _ rfl)))
    (xcB_ok (m 12 _ rfl) (He.glo_ok X G (fact 81 _ rfl)))
    (xcB_ok (m 13 _ rfl) (He.glo_ok X G (fact 97 _ rfl)))
    (xcB_ok (m 14 _ rfl) (He.glo_ok X G (fact 99 _ rfl)))
    (xcB_ok (m 15 _ rfl) (He.glo_ok X G (fact 98 _ rfl)))
    (xaB_ok (m 16 _ rfl) (He.glo_ok X G (fact 79 _ rfl)) (by simp only [resL, List.forall_mem_cons]; exact ⟨He.glo_ok X G (fact 80 _ rfl), He.glo_ok X G (fact 81 _ rfl), He.glo_ok X G (fact 82 _ rfl), He.glo_ok X G (fact 83 _ rfl), He.glo_ok X G (fact 84 _ rfl), He.glo_ok X G (fact 85 _ rfl), He.glo_ok X G (fact 86 _ rfl), He.glo_ok X G (fact 87 _ rfl), He.glo_ok X G (fact 88 _ rfl), He.glo_ok X G (fact 89 _ rfl), He.glo_ok X G (fact 90 _ rfl), He.glo_ok X G (fact 91 _ rfl), He.glo_ok X G (fact 92 _ rfl), He.glo_ok X G (fact 93 _ rfl), He.glo_ok X G (fact 94 _ rfl), He.glo_ok X G (fact 95 _ rfl), He.glo_ok X G (fact 97 _ rfl), He.glo_ok X G (fact 96 _ rfl), He.glo_ok X G (fact 98 _ rfl), He.glo_ok X G (fact 99 _ rfl), fun _ z => nomatch z⟩))
    ((let ⟨fd, F⟩ := c.t.d.def_ (i := 57) rfl; tabF_of (hun c) (List.mem_of_getElem? (i := 0) rfl) (He.glo_ok X G (fact 57 _ rfl)) F tb))
end G6
open PySem PySem.W PySem.Calls PyProof.Rows
theorem PySem.Challenge.cw_slotorders_k20_many_notes_holds : PySem.Challenge.rw_slotorders_k20_many_notes.Holds := by
  w_on; o_law
  refine HandSHeadRun.head_any (r := OpenLaw.row PySem.Challenge.rw_slotorders_k20_many_notes) (q := view (OpenLaw.row PySem.Challenge.rw_slotorders_k20_many_notes).prog [81]) (H := G6.hk) (ob := G6.hob) (M := 20000) (loose := G6.loose) (d := HandSHeadRun.topDef (OpenLaw.row PySem.Challenge.rw_slotorders_k20_many_notes).prog 81) (kwd := []) G6.hob_eq
    (by kernel_rfl) (fun s => by kernel_rfl) G6.run (by kernel_rfl) (by kernel_rfl) (by kernel_rfl) (by rfl) (by first | assumption | decide +kernel) (by decide +kernel) ⟨rfl, rfl, rfl, rfl, rfl, by decide +kernel⟩ ?hw ?hc
  case hw => w_witness2
  case hc =>
    refine LamX.walk_ofTsE (l := PySem.Challenge.rw_slotorders_k20_many_notes) (n := 63) (k := 10) (x := "script") (CX := fun w => L2.CX (PySem.Challenge.rw_slotorders_k20_many_notes).prog w) rfl (by decide) (by kernel_rfl) ⟨rfl, by decide, by decide⟩ ?F (fun _ _ _ _ _ z => DL.no_cx z)
    intro w mg fa h Y G hmg0
    obtain ⟨K, KX, c⟩ := Y
    have hmg : mg ("law" : PySem.Str) = some (.ref fa) := by
      have e : (HandSHeadRun.topDef (OpenLaw.row PySem.Challenge.rw_slotorders_k20_many_notes).prog 81).name = ("law" : PySem.Str) := by kernel_rfl
      rw [← e]
      exact hmg0
    refine ⟨K, KX, ?_⟩
    obtain ⟨fd, F⟩ := c.t.d.def_ (i := 57) rfl
    have ef : fa = He.ga K "law" := by
      have e := He.glo_ok (x := "law") KX G (c.t.d.fact 57 rfl)
      rw [hmg] at e
      cases e
      rfl
    subst ef
    exact DL.law_at KX c (G6.hun c) F (fun _ _ _ _ _ _ us hl => match us, hl with | [_], _ => rfl) fun base tb => @G6.ok_law (DL.nmOf K G6.htf (G6.hun c)) _ _ _ _ _ (G6.tx KX G c tb) _ _ hmg F G6.law_ok
