import PyProof.Rows.All
import Wide.All
import OpenK.AllK
import Wide.FinOn
import HandS.HeadWalk
import HandS.EndTab
import HandS.HeadHook4
import HandS.Head2
import HandS.Words
import HandS.ForMost
import HandS.TupAny
import HandS.TupMul
import HandS.Conv
import KE.KIndexOf
import PyProof.Rows.SeqMore
import HandS.ForExc
import HandS.Evl
import HandS.Deep
import HandS.IsInst
import HandS.Zip
import HandS.SortInts
import HandS.Wide
import HandS.Lambda
import HandS.Defaults
import HandS.Head0
import HandS.Head1
import HandS.HeadEnd
import HandS.HeadHook1
import HandS.HeadHook2
import HandS.HeadHook3
import HandS.EndBits
import HandS.WordsExc
import KE.SortData
import HandS.ExcIs
import HandS.Iter
import HandS.Style
import PyProof.EnumMake
import KE.GoesMore
import KE.DataFind
import PyProof.SeqIndex
import PyProof.SliceList
import PyProof.Rows.SetFrom
import KE.KTupSum
import HandS.SetFor
import HandS.Strs
import KE.DataMinMax
import HandS.Text
import HandS.Codes
import KE.KDictPairs
import KE.GoesComp
import PyProof.StrBlock2
import HandS.TupSets
import KE.KeyNested
import PySem.Challenge.RW_slotorders_k02_all_ways
set_option Elab.async false
set_option linter.all false
set_option maxRecDepth 100000
set_option maxHeartbeats 0
/-! what is looked at behind the head, ahead of all else (the head's run is the heaviest step: it stands first in a claim) -/
namespace DH
open PySem PySem.Spec PyProof.Rows L2
def tupN (K : PySem.W.Frag) (x : Str) (vs : List He.Dv) : Bool := match K.lookup (He.ga K x) with
  | some ⟨.type c, none, .seq its _, _⟩ => decide (c = "tuple") && (decide (its.size ≤ sizeLine) && He.relAll (vs.map (He.Dv.v K)) its.toList)
  | _ => false
/-- the i-th item of the module's tuple x -/
def inAt (x : Str) (i : Nat) (K : PySem.W.Frag) : Addr := match K.lookup (He.ga K x) with
  | some ⟨_, _, .seq its _, _⟩ => (match its.toList[i]? with
    | some (.ref a) => a
    | _ => 0)
  | _ => 0
def tupM (K : PySem.W.Frag) (a : Addr) (vs : List He.Dv) : Bool := match K.lookup a with
  | some ⟨.type c, none, .seq its _, _⟩ => decide (c = "tuple") && (decide (its.size ≤ sizeLine) && He.relAll (vs.map (He.Dv.v K)) its.toList)
  | _ => false
abbrev veL : List Value := [.type "ValueError", .type "Exception", .type "BaseException", .type "object"]
def resL : List (Str × Str) := [("InvalidWay", "way"), ("InvalidWays", "ways"), ("InvalidSize", "size"), ("InvalidKey", "key"), ("InvalidKeys", "all"), ("InvalidRow", "row"), ("InvalidSight", "sight"), ("InvalidSeen", "seen"), ("InvalidOrder", "order"), ("InvalidTable", "table"), ("InvalidNumber", "number"), ("InvalidDeed", "deed"), ("InvalidText", "text"), ("TooLarge", "large"), ("Alike", "alike"), ("Sound", "sound"), ("NotShown", "shown"), ("NoRow", "there"), ("TooMany", "many"), ("NothingToUndo", "undo")]
def xcB (K : PySem.W.Frag) (x : Str) : Bool := PySem.W.excIn K (He.ga K x) veL "ValueError.__new__" && (PySem.W.keepIn K (.ref (He.ga K x)) && (decide (PySem.W.subIn K (.ref (He.ga K x)) (.type "BaseException") = some true) && decide (PySem.W.typeIn K (.ref (He.ga K x)) = some (.type "type"))))
def ecB (K : PySem.W.Frag) (D : Addr) : Bool := decide (PySem.W.findIn K (.ref D) "__getattribute__" = some (some (.builtin "BaseException.__getattribute__"))) && (decide (PySem.W.findIn K (.ref D) "__getattr__" = some none) && (decide (PySem.W.subIn K (.ref D) (.type "BaseException") = some true) && (PySem.W.hasDictIn K D
  && (decide (PySem.W.findIn K (.ref D) "__class__" = some (some (.builtin "object.__class__"))) && (decide (PySem.W.specialIn K (.builtin "object.__class__") "__get__" = some (some (.builtin "getset_descriptor.__get__"))) && (decide (PySem.W.takesIn K (.builtin "object.__class__") = some true) && decide (PySem.W.mroIn K D (.type "object") = some true)))))))
def xaB (K : PySem.W.Frag) : Bool := resL.all fun p => ecB K (He.ga K p.1) && (decide (PySem.W.kitOne K (.ref (He.ga K p.1)) (.type "ValueError") = some true) && (decide (PySem.W.exmOne K (.ref (He.ga K p.1)) (.ref (He.ga K "SlotError")) = some true) && resL.all fun q => decide (PySem.W.kitOne K (.ref (He.ga K p.1)) (.ref (He.ga K q.1)) = some (decide (p.1 = q.1)))))
def tabsOf (K : PySem.W.Frag) (tf : List He.Defn) : List (Addr × Str) := tf.map fun p => ((He.cT K p).2, p.1 ++ ".<locals>." ++ "<lambda>")
def uniqB (l : List (Addr × Str)) : Bool := l.all fun p => l.all fun q => !decide (p.1 = q.1) || decide (p.2 = q.2)
end DH

namespace G6
open PySem PySem.Spec L2 DH
def top (i : Nat) : Stmt := PySem.Challenge.pw_slotorders_k02_all_ways.main.body.getD i (.Pass ⟨0, 0, 0, 0⟩)
def dOf (n : Str) (i : Nat) : He.DefD := ⟨(n, none), n, n, defArgs (top i), defBody (top i), defScope (top i), [], []⟩
def hfn : List He.DefD := [dOf "is_word" 6, dOf "_law_draw" 11, dOf "_law_begun" 12, dOf "_law_count" 14, dOf "is_slot_way" 7, dOf "_law_way" 13, dOf "is_way" 8, dOf "all_ways" 9, dOf "law" 15]
def hfa : List He.Fa := [.glo "is_word", .glo "_law_draw", .glo "_law_begun", .glo "_law_count", .glo "is_slot_way", .glo "_law_way", .glo "is_way", .glo "all_ways", .glo "law", .glo "HOMES", .glo "STEPS", .glo "COMES", .glo "GONES", .glo "GROWS", .free "all", .free "isinstance", .free "len", .free "list", .free "range", .free "set", .free "sorted", .free "str", .free "tuple"]
def htf : List He.Defn := []
def hex (K : PySem.W.Frag) : Bool := [tupN K "HOMES" [.str "low", .str "fold"], tupN K "STEPS" [.str "up", .str "down", .str "wide", .str "own"], tupN K "COMES" [.str "late", .str "empty", .str "near", .str "first"], tupN K "GONES" [.str "mark", .str "hole", .str "again", .str "pull"], tupN K "GROWS" [.str "half", .str "three", .str "full"], uniqB (tabsOf K htf)].all id
abbrev R : PySem.W.OpenRow := PySem.W.OpenLaw.row PySem.Challenge.rw_slotorders_k02_all_ways
abbrev hk : PySem.W.Hook := He.hookX 4 hfa hfn [] htf hex
def hob (s : PySem.W.SharedT) : He.AlX := He.obsX 4 hfa hfn [] htf hex (HandSHeadRun.getT s)
theorem hob_eq (s : PySem.W.SharedT) : hob s = hk.obs s.abs := He.obsX_eq (HandSHeadRun.getT_eq s)
def loose : List PySem.Str := [("HOMES" : PySem.Str), ("STEPS" : PySem.Str), ("COMES" : PySem.Str), ("GONES" : PySem.Str), ("GROWS" : PySem.Str), ("is_word" : PySem.Str), ("is_slot_way" : PySem.Str), ("is_way" : PySem.Str), ("all_ways" : PySem.Str), ("_law_draw" : PySem.Str), ("_law_begun" : PySem.Str), ("_law_way" : PySem.Str), ("_law_count" : PySem.Str)]
theorem run (w : World) : HandSHeadRun.RunEq R (PySem.W.view R.prog [15]) hk hob 20000 loose w := by
  intro os
  kernel_rfl
end G6

namespace DL
open PySem PySem.Spec PyProof.Rows L2
/-! ### tuples that have no attributes of their own: known to the object -/
/-- a new tuple's object -/
def tupO (its : List Value) (n : Nat) : Obj := { cls := .type "tuple", data := .seq its.toArray n }
def TqT (K : PySem.W.Frag) (H : Hp) (a : Addr) (xs : List V) : Prop := (∃ o : Obj, o.dict = none ∧ H a = some (.frz o (.tup xs))) ∨
  ∃ (o : Obj) (its : Array Value) (n : Nat), K.lookup a = some o ∧ o.cls = .type "tuple" ∧ o.dict = none ∧ o.data = .seq its n ∧ its.size ≤ sizeLine ∧ Vals xs its.toList
theorem TqT.sq {K : PySem.W.Frag} {H : Hp} {a : Addr} {xs : List V} (h : TqT K H a xs) : SqT K H a xs := by
  rcases h with ⟨o, _, h⟩ | ⟨o, its, n, h1, h2, _, h4, h5, h6⟩
  · exact .inl (.inr ⟨o, h⟩)
  · exact .inr ⟨o, its, n, h1, h2, h4, h5, h6⟩
/-- what a rule says of a new tuple -/
def NewT (xs : List V) (H : Hp) (Q : VK) : Prop := ∀ p o, H p = none → o.dict = none → Q (.ref p) (upd H p (.frz o (.tup xs)))
section
variable {X : Cx} {pins : List (Addr × Obj)} {σ : L2.St} {H : Hp} {s : Shared} {h' : Heap} {Q : VK}
theorem laidT {a : Addr} {xs : List V} {its : List Value} {n tk : Nat} (I : Inv X pins σ H s) (k : ∀ b u, s.heap.get? b = some u → h'.get? b = some u) (le : s.heap.objs.size ≤ a) (e : h'.get? a = some (tupO its n)) (r : Vals xs its) (hz : xs.length ≤ sizeLine) (q : NewT xs H Q) :
    EP X pins σ Q (.ref a) { s with heap := h', toks := tk } :=
  ⟨.ref a, upd H a (.frz (tupO its n) (.tup xs)), I.laid k le (show ObjOk X.prog X.w _ h' a (.frz (tupO its n) (.tup xs)) from ⟨e, hz, its, r, _, e, rfl, n, rfl⟩), rfl, q a _ (I.hok.fresh le) rfl⟩
/-- (a, b, ..) -/
def tTupF (t : TA) : TE := fun σ H Q => t σ H fun xs H1 => xs.length ≤ sizeLine ∧ NewT xs H1 Q
theorem pe_tupF {es : List Expr} {t : TA} {pos : Pos} {x1} (h : PA X es t) : PE X (.Tuple es x1 pos) (tTupF t) :=
  ⟨fun pins s σ H Q I hq => wpAny_Tuple_spliced (thn (h.run pos pins s σ H _ I hq) fun us s1 ⟨xs, H1, I1, r, z, q⟩ => ⟨by rw [← r.length]; exact z,
    laidT (n := 0) (tk := s1.toks) I1 (fun b u e => Heap.get?_push_of_some _ e) (Nat.le_refl _) (Heap.get?_push_size _ rfl) r z q⟩)⟩
/-- tuple(xs) -/
def rTupF (K : PySem.W.Frag) : List V → Hp → VK → Prop := fun xs H Q => ∃ p ys, xs = [.ref p] ∧ ((SqL K H p ys ∧ NewT ys H Q) ∨ (SqT K H p ys ∧ Q (.ref p) H))
theorem call_tupF : CallR X (.type "tuple") (rTupF X.K) := by
  intro pins s σ H xs us Q I r h
  obtain ⟨p, ys, rfl, h⟩ := h
  obtain ⟨u, rfl, ru⟩ := vals1 r
  cases ru
  rcases h with ⟨hq, q⟩ | ⟨hq, q⟩
  · obtain ⟨its, rv, pl, hz⟩ := I.list hq
    have hl := rv.length
    refine call_tuple_list pl.isList (fun h1 kp => ?_) (by rw [List.size_toArray]; omega)
    have I1 : Inv X pins σ H { s with heap := h1 } := I.kept (t' := s.toks) kp
    exact laidT (s := { s with heap := h1 }) (n := 0) (tk := s.toks) I1 (fun b o e => Heap.get?_push_of_some _ e) (Nat.le_refl _) (Heap.get?_push_size _ rfl) rv hz q
  · obtain ⟨its, rv, pl, hz⟩ := I.tuple hq
    exact call_tuple_same pl ⟨.ref p, H, I, rfl, q⟩
/-- tuple(range(..)) -/
def tTupRgF (te : L2.St → Hp → (Int → Int → Hp → Prop) → Prop) : TE := fun σ H Q => te σ H fun a b H1 => RgOk a b ∧ NewT (rgV a b) H1 Q
theorem pe_tupRgF {e : Expr} {te : L2.St → Hp → (Int → Int → Hp → Prop) → Prop} {p pos : Pos} (hc : X.calm = true) (hg : Gl X "tuple") (hm : X.mg "tuple" = none) (he : PRg X e te) (na : starEach [e] X.env = (false, eval e X.env) :: starEach [] X.env := by rfl) : PE X (.Call (.Name "tuple" p) [e] [] pos) (tTupRgF te) := by
  refine ⟨fun pins s σ H Q I h => Call_ (ld_blt I hg hm boot_tuple (PyProof.Rows.callWith_type1 (args_cons (thn (he pins s σ H _ I h) fun x s1 ⟨r, a, b, t, u, v, H1, ex, hr, I1, ok, q⟩ => args_nil ?_) na) na))⟩
  subst ex
  obtain ⟨b1, b2, b3, b4, b5⟩ := ok
  refine call_tuple_range (n := (b - a).toNat) (I1.ok.hd hc) hr (small_one b1 b2 b3 b4) (rangeSize_nat a b) b5 fun h1 tk acc hk hi => ?_
  have I2 : Inv X pins σ H1 { s1 with heap := h1, toks := tk } := I1.kept (t' := tk) hk
  refine laidT (s := { s1 with heap := h1, toks := tk }) (n := 0) (tk := tk) (its := acc.toList) I2 (fun c o e => Heap.get?_push_of_some _ e) (Nat.le_refl _) ?_ (vals_rg hi) ?_ q
  · unfold tupO
    rw [Array.toArray_toList]
    exact Heap.get?_push_size _ rfl
  · rw [rgV_length, sizeLine_eq]
    omega
/-- t + u -/
def rCatF (K : PySem.W.Frag) : R2 := fun x y H Q => ∃ a b xs ys, x = .ref a ∧ y = .ref b ∧ SqT K H a xs ∧ SqT K H b ys ∧ xs.length + ys.length ≤ sizeLine ∧
  (xs = [] → Q (.ref b) H) ∧ (xs ≠ [] → ys = [] → Q (.ref a) H) ∧ (xs ≠ [] → ys ≠ [] → NewT (xs ++ ys) H Q)
theorem op_catF : OpR X (binaryOp .Add) (rCatF X.K) := by
  intro pins s σ H x y v u Q I rx ry h
  obtain ⟨a, b, xs, ys, rfl, rfl, ha, hb, hz, q0, q1, q2⟩ := h
  cases rx
  cases ry
  obtain ⟨its, r1, p1, _⟩ := I.tuple ha
  obtain ⟨its2, r2, p2, _⟩ := I.tuple hb
  by_cases hx : xs = []
  · subst hx
    cases r1
    exact cat_tup0 p1 p2 ⟨.ref b, H, I, rfl, q0 rfl⟩
  · refine HT.cat_tup p1 p2 (fun z => hx (r1.nil_iff.mp z)) (fun z => ⟨.ref a, H, I, rfl, q1 hx (r2.nil_iff.mp z)⟩) (fun z => ?_) (by rw [← r1.length, ← r2.length]; exact hz)
    exact laidT (n := 0) (tk := s.toks) I (fun b ob q => Heap.get?_push_of_some _ q) (Nat.le_refl _) (Heap.get?_push_size _ rfl) (r1.append r2) (by rw [List.length_append]; exact hz) (q2 hx fun w => z (r2.nil_iff.mpr w))
/-- t[lo:hi] -/
def rSlF (K : PySem.W.Frag) : V → Option Int → Option Int → Hp → VK → Prop := fun x lo hi H Q => ∃ a xs, x = .ref a ∧ SqT K H a xs ∧
  (HT.sIx xs.length 0 lo = 0 ∧ HT.sIx xs.length xs.length hi = xs.length → Q (.ref a) H) ∧ (¬ (HT.sIx xs.length 0 lo = 0 ∧ HT.sIx xs.length xs.length hi = xs.length) → NewT (cutV xs lo hi) H Q)
theorem sl_tupF : SlR X (rSlF X.K) := by
  intro pins s σ H x v vl vu lo hi sl Q I rx hs pl pu h
  obtain ⟨a, xs, rfl, hx, q1, q2⟩ := h
  cases rx
  obtain ⟨its, r, ht, hz⟩ := I.tuple hx
  have hlen : its.toArray.size = xs.length := by
    rw [List.size_toArray]
    exact r.length.symm
  refine ⟨"tuple", _, PyProof.Rows.slot_tuple_getitem.lookup, ht.typeIs, ?_⟩
  by_cases hw : HT.sIx xs.length 0 lo = 0 ∧ HT.sIx xs.length xs.length hi = xs.length
  · exact getItem_tuple_whole ht hs pl pu (by rw [hlen]; exact hw) ⟨.ref a, H, I, rfl, q1 hw⟩
  · refine HT.getItem_tuple_cut ht hs pl pu (by rw [hlen]; exact hw) ?_ (by rw [hlen]; exact hz)
    rw [hlen]
    exact laidT (n := 0) (tk := s.toks) I (fun b ob q => Heap.get?_push_of_some _ q) (Nat.le_refl _) (Heap.get?_push_size _ rfl) ((r.drop _).take _) (Nat.le_trans (cutV_length xs lo hi) hz) (q2 hw)
/-- t * k -/
def rRepF (K : PySem.W.Frag) : R2 := fun x y H Q => ∃ l k xs, x = .ref l ∧ y = .int k ∧ SqT K H l xs ∧ xs ≠ [] ∧ 2 ≤ k ∧ k ≤ 1000 ∧ xs.length ≤ 1000 ∧ NewT (List.replicate k.toNat xs).flatten H Q
theorem op_repF : OpR X (binaryOp .Mult) (rRepF X.K) := by
  intro pins s σ H x y v u Q I rx ry h
  obtain ⟨l, k, xs, rfl, rfl, hT, hne, h1, h2, hz, q⟩ := h
  cases rx
  obtain ⟨t, rfl⟩ := ry
  obtain ⟨its, r, ⟨⟨cls, dd, data, sl⟩, ho, hc, n, hd⟩, hs⟩ := I.tuple hT
  replace hc : cls = .type "tuple" := hc
  replace hd : data = .seq its.toArray n := hd
  subst hc hd
  have hlen : its.toArray.size = xs.length := by
    rw [List.size_toArray]
    exact r.length.symm
  have emp : its.toArray.isEmpty = false := by
    cases r with
    | nil => exact absurd rfl hne
    | cons _ _ => rfl
  have prod : k.toNat * xs.length ≤ 1000 * 1000 := Nat.mul_le_mul (by omega) hz
  have prodI : ((its.toArray.size : Nat) : Int) * k ≤ 1000000 := by
    rw [hlen]
    have : ((xs.length : Nat) : Int) * k ≤ 1000 * k := Int.mul_le_mul_of_nonneg_right (by omega) (by omega)
    omega
  have c0 : (decide (k < -(2 ^ 63)) || decide (k ≥ 2 ^ 63)) = false := by simp; omega
  have c1 : (its.toArray.isEmpty || k == 1) = false := by rw [emp]; simp; omega
  have c2 : (decide (k ≤ 0) || its.toArray.isEmpty) = false := by rw [emp]; simp; omega
  have c4 : Builtin.Tuple.tupleTooMany (((its.toArray.size : Nat) : Int) * k) = false := by
    unfold Builtin.Tuple.tupleTooMany
    rw [sizeLine_eq]
    exact decide_eq_false (by omega)
  have c5 : (List.replicate k.toNat its).flatten.length ≤ sizeLine := by
    rw [PyProof.Rows.lm_len_rep_flat, ← r.length, sizeLine_eq]
    omega
  have mul := tuple_mulW l its.toArray n dd sl k t c0 c1 c2 (by omega) c4 (by rw [size_rep, List.size_toArray]; exact c5)
  refine wpAny_binaryOp_repeat_ref (T := "tuple") (U := "int") (by decide) ⟨_, ho, rfl⟩ (fun s' => typeIs_int s' k t) noFill_tuple_mul F.fills_int_mul F.slot_int_rmul repeat_tuple F.slot_int_index.lookup ?_
  refine call_meets F.slot_int_rmul (typeIs_int s k t) F.entry_int_rmul (F.args_int_rmul_2 _ _) (int_rmul_tuple k t l its.toArray n dd sl) ⟨ho, rfl, ⟨_, ho, rfl⟩, ?_⟩
  refine call_meets F.slot_tuple_mul ⟨_, ho, rfl⟩ F.entry_tuple_mul (F.args_tuple_mul_2 _ _) mul ⟨ho, ?_⟩
  rw [size_rep]
  refine laidT (n := 0) (tk := s.toks) I (fun b ob q => Heap.get?_push_of_some _ q) (Nat.le_refl _) (Heap.get?_push_size _ rfl) (r.rep k.toNat) ?_ q
  rw [PyProof.Rows.lm_len_rep_flat, sizeLine_eq]
  omega
/-! ### t.m(..) of such a tuple -/
theorem TqT.ty {a : Addr} {xs : List V} (I : Inv X pins σ H s) (h : TqT X.K H a xs) : s.TypeIs (.ref a) "tuple" ∧ ∀ b, Value.ref a = .ref b → ∃ ob, s.heap.get? b = some ob ∧ ob.dict = none := by
  rcases h with ⟨o, hd, e⟩ | ⟨o, its, n, hk, hc, hd, _⟩
  · obtain ⟨g, hz, its, r, o', g', hc, _⟩ := I.hok a _ e
    rw [g] at g'
    cases g'
    exact ⟨⟨_, g, hc⟩, fun b z => by cases z; exact ⟨_, g, hd⟩⟩
  · exact ⟨⟨_, I.kIn a o hk, hc⟩, fun b z => by cases z; exact ⟨_, I.kIn a o hk, hd⟩⟩
def tBMT (K : PySem.W.Frag) (r : V → List V → Hp → VK → Prop) (to : TE) (t : TA) : TE := fun σ H Q => to σ H fun x H1 => (∃ a xs, x = .ref a ∧ TqT K H1 a xs) ∧ t σ H1 fun ys H2 => r x ys H2 Q
theorem pe_bmT {id : String} {name : Str} {r : V → List V → Hp → VK → Prop} {o e : Expr} {es : List Expr} {to : TE} {t : TA} {apos cpos : Pos} (slot : Slot "tuple" name id) (hty : typeOf (.builtin id) = pure (.type "method_descriptor")) (hm : MtR X id r) (ho : PE X o to) (ha : PA X (e :: es) t)
    (hbase : attributeBase o name X.env (eval o X.env) = eval o X.env := by rfl)
    (hfew : ((backTo cpos (starEach (e :: es) X.env)).all (fun x => !x.1) && (backToKw cpos (keywordEach [] X.env)).all (fun x => x.1.isSome) && decide ((e :: es).length + ([] : List Keyword).length + (if ([] : List Keyword).isEmpty then 0 else 1) < 30)) = true := by rfl)
    (hline : (apos.endLine == cpos.line) = true := by rfl) (hs : starEach (e :: es) X.env = (false, eval e X.env) :: starEach es X.env := by rfl) (hplain : (backTo cpos (starEach es X.env)).any (·.1) = false := by rfl) :
    PE X (.Call (.Attribute o name apos) (e :: es) [] cpos) (tBMT X.K r to t) := by
  refine ⟨fun pins s σ H Q I h => wpAny_Call_method_late hbase hfew hline rfl (thn (ho.run pins s σ H _ I h) fun v s1 ⟨x, H1, I1, r1, ⟨a, xs, ex, ty⟩, q1⟩ => ?_)⟩
  subst ex
  cases r1
  obtain ⟨h1, h2⟩ := ty.ty I1
  refine ⟨"tuple", id, PySem.F.plainAttrs_tuple, slot, hty, h1, h2, ?_⟩
  have hA := ha.run cpos pins s1 σ H1 _ I1 q1
  rw [hs] at hA ⊢
  refine Calls.callWith_builtin (by show (false || (backTo cpos (starEach es X.env)).any (·.1)) = false; rw [hplain] <;> rfl) (Calls.evalArgs_plain ?_)
  exact thn hA fun us s2 ⟨vs, H2, I2, r2, q2⟩ => hm pins s2 σ H2 (.ref a) vs (.ref a) us Q I2 (show RelV (.ref a) (.ref a) from rfl) r2 q2
/-- ints: where, how often -/
def mIxL (K : PySem.W.Frag) : V → List V → Hp → VK → Prop := fun x xs H Q => ∃ (a : Addr) (ns : List Int) (k : Int), x = .ref a ∧ xs = [.int k] ∧ SqL K H a (ns.map V.int) ∧ k ∈ ns ∧ Q (.int (ns.idxOf k : Nat)) H
theorem mt_ixL : MtR X "list.index" (mIxL X.K) := by
  intro pins s σ H x xs v us Q I rx rxs h
  obtain ⟨a, ns, k, rfl, rfl, hs, hk, q⟩ := h
  cases rx
  obtain ⟨u, rfl, t, rfl⟩ := vals1 rxs
  obtain ⟨its, rv, hl, hz⟩ := I.list hs
  exact PySem.SeqAt.list_index_ints hl.isList rv.ints (by rw [List.length_map] at hz; exact hz) hk ⟨.int _, H, I.tok _, ⟨_, rfl⟩, q⟩
def mIxT (K : PySem.W.Frag) : V → List V → Hp → VK → Prop := fun x xs H Q => ∃ (a : Addr) (ns : List Int) (k : Int), x = .ref a ∧ xs = [.int k] ∧ SqT K H a (ns.map V.int) ∧ k ∈ ns ∧ Q (.int (ns.idxOf k : Nat)) H
theorem mt_ixT : MtR X "tuple.index" (mIxT X.K) := by
  intro pins s σ H x xs v us Q I rx rxs h
  obtain ⟨a, ns, k, rfl, rfl, hs, hk, q⟩ := h
  cases rx
  obtain ⟨u, rfl, t, rfl⟩ := vals1 rxs
  obtain ⟨its, rv, hl, hz⟩ := I.tuple hs
  exact PySem.SeqAt.tuple_index_ints hl rv.ints hk ⟨.int _, H, I.tok _, ⟨_, rfl⟩, q⟩
def mCtL (K : PySem.W.Frag) : V → List V → Hp → VK → Prop := fun x xs H Q => ∃ (a : Addr) (ns : List Int) (k : Int), x = .ref a ∧ xs = [.int k] ∧ SqL K H a (ns.map V.int) ∧ Q (.int (ns.count k : Nat)) H
theorem mt_ctL : MtR X "list.count" (mCtL X.K) := by
  intro pins s σ H x xs v us Q I rx rxs h
  obtain ⟨a, ns, k, rfl, rfl, hs, q⟩ := h
  cases rx
  obtain ⟨u, rfl, t, rfl⟩ := vals1 rxs
  obtain ⟨its, rv, hl, hz⟩ := I.list hs
  exact count_list_ints hl.isList rv.ints ⟨.int _, H, I.tok _, ⟨_, rfl⟩, q⟩
end
end DL

/-! DL: a layer of plain data over the hand layer. Values are told by plain data, whatever their places; a piece of code is read as a function from data to what is wanted of data. -/
namespace DL
open PySem PySem.Spec L2

abbrev D := PyData
/-- what is wanted of a value, and of an exception by its class's name -/
abbrev WD (α : Type) := (α → Prop) → (Str → Prop) → Prop

/-! ### objects that are no data: told by a relation of one's own, over what is no list -/
/-- a list, a dict: what may change -/
def Mb (o : HO) : Prop := (∃ xs, o = .lst xs) ∨ ∃ k, o = .dK k
/-- what shifts: a table of code objects -/
def Sf (o : HO) : Prop := ∃ ps, o = .tbl ps
def Nl (H H' : Hp) : Prop := ∀ a o, H a = some o → ¬ Mb o → ¬ Sf o → H' a = some o
/-- the names of the code objects of a table -/
class Nm where
  tabs : List (Addr × Str)
  uniq : ∀ p ∈ tabs, ∀ q ∈ tabs, p.1 = q.1 → p.2 = q.2
def TabOk [Nm] (H : Hp) : Prop := LamX.Tabs Nm.tabs H
/-- what stood stands, but for what shifts, and that is still sound -/
structure Same [Nm] (H H' : Hp) : Prop where
  all : ∀ a o, H a = some o → ¬ Sf o → H' a = some o
  tab : TabOk H → TabOk H'
theorem Same.refl [Nm] (H : Hp) : Same H H := ⟨fun _ _ h _ => h, fun h => h⟩
theorem Same.trans [Nm] {H H1 H2 : Hp} (a : Same H H1) (b : Same H1 H2) : Same H H2 := ⟨fun c o h n => b.all c o (a.all c o h n) n, fun h => b.tab (a.tab h)⟩
theorem Same.of [Nm] {H H' : Hp} (s : L2.Same H H') : Same H H' := ⟨fun a o h _ => s a o h, fun t => LamX.Tabs.ext t s⟩
/-- nothing that stays -/
def Nn (H : Hp) (a : Addr) : Prop := ∀ o, H a = some o → Sf o
theorem nn {H : Hp} {a : Addr} (h : H a = none) : Nn H a := fun o e => by
  rw [h] at e
  cases e
theorem Nn.ne {H : Hp} {a p : Addr} {o : HO} (n : Nn H p) (e : H a = some o) (z : ¬ Sf o) : a ≠ p := fun q => by
  subst q
  exact z (n o e)
theorem Same.free [Nm] {H H' : Hp} (s : Same H H') {a : Addr} (n : Nn H' a) : Nn H a := fun o e => Classical.byContradiction fun z => z (n o (s.all a o e z))
theorem no_lst {xs : List V} : ¬ Sf (.lst xs) := fun ⟨_, e⟩ => nomatch e
theorem no_tup {xs : List V} : ¬ Sf (.tup xs) := fun ⟨_, e⟩ => nomatch e
theorem no_dk {k : List (Key × V)} : ¬ Sf (.dK k) := fun ⟨_, e⟩ => nomatch e
theorem no_frz {o : Obj} {u : HO} : ¬ Sf (.frz o u) := fun ⟨_, e⟩ => nomatch e
theorem no_ext {φ : Heap → Prop} : ¬ Sf (.ext φ) := fun ⟨_, e⟩ => nomatch e
theorem no_mb {o : HO} (h : Mb o) : ¬ Sf o := fun ⟨_, e⟩ => by
  subst e
  rcases h with ⟨_, e⟩ | ⟨_, e⟩ <;> cases e
structure Ob where
  ro : PySem.W.Frag → Hp → V → List (D × D) → Prop
  isRef : ∀ {K : PySem.W.Frag} {H : Hp} {v : V} {k : List (D × D)}, ro K H v k → ∃ a, v = .ref a
  keep : ∀ {K : PySem.W.Frag} {H H' : Hp} {v : V} {k : List (D × D)}, Nl H H' → ro K H v k → ro K H' v k
def Ob.no : Ob := ⟨fun _ _ _ _ => False, fun h => h.elim, fun _ h => h⟩
theorem Nl.of [Nm] {H H' : Hp} (s : Same H H') : Nl H H' := fun a o h _ n => s.all a o h n
theorem TabS_upd {H : Hp} {p P : Addr} {q : Str} {o o5 : HO} (t : LamX.TabS H P q) (e : H p = some o5) (m : Mb o5) : LamX.TabS (upd H p o) P q := by
  obtain ⟨ps, h1, h2, h3⟩ := t
  have ne : ∀ {b : Addr} {u : HO}, H b = some u → ¬ Mb u → b ≠ p := fun {b u} eb nu z => by
    subst z
    rw [e] at eb
    cases eb
    exact nu m
  refine ⟨ps, by rw [upd_ne (ne h1 fun z => no_mb z ⟨_, rfl⟩)]; exact h1, h2, fun pos cv hc => ?_⟩
  obtain ⟨c, e1, e2⟩ := h3 pos cv hc
  refine ⟨c, e1, ?_⟩
  rw [upd_ne (ne e2 fun z => by rcases z with ⟨_, z⟩ | ⟨_, z⟩ <;> cases z)]
  exact e2
theorem TabOk.upd [Nm] {H : Hp} {p : Addr} {o o5 : HO} (t : TabOk H) (e : H p = some o5) (m : Mb o5) : TabOk (L2.upd H p o) := fun a z => TabS_upd (t a z) e m
theorem Same.upd [Nm] {H H' : Hp} {p : Addr} {o o5 : HO} (s : Same H H') (n : Nn H p) (e : H' p = some o5) (m : Mb o5) : Same H (L2.upd H' p o) :=
  ⟨fun a u h z => by rw [upd_ne (n.ne h z)]; exact s.all a u h z, fun t => (s.tab t).upd e m⟩
theorem mb_lst {xs : List V} : Mb (.lst xs) := .inl ⟨_, rfl⟩
theorem mb_dk {k : List (Key × V)} : Mb (.dK k) := .inr ⟨_, rfl⟩
theorem not_mb_tup {xs : List V} : ¬ Mb (.tup xs) := fun h => by
  rcases h with ⟨_, e⟩ | ⟨_, e⟩ <;> cases e
theorem not_mb_frz {o : Obj} {u : HO} : ¬ Mb (.frz o u) := fun h => by
  rcases h with ⟨_, e⟩ | ⟨_, e⟩ <;> cases e
theorem not_mb_ext {f : Heap → Prop} : ¬ Mb (.ext f) := fun h => by
  rcases h with ⟨_, e⟩ | ⟨_, e⟩ <;> cases e
theorem Nl.rd {H H' : Hp} {a : Addr} {u : HO} (n : Nl H H') (h : Rd H a u) (hu : ¬ Mb u) (hs : ¬ Sf u) : Rd H' a u := by
  rcases h with h | ⟨o, h⟩
  · exact .inl (n a _ h hu hs)
  · exact .inr ⟨o, n a _ h not_mb_frz no_frz⟩
theorem Nl.tup {K : PySem.W.Frag} {H H' : Hp} {a : Addr} {xs : List V} (n : Nl H H') (h : TqT K H a xs) : TqT K H' a xs := by
  rcases h with ⟨o, h1, h2⟩ | h
  · exact .inl ⟨o, h1, n a _ h2 not_mb_frz no_frz⟩
  · exact .inr h

def kD : Key → D
  | .inl i => .int i
  | .inr x => .str x
/-- a dict as data -/
def dictE (ds : List (Key × D)) : D := .dict (ds.map fun p => (kD p.1, p.2))
/-- .. that is never written again -/
def dictZ (ds : List (Key × D)) : D := .dict ((.bool true, .none) :: ds.map fun p => (kD p.1, p.2))
mutual
/-- v stands for the data d; its lists are none of P -/
inductive Dv (O : Ob) (K : PySem.W.Frag) (H : Hp) (P : Addr → Prop) : V → D → Prop
  | non : Dv O K H P .non .none
  | bl (b : Bool) : Dv O K H P (.bl b) (.bool b)
  | int (i : Int) : Dv O K H P (.int i) (.int i)
  | str (x : Str) : PyData.strOk x = true → Dv O K H P (.str x) (.str x)
  | lst {a : Addr} {xs : List V} {ds : List D} : H a = some (.lst xs) → ¬ P a → DvAll O K H P xs ds → Dv O K H P (.ref a) (.list ds)
  | tup {a : Addr} {xs : List V} {ds : List D} : TqT K H a xs → DvAll O K H P xs ds → Dv O K H P (.ref a) (.tuple ds)
  | dct {a : Addr} {kvs : List (Key × V)} {ds : List (Key × D)} : H a = some (.dK kvs) → ¬ P a → kvs.map (·.1) = ds.map (·.1) → DvAll O K H P (kvs.map (·.2)) (ds.map (·.2)) → Dv O K H P (.ref a) (dictE ds)
  | dcz {a : Addr} {o : Obj} {kvs : List (Key × V)} {ds : List (Key × D)} : H a = some (.frz o (.dK kvs)) → kvs.map (·.1) = ds.map (·.1) → DvAll O K H P (kvs.map (·.2)) (ds.map (·.2)) → Dv O K H P (.ref a) (dictZ ds)
  | obj {v : V} {k : List (D × D)} : O.ro K H v k → Dv O K H P v (.dict k)
inductive DvAll (O : Ob) (K : PySem.W.Frag) (H : Hp) (P : Addr → Prop) : List V → List D → Prop
  | nil : DvAll O K H P [] []
  | cons {v : V} {vs : List V} {d : D} {ds : List D} : Dv O K H P v d → DvAll O K H P vs ds → DvAll O K H P (v :: vs) (d :: ds)
end

section
variable {O : Ob} {K : PySem.W.Frag} {H H' : Hp} {P P' : Addr → Prop}
mutual
theorem Dv.keep (n : Nl H H') (l : ∀ a o, H a = some o → Mb o → ¬ P a → H' a = some o) (p : ∀ a o, H a = some o → Mb o → ¬ P a → ¬ P' a) : ∀ {v : V} {d : D}, Dv O K H P v d → Dv O K H' P' v d
  | _, _, .non => .non
  | _, _, .bl b => .bl b
  | _, _, .int i => .int i
  | _, _, .str x h => .str x h
  | _, _, .lst h q r => .lst (l _ _ h (.inl ⟨_, rfl⟩) q) (p _ _ h mb_lst q) (DvAll.keep n l p r)
  | _, _, .dct h q k r => .dct (l _ _ h (.inr ⟨_, rfl⟩) q) (p _ _ h mb_dk q) k (DvAll.keep n l p r)
  | _, _, .tup h r => .tup (n.tup h) (DvAll.keep n l p r)
  | _, _, .dcz h k r => .dcz (n _ _ h not_mb_frz no_frz) k (DvAll.keep n l p r)
  | _, _, .obj h => .obj (O.keep n h)
theorem DvAll.keep (n : Nl H H') (l : ∀ a o, H a = some o → Mb o → ¬ P a → H' a = some o) (p : ∀ a o, H a = some o → Mb o → ¬ P a → ¬ P' a) : ∀ {vs : List V} {ds : List D}, DvAll O K H P vs ds → DvAll O K H' P' vs ds
  | _, _, .nil => .nil
  | _, _, .cons h r => .cons (Dv.keep n l p h) (DvAll.keep n l p r)
end
theorem Dv.same [Nm] {v : V} {d : D} (s : Same H H') (h : Dv O K H P v d) : Dv O K H' P v d := h.keep (.of s) (fun a _ e m _ => s.all a _ e (no_mb m)) fun _ _ _ _ q => q
theorem DvAll.same [Nm] {v : List V} {d : List D} (s : Same H H') (h : DvAll O K H P v d) : DvAll O K H' P v d := h.keep (.of s) (fun a _ e m _ => s.all a _ e (no_mb m)) fun _ _ _ _ q => q
theorem Dv.less {v : V} {d : D} (p : ∀ a, P' a → P a) (h : Dv O K H P v d) : Dv O K H P' v d := h.keep (fun _ _ e _ _ => e) (fun _ _ e _ _ => e) fun _ _ _ _ q z => q (p _ z)
theorem DvAll.less {v : List V} {d : List D} (p : ∀ a, P' a → P a) (h : DvAll O K H P v d) : DvAll O K H P' v d := h.keep (fun _ _ e _ _ => e) (fun _ _ e _ _ => e) fun _ _ _ _ q z => q (p _ z)
theorem DvAll.length : ∀ {vs : List V} {ds : List D}, DvAll O K H P vs ds → vs.length = ds.length
  | _, _, .nil => rfl
  | _, _, .cons _ r => congrArg (· + 1) r.length
theorem DvAll.get : ∀ {vs : List V} {ds : List D} {i : Nat} {d : D}, DvAll O K H P vs ds → ds[i]? = some d → ∃ v, vs[i]? = some v ∧ Dv O K H P v d
  | _, _, _, _, .nil, e => by simp at e
  | _, _, 0, _, .cons h _, e => by
    simp at e
    subst e
    exact ⟨_, rfl, h⟩
  | _, _, i + 1, _, .cons _ r, e => by
    obtain ⟨v, e1, h1⟩ := r.get (i := i) (by simpa using e)
    exact ⟨v, by simpa using e1, h1⟩
theorem DvAll.get' : ∀ {vs : List V} {ds : List D} {i : Nat} {v : V}, DvAll O K H P vs ds → vs[i]? = some v → ∃ d, ds[i]? = some d ∧ Dv O K H P v d
  | _, _, _, _, .nil, e => by simp at e
  | _, _, 0, _, .cons h _, e => by
    simp at e
    subst e
    exact ⟨_, rfl, h⟩
  | _, _, i + 1, _, .cons _ r, e => by
    obtain ⟨v, e1, h1⟩ := r.get' (i := i) (by simpa using e)
    exact ⟨v, by simpa using e1, h1⟩
theorem DvAll.append : ∀ {vs ws : List V} {ds es : List D}, DvAll O K H P vs ds → DvAll O K H P ws es → DvAll O K H P (vs ++ ws) (ds ++ es)
  | _, _, _, _, .nil, s => s
  | _, _, _, _, .cons h r, s => .cons h (r.append s)
theorem DvAll.take : ∀ {vs : List V} {ds : List D} (n : Nat), DvAll O K H P vs ds → DvAll O K H P (vs.take n) (ds.take n)
  | _, _, 0, _ => by simpa using DvAll.nil
  | _, _, _ + 1, .nil => .nil
  | _, _, n + 1, .cons h r => .cons h (r.take n)
theorem DvAll.drop : ∀ {vs : List V} {ds : List D} (n : Nat), DvAll O K H P vs ds → DvAll O K H P (vs.drop n) (ds.drop n)
  | _, _, 0, r => r
  | _, _, _ + 1, .nil => .nil
  | _, _, n + 1, .cons _ r => r.drop n

mutual
theorem Dv.dp : ∀ {d : D} {v : V}, Dv O K H P v d → d.canLay0 = true → Dp K H v d
  | _, _, .non, _ => .non
  | _, _, .bl b, _ => .bl b
  | _, _, .int i, _ => .int i
  | _, _, .str x _, _ => .str x
  | _, _, .lst h _ r, e => .lst (.inl (.inl h)) (DvAll.dp r (by simpa [PyData.canLay0] using e))
  | _, _, .tup h r, e => .tup h.sq (DvAll.dp r (by simpa [PyData.canLay0] using e))
  | _, _, .dct _ _ _ _, e => by simp [dictE, PyData.canLay0] at e
  | _, _, .dcz _ _ _, e => by simp [dictZ, PyData.canLay0] at e
  | _, _, .obj _, e => by simp [PyData.canLay0] at e
theorem DvAll.dp : ∀ {ds : List D} {vs : List V}, DvAll O K H P vs ds → PyData.canLayAll0 ds = true → DpAll K H vs ds
  | _, _, .nil, _ => .nil
  | d :: ds, _, .cons h r, e => by
    have e' : PyData.canLay0 d = true ∧ PyData.canLayAll0 ds = true := by simpa [PyData.canLayAll0] using e
    exact .cons (Dv.dp h e'.1) (DvAll.dp r e'.2)
end
theorem Dv.dpS {d : D} {v : V} (h : Dv O K H P v d) (e : SeqAt.shaped d = true) : Dp K H v d := h.dp (SeqAt.canLay_of_shaped e)

/-- no list, no object within -/
def pureD : D → Bool
  | .none => true
  | .bool _ => true
  | .int _ => true
  | .str _ => true
  | .tuple xs => pureAll xs
  | _ => false
where pureAll : List D → Bool
  | [] => true
  | x :: xs => pureD x && pureAll xs
mutual
theorem Dv.pure : ∀ {d : D} {v : V}, Dv O K H P v d → pureD d = true → Dv O K H P' v d
  | _, _, .non, _ => .non
  | _, _, .bl b, _ => .bl b
  | _, _, .int i, _ => .int i
  | _, _, .str x h, _ => .str x h
  | _, _, .lst _ _ _, e => by simp [pureD] at e
  | _, _, .tup h r, e => .tup h (DvAll.pure r (by simpa [pureD] using e))
  | _, _, .dct _ _ _ _, e => by simp [dictE, pureD] at e
  | _, _, .dcz _ _ _, e => by simp [dictZ, pureD] at e
  | _, _, .obj _, e => by simp [pureD] at e
theorem DvAll.pure : ∀ {ds : List D} {vs : List V}, DvAll O K H P vs ds → pureD.pureAll ds = true → DvAll O K H P' vs ds
  | _, _, .nil, _ => .nil
  | d :: ds, _, .cons h r, e => by
    have e' : pureD d = true ∧ pureD.pureAll ds = true := by simpa [pureD.pureAll] using e
    exact .cons (Dv.pure h e'.1) (DvAll.pure r e'.2)
end
end

/-! ### the judgements -/
abbrev Rho := List (Option D)
structure Rs (O : Ob) (K : PySem.W.Frag) (P : Addr → Prop) (ρ : Rho) (σ : L2.St) (H : Hp) : Prop where
  len : σ.length = ρ.length
  get : ∀ (i : Nat) (d : D), ρ[i]? = some (some d) → ∃ v, σ[i]? = some (some v) ∧ Dv O K H P v d
structure Dom [Nm] (H : Hp) (P : Addr → Prop) : Prop where
  has : ∀ a, P a → ∃ o, H a = some o ∧ Mb o
  tab : TabOk H
section
variable [Nm]
theorem Dom.same {H H' : Hp} {P : Addr → Prop} (h : Dom H P) (s : Same H H') : Dom H' P := ⟨fun a p =>
  let ⟨o, e, m⟩ := h.has a p
  ⟨o, s.all a o e (no_mb m), m⟩, s.tab h.tab⟩
theorem Dom.own {H H' : Hp} {P : Addr → Prop} {p : Addr} {o : HO} (h : Dom H P) (s : Same H H') (e : H' p = some o) (m : Mb o) : Dom H' (fun c => P c ∨ c = p) := ⟨fun a z => by
  rcases z with z | z
  · exact (h.same s).has a z
  · rw [z]
    exact ⟨o, e, m⟩, (h.same s).tab⟩
theorem Dom.new {H : Hp} {P : Addr → Prop} {p : Addr} (h : Dom H P) (e : Nn H p) : ¬ P p := fun z => by
  obtain ⟨o, e1, m⟩ := h.has p z
  exact no_mb m (e o e1)
theorem Dom.mb {H : Hp} {P : Addr → Prop} (h : Dom H P) {a : Addr} {o : HO} (e : H a = some o) (p : P a) : Mb o := by
  obtain ⟨u, e1, m⟩ := h.has a p
  rw [e] at e1
  cases e1
  exact m
theorem Rs.same {O : Ob} {K : PySem.W.Frag} {P : Addr → Prop} {ρ : Rho} {σ : St} {H H' : Hp} (h : Rs O K P ρ σ H) (s : Same H H') : Rs O K P ρ σ H' := ⟨h.len, fun i d e =>
  let ⟨v, e1, h1⟩ := h.get i d e
  ⟨v, e1, h1.same s⟩⟩
theorem same_new {H : Hp} {p : Addr} {o : HO} (h : H p = none) : Same H (upd H p o) := .of fun b x e => by
  rw [upd_ne (ne_of_none e h)]
  exact e
end
section
variable [Nm]

/-- what an exception of a class does -/
def XOk (X : Cx) (E : XK) (H : Hp) (Ed : Str → Prop) : Prop := ∀ c a H', Same H H' → X.mg c = some (.ref a) → Ed c → E (.ref a) none H'
theorem XOk.same {X : Cx} {E : XK} {H H' : Hp} {Ed : Str → Prop} (h : XOk X E H Ed) (s : Same H H') : XOk X E H' Ed := fun c a H2 s2 m e => h c a H2 (s.trans s2) m e
theorem XOk.no {X : Cx} {E : XK} {H : Hp} : XOk X E H (fun _ => False) := fun _ _ _ _ _ z => z.elim

def VOk (O : Ob) (K : PySem.W.Frag) (P : Addr → Prop) (H : Hp) (Qd : D → Prop) (Q : VK) : Prop := ∀ v d H', Same H H' → Dv O K H' P v d → Qd d → Q v H'
def DE (O : Ob) (X : Cx) (E : XK) (e : Expr) (f : Rho → WD D) : Prop := ∃ t, PE X e t ∧ ∀ (P : Addr → Prop) (ρ : Rho) (σ : L2.St) (H : Hp) (Qd : D → Prop) (Ed : Str → Prop) (Q : VK),
  Dom H P → Rs O X.K P ρ σ H → f ρ Qd Ed → VOk O X.K P H Qd Q → XOk X E H Ed → t σ H Q
/-- a new list -/
def DF (O : Ob) (X : Cx) (E : XK) (e : Expr) (f : Rho → WD (List D)) : Prop := ∃ t, PE X e t ∧ ∀ (P : Addr → Prop) (ρ : Rho) (σ : L2.St) (H : Hp) (Qd : List D → Prop) (Ed : Str → Prop) (Q : VK),
  Dom H P → Rs O X.K P ρ σ H → f ρ Qd Ed → (∀ p vs ds H', Same H H' → Nn H p → H' p = some (.lst vs) → DvAll O X.K H' (fun a => P a ∨ a = p) vs ds → Qd ds → Q (.ref p) H') → XOk X E H Ed → t σ H Q
def DT (O : Ob) (X : Cx) (E : XK) (e : Expr) (f : Rho → WD Bool) : Prop := ∃ t, PT X e t ∧ ∀ (P : Addr → Prop) (ρ : Rho) (σ : L2.St) (H : Hp) (Qd : Bool → Prop) (Ed : Str → Prop) (Q : Bool → Hp → Prop),
  Dom H P → Rs O X.K P ρ σ H → f ρ Qd Ed → (∀ b H', Same H H' → Qd b → Q b H') → XOk X E H Ed → t σ H Q
def DW (O : Ob) (X : Cx) (E : XK) (e : Expr) (f : Rho → WD Bool) : Prop := ∃ t, PW X e t ∧ ∀ (P : Addr → Prop) (ρ : Rho) (σ : L2.St) (H : Hp) (Qd : Bool → Prop) (Ed : Str → Prop) (Q : Bool → Hp → Prop),
  Dom H P → Rs O X.K P ρ σ H → f ρ Qd Ed → (∀ b H', Same H H' → Qd b → Q b H') → XOk X E H Ed → t σ H Q
def DA (O : Ob) (X : Cx) (E : XK) (es : List Expr) (f : Rho → WD (List D)) : Prop := ∃ t, PA X es t ∧ ∀ (P : Addr → Prop) (ρ : Rho) (σ : L2.St) (H : Hp) (Qd : List D → Prop) (Ed : Str → Prop) (Q : List V → Hp → Prop),
  Dom H P → Rs O X.K P ρ σ H → f ρ Qd Ed → (∀ vs ds H', Same H H' → DvAll O X.K H' P vs ds → ds.length = es.length → Qd ds → Q vs H') → XOk X E H Ed → t σ H Q

end
section
variable [Nm]
/-- the judgement by one reading -/
def tE (O : Ob) (K : PySem.W.Frag) (mg : Str → Option Value) (E : XK) (f : Rho → WD D) : TE := fun σ H Q => ∃ (P : Addr → Prop) (ρ : Rho) (Qd : D → Prop) (Ed : Str → Prop), Dom H P ∧ Rs O K P ρ σ H ∧ f ρ Qd Ed ∧ VOk O K P H Qd Q ∧ ∀ c a H', Same H H' → mg c = some (.ref a) → Ed c → E (.ref a) none H'
theorem DE.pe {O : Ob} {X : Cx} {E : XK} {e : Expr} {f : Rho → WD D} (h : DE O X E e f) : PE X e (tE O X.K X.mg E f) := by
  obtain ⟨t, h1, h2⟩ := h
  exact ⟨fun pins s σ H Q I ⟨P, ρ, Qd, Ed, a, b, c, d, e⟩ => h1.run pins s σ H Q I (h2 P ρ σ H Qd Ed Q a b c d e)⟩
def tT (O : Ob) (K : PySem.W.Frag) (mg : Str → Option Value) (E : XK) (f : Rho → WD Bool) : TT := fun σ H Q => ∃ (P : Addr → Prop) (ρ : Rho) (Qd : Bool → Prop) (Ed : Str → Prop), Dom H P ∧ Rs O K P ρ σ H ∧ f ρ Qd Ed ∧ (∀ b H', Same H H' → Qd b → Q b H') ∧ ∀ c a H', Same H H' → mg c = some (.ref a) → Ed c → E (.ref a) none H'
end
section
variable [Nm] {O : Ob} {X : Cx} {E : XK} {a b c : Expr} {fa fb fc : Rho → WD D} {pos : Pos}
def eOfF (f : Rho → WD (List D)) : Rho → WD D := fun ρ Q Ed => f ρ (fun ds => Q (.list ds)) Ed
theorem DF.de {e : Expr} {f : Rho → WD (List D)} (h : DF O X E e f) : DE O X E e (eOfF f) := by
  obtain ⟨t, h1, h2⟩ := h
  refine ⟨t, h1, fun P ρ σ H Qd Ed Q hd hr hf hQ hE => h2 P ρ σ H _ Ed Q hd hr hf (fun p vs ds H' s n e r q => hQ _ _ H' s (.lst e (hd.new n) (r.less fun _ z => .inl z)) q) hE⟩
/-! ### names and constants -/
def eVar (i : Nat) : Rho → WD D := fun ρ Q _ => match ρ[i]? with
  | some (some d) => Q d
  | _ => False
def eC (d : D) : Rho → WD D := fun _ Q _ => Q d
theorem de_var (i : Nat) {x : Str} (hN : X.N[i]? = some x := by rfl) (hv : Vis X.env.scope x := by first | exact Or.inl rfl | exact Or.inr (Or.inl rfl) | exact Or.inr (Or.inr rfl)) (hd : (x == ("__debug__" : Str)) = false := by decide)
    (hcd : (x == ("__classdict__" : Str)) = false := by decide) : DE O X E (.Name x pos) (eVar i) := by
  refine ⟨_, pe_var hN hv hd hcd, fun P ρ σ H Qd Ed Q hd hr hf hQ _ => ?_⟩
  unfold eVar at hf
  split at hf
  · rename_i d e
    obtain ⟨v, e1, h1⟩ := hr.get i d e
    exact ⟨v, e1, hQ v d H (Same.refl H) h1 hf⟩
  · exact hf.elim
theorem de_int {i j} : DE O X E (.Constant (.int i) j pos) (eC (.int i)) := ⟨_, pe_int, fun P ρ σ H Qd Ed Q _ _ hf hQ _ => hQ _ _ H (Same.refl H) (.int i) hf⟩
theorem de_bl {i j} : DE O X E (.Constant (.bool i) j pos) (eC (.bool i)) := ⟨_, pe_bl, fun P ρ σ H Qd Ed Q _ _ hf hQ _ => hQ _ _ H (Same.refl H) (.bl i) hf⟩
theorem de_non {j} : DE O X E (.Constant .none j pos) (eC .none) := ⟨_, pe_non, fun P ρ σ H Qd Ed Q _ _ hf hQ _ => hQ _ _ H (Same.refl H) .non hf⟩
theorem de_str {i j} (h : PyData.strOk i = true := by decide +kernel) : DE O X E (.Constant (.str i) j pos) (eC (.str i)) := ⟨_, pe_str, fun P ρ σ H Qd Ed Q _ _ hf hQ _ => hQ _ _ H (Same.refl H) (.str i h) hf⟩
/-- a constant of the module: a tuple of scalars -/
theorem de_globT {x : Str} {u : Addr} {d : D} (hg : Gl X x) (hm : X.mg x = some (.ref u)) (h : ∀ H P, Dv O X.K H P (.ref u) d) (hd : (x == ("__debug__" : Str)) = false := by decide) : DE O X E (.Name x pos) (eC d) :=
  ⟨_, pe_glob (v := .ref u) hg hm rfl hd, fun P ρ σ H Qd Ed Q _ _ hf hQ _ => hQ _ _ H (Same.refl H) (h H P) hf⟩
theorem de_globE {x : Str} {d : D} (hg : Gl X x) (hm : ∃ u : Addr, X.mg x = some (.ref u) ∧ ∀ (O : Ob) (H : Hp) (P : Addr → Prop), Dv O X.K H P (.ref u) d) (hd : (x == ("__debug__" : Str)) = false := by decide) : DE O X E (.Name x pos) (eC d) := by
  obtain ⟨u, hm, h⟩ := hm
  exact ⟨_, pe_glob (v := .ref u) hg hm rfl hd, fun P ρ σ H Qd Ed Q _ _ hf hQ _ => hQ _ _ H (Same.refl H) (h O H P) hf⟩
theorem de_globI {x : Str} {i : Int} (hg : Gl X x) (hm : ∃ t, X.mg x = some (.int i t)) (hd : (x == ("__debug__" : Str)) = false := by decide) : DE O X E (.Name x pos) (eC (.int i)) := by
  obtain ⟨t, hm⟩ := hm
  exact ⟨_, pe_glob (v := .int i) hg hm ⟨t, rfl⟩ hd, fun P ρ σ H Qd Ed Q _ _ hf hQ _ => hQ _ _ H (Same.refl H) (.int i) hf⟩
/-! ### two parts -/
/-- an operation upon values, told by data -/
def OpD (O : Ob) (X : Cx) (r : R2) (g : D → D → WD D) : Prop := ∀ (P : Addr → Prop) (H : Hp) (x y : V) (d e : D) (Qd : D → Prop) (Ed : Str → Prop) (Q : VK), Dom H P → Dv O X.K H P x d → Dv O X.K H P y e → g d e Qd Ed → VOk O X.K P H Qd Q → r x y H Q
def eOp (g : D → D → WD D) (fa fb : Rho → WD D) : Rho → WD D := fun ρ Q Ed => fa ρ (fun x => fb ρ (fun y => g x y Q Ed) Ed) Ed
theorem op2 {r : R2} {g : D → D → WD D} (hg : OpD O X r g) {ta tb : TE} (ha : ∀ (P : Addr → Prop) (ρ : Rho) (σ : L2.St) (H : Hp) (Qd : D → Prop) (Ed : Str → Prop) (Q : VK), Dom H P → Rs O X.K P ρ σ H → fa ρ Qd Ed → VOk O X.K P H Qd Q → XOk X E H Ed → ta σ H Q)
    (hb : ∀ (P : Addr → Prop) (ρ : Rho) (σ : L2.St) (H : Hp) (Qd : D → Prop) (Ed : Str → Prop) (Q : VK), Dom H P → Rs O X.K P ρ σ H → fb ρ Qd Ed → VOk O X.K P H Qd Q → XOk X E H Ed → tb σ H Q)
    (P : Addr → Prop) (ρ : Rho) (σ : L2.St) (H : Hp) (Qd : D → Prop) (Ed : Str → Prop) (Q : VK) (hd : Dom H P) (hr : Rs O X.K P ρ σ H) (hf : eOp g fa fb ρ Qd Ed) (hQ : VOk O X.K P H Qd Q) (hE : XOk X E H Ed) : tOp r ta tb σ H Q :=
  ha P ρ σ H _ Ed _ hd hr hf (fun x d H1 s1 h1 q1 => hb P ρ σ H1 _ Ed _ (hd.same s1) (hr.same s1) q1 (fun y e H2 s2 h2 q2 =>
    hg P H2 x y d e Qd Ed Q ((hd.same s1).same s2) (h1.same s2) h2 q2 fun v d' H3 s3 h3 q3 => hQ v d' H3 ((s1.trans s2).trans s3) h3 q3) (hE.same s1)) hE
theorem de_op {op : Operator} {r : R2} {g : D → D → WD D} (ho : OpR X (binaryOp op) r) (hg : OpD O X r g) (ha : DE O X E a fa) (hb : DE O X E b fb) : DE O X E (.BinOp a op b pos) (eOp g fa fb) := by
  obtain ⟨ta, a1, a2⟩ := ha
  obtain ⟨tb, b1, b2⟩ := hb
  exact ⟨_, pe_op ho a1 b1, op2 hg a2 b2⟩
theorem de_cmp {op : CmpOp} {r : R2} {g : D → D → WD D} (ho : OpR X (compareOp op) r) (hg : OpD O X r g) (ha : DE O X E a fa) (hb : DE O X E b fb) (hm : behindInMarks op b = false) : DE O X E (.Compare a [op] [b] pos) (eOp g fa fb) := by
  obtain ⟨ta, a1, a2⟩ := ha
  obtain ⟨tb, b1, b2⟩ := hb
  exact ⟨_, pe_cmpR ho a1 b1 hm, op2 hg a2 b2⟩
theorem OpR.or {f : Value → Value → Sem Value} {r1 r2 : R2} (h1 : OpR X f r1) (h2 : OpR X f r2) : OpR X f (fun x y H Q => r1 x y H Q ∨ r2 x y H Q) := fun pins s σ H x y v u Q I rx ry h => by
  rcases h with h | h
  · exact h1 pins s σ H x y v u Q I rx ry h
  · exact h2 pins s σ H x y v u Q I rx ry h
/-- a test out of a value that is True or False -/
def isB (Q : Bool → Prop) : D → Prop
  | .bool b => Q b
  | _ => False
def tB1 (f : Rho → WD D) : Rho → WD Bool := fun ρ Q Ed => f ρ (isB Q) Ed
theorem bool_of {P : Addr → Prop} {H : Hp} {v : V} {d : D} {Qd : Bool → Prop} (h : Dv O X.K H P v d) (q : isB Qd d) : ∃ b, v = .bl b ∧ Qd b := by
  cases h with
  | bl b => exact ⟨b, rfl, q⟩
  | _ => exact q.elim
theorem dt_cmp {op : CmpOp} {r : R2} {g : D → D → WD D} (ho : OpR X (compareOp op) r) (hg : OpD O X r g) (ha : DE O X E a fa) (hb : DE O X E b fb) (hm : behindInMarks op b = false) : DT O X E (.Compare a [op] [b] pos) (tB1 (eOp g fa fb)) := by
  obtain ⟨ta, a1, a2⟩ := ha
  obtain ⟨tb, b1, b2⟩ := hb
  refine ⟨_, pt_cmpR ho a1 b1 hm, fun P ρ σ H Qd Ed Q hd hr hf hQ hE => op2 hg a2 b2 P ρ σ H _ Ed _ hd hr hf (fun v d H' s h q => ?_) hE⟩
  obtain ⟨b, e, q⟩ := bool_of h q
  exact ⟨b, e, hQ b H' s q⟩
theorem dt_val (ha : DE O X E a fa) (he : ∀ whole, isTrue a X.env whole = (do let v ← whole; standAt a.pos; holding [v] (truthy v)) := by intro _; rfl) : DT O X E a (tB1 fa) := by
  obtain ⟨ta, a1, a2⟩ := ha
  refine ⟨_, pt_val a1 he, fun P ρ σ H Qd Ed Q hd hr hf hQ hE => a2 P ρ σ H _ Ed _ hd hr hf (fun v d H' s h q => ?_) hE⟩
  obtain ⟨b, e, q⟩ := bool_of h q
  exact ⟨b, e, hQ b H' s q⟩
/-- by truth -/
def truD : D → Option Bool
  | .none => some false
  | .bool b => some b
  | .int i => some (i != 0)
  | .list xs => some (!xs.isEmpty)
  | .tuple xs => some (!xs.isEmpty)
  | _ => none
def tTru (f : Rho → WD D) : Rho → WD Bool := fun ρ Q Ed => f ρ (fun d => match truD d with
  | some b => Q b
  | none => False) Ed
theorem isEmpty_of {P : Addr → Prop} {H : Hp} {vs : List V} {ds : List D} (h : DvAll O X.K H P vs ds) : vs.isEmpty = ds.isEmpty := by
  cases h <;> rfl
theorem dt_tru (ha : DE O X E a fa) (he : ∀ whole, isTrue a X.env whole = (do let v ← whole; standAt a.pos; holding [v] (truthy v)) := by intro _; rfl) : DT O X E a (tTru fa) := by
  obtain ⟨ta, a1, a2⟩ := ha
  refine ⟨_, pt_truth a1 he, fun P ρ σ H Qd Ed Q hd hr hf hQ hE => a2 P ρ σ H _ Ed _ hd hr hf (fun v d H' s h q => ?_) hE⟩
  cases h with
  | non => exact ⟨_, rfl, hQ _ H' s q⟩
  | bl b => exact ⟨_, rfl, hQ _ H' s q⟩
  | int i => exact ⟨_, rfl, hQ _ H' s q⟩
  | str x h => exact q.elim
  | lst e _ r => exact ⟨_, .inl ⟨_, .inl (.inl e), rfl⟩, by rw [isEmpty_of r]; exact hQ _ H' s q⟩
  | tup e r => exact ⟨_, .inr (.inl ⟨_, e.sq, rfl⟩), by rw [isEmpty_of r]; exact hQ _ H' s q⟩
  | dct _ _ _ _ => exact q.elim
  | dcz _ _ _ => exact q.elim
  | obj _ => exact q.elim
/-! ### and, or, not, if -/
def tAndD (f g : Rho → WD Bool) : Rho → WD Bool := fun ρ Q Ed => f ρ (fun b => if b = true then g ρ Q Ed else Q false) Ed
def tOrD (f g : Rho → WD Bool) : Rho → WD Bool := fun ρ Q Ed => f ρ (fun b => if b = true then Q true else g ρ Q Ed) Ed
def tNotD (f : Rho → WD Bool) : Rho → WD Bool := fun ρ Q Ed => f ρ (fun b => Q (!b)) Ed
variable {ga gb : Rho → WD Bool} {rest : List Expr}
theorem dw_and1 (h : DT O X E a ga) : DW O X E (.BoolOp .And [a] pos) ga := let ⟨t, h1, h2⟩ := h; ⟨t, pw_and1 h1, h2⟩
theorem dw_or1 (h : DT O X E a ga) : DW O X E (.BoolOp .Or [a] pos) ga := let ⟨t, h1, h2⟩ := h; ⟨t, pw_or1 h1, h2⟩
theorem dw_and (h : DT O X E a ga) (k : DW O X E (.BoolOp .And (b :: rest) pos) gb) : DW O X E (.BoolOp .And (a :: b :: rest) pos) (tAndD ga gb) := by
  obtain ⟨t, h1, h2⟩ := h
  obtain ⟨u, k1, k2⟩ := k
  refine ⟨_, pw_and h1 k1, fun P ρ σ H Qd Ed Q hd hr hf hQ hE => h2 P ρ σ H _ Ed _ hd hr hf (fun b H1 s1 q1 => ?_) hE⟩
  cases b with
  | true => exact k2 P ρ σ H1 _ Ed Q (hd.same s1) (hr.same s1) q1 (fun b H2 s2 q2 => hQ b H2 (s1.trans s2) q2) (hE.same s1)
  | false => exact hQ false H1 s1 q1
theorem dw_or (h : DT O X E a ga) (k : DW O X E (.BoolOp .Or (b :: rest) pos) gb) : DW O X E (.BoolOp .Or (a :: b :: rest) pos) (tOrD ga gb) := by
  obtain ⟨t, h1, h2⟩ := h
  obtain ⟨u, k1, k2⟩ := k
  refine ⟨_, pw_or h1 k1, fun P ρ σ H Qd Ed Q hd hr hf hQ hE => h2 P ρ σ H _ Ed _ hd hr hf (fun b H1 s1 q1 => ?_) hE⟩
  cases b with
  | false => exact k2 P ρ σ H1 _ Ed Q (hd.same s1) (hr.same s1) q1 (fun b H2 s2 q2 => hQ b H2 (s1.trans s2) q2) (hE.same s1)
  | true => exact hQ true H1 s1 q1
theorem DW.dt (h : DW O X E a ga) : DT O X E a ga := let ⟨t, h1, h2⟩ := h; ⟨t, h1.pt, h2⟩
theorem dt_not (h : DT O X E a ga) : DT O X E (.UnaryOp .Not a pos) (tNotD ga) := by
  obtain ⟨t, h1, h2⟩ := h
  exact ⟨_, pt_not h1, fun P ρ σ H Qd Ed Q hd hr hf hQ hE => h2 P ρ σ H _ Ed _ hd hr hf (fun b H1 s1 q1 => hQ _ H1 s1 q1) hE⟩
def eIf (g : Rho → WD Bool) (f h : Rho → WD D) : Rho → WD D := fun ρ Q Ed => g ρ (fun b => if b = true then f ρ Q Ed else h ρ Q Ed) Ed
theorem de_if (h : DT O X E c ga) (ha : DE O X E a fa) (hb : DE O X E b fb) : DE O X E (.IfExp c a b pos) (eIf ga fa fb) := by
  obtain ⟨t, h1, h2⟩ := h
  obtain ⟨ta, a1, a2⟩ := ha
  obtain ⟨tb, b1, b2⟩ := hb
  refine ⟨_, pe_ifExp h1 a1 b1, fun P ρ σ H Qd Ed Q hd hr hf hQ hE => h2 P ρ σ H _ Ed _ hd hr hf (fun b H1 s1 q1 => ?_) hE⟩
  cases b with
  | true => exact a2 P ρ σ H1 _ Ed Q (hd.same s1) (hr.same s1) q1 (fun v d H2 s2 h2 q2 => hQ v d H2 (s1.trans s2) h2 q2) (hE.same s1)
  | false => exact b2 P ρ σ H1 _ Ed Q (hd.same s1) (hr.same s1) q1 (fun v d H2 s2 h2 q2 => hQ v d H2 (s1.trans s2) h2 q2) (hE.same s1)
/-- as values: True, False -/
def eAnd (f g : Rho → WD D) : Rho → WD D := fun ρ Q Ed => f ρ (fun d => match d with
  | .bool true => g ρ Q Ed
  | .bool false => Q (.bool false)
  | _ => False) Ed
def eOr (f g : Rho → WD D) : Rho → WD D := fun ρ Q Ed => f ρ (fun d => match d with
  | .bool true => Q (.bool true)
  | .bool false => g ρ Q Ed
  | _ => False) Ed
def eNot (f : Rho → WD D) : Rho → WD D := fun ρ Q Ed => f ρ (fun d => match d with
  | .bool b => Q (.bool (!b))
  | _ => False) Ed
theorem de_one {op} (h : DE O X E a fa) : DE O X E (.BoolOp op [a] pos) fa := let ⟨t, h1, h2⟩ := h; ⟨t, pe_one h1, h2⟩
theorem de_and (ha : DE O X E a fa) (hb : DE O X E (.BoolOp .And (b :: rest) pos) fb) : DE O X E (.BoolOp .And (a :: b :: rest) pos) (eAnd fa fb) := by
  obtain ⟨ta, a1, a2⟩ := ha
  obtain ⟨tb, b1, b2⟩ := hb
  refine ⟨_, pe_and a1 b1, fun P ρ σ H Qd Ed Q hd hr hf hQ hE => a2 P ρ σ H _ Ed _ hd hr hf (fun v d H1 s1 h q => ?_) hE⟩
  cases h with
  | bl k =>
    refine ⟨k, rfl, ?_⟩
    cases k with
    | true => exact b2 P ρ σ H1 _ Ed Q (hd.same s1) (hr.same s1) q (fun v d H2 s2 h2 q2 => hQ v d H2 (s1.trans s2) h2 q2) (hE.same s1)
    | false => exact hQ _ _ H1 s1 (.bl false) q
  | _ => exact q.elim
theorem de_or (ha : DE O X E a fa) (hb : DE O X E (.BoolOp .Or (b :: rest) pos) fb) : DE O X E (.BoolOp .Or (a :: b :: rest) pos) (eOr fa fb) := by
  obtain ⟨ta, a1, a2⟩ := ha
  obtain ⟨tb, b1, b2⟩ := hb
  refine ⟨_, pe_or a1 b1, fun P ρ σ H Qd Ed Q hd hr hf hQ hE => a2 P ρ σ H _ Ed _ hd hr hf (fun v d H1 s1 h q => ?_) hE⟩
  cases h with
  | bl k =>
    refine ⟨k, rfl, ?_⟩
    cases k with
    | false => exact b2 P ρ σ H1 _ Ed Q (hd.same s1) (hr.same s1) q (fun v d H2 s2 h2 q2 => hQ v d H2 (s1.trans s2) h2 q2) (hE.same s1)
    | true => exact hQ _ _ H1 s1 (.bl true) q
  | _ => exact q.elim
theorem de_not (ha : DE O X E a fa) : DE O X E (.UnaryOp .Not a pos) (eNot fa) := by
  obtain ⟨ta, a1, a2⟩ := ha
  refine ⟨_, pe_not a1, fun P ρ σ H Qd Ed Q hd hr hf hQ hE => a2 P ρ σ H _ Ed _ hd hr hf (fun v d H1 s1 h q => ?_) hE⟩
  cases h with
  | bl k => exact ⟨k, rfl, hQ _ _ H1 s1 (.bl _) q⟩
  | _ => exact q.elim
end
end DL

namespace DL
open PySem PySem.Spec L2
section
variable [Nm] {O : Ob} {X : Cx} {E : XK}
theorem VOk.here {K : PySem.W.Frag} {P : Addr → Prop} {H : Hp} {Qd : D → Prop} {Q : VK} (h : VOk O K P H Qd Q) {v : V} {d : D} (hv : Dv O K H P v d) (q : Qd d) : Q v H := h v d H (Same.refl H) hv q
theorem VOk.new {K : PySem.W.Frag} {P : Addr → Prop} {H : Hp} {Qd : D → Prop} {Q : VK} (h : VOk O K P H Qd Q) {vs : List V} {ds : List D} (hv : DvAll O K H P vs ds) (q : Qd (.tuple ds)) : NewT vs H Q := fun p o n no =>
  h _ _ _ (same_new n) (.tup (.inl ⟨o, no, upd_same⟩) (hv.same (same_new n))) q
theorem VOk.newL {K : PySem.W.Frag} {P : Addr → Prop} {H : Hp} {Qd : D → Prop} {Q : VK} (h : VOk O K P H Qd Q) (hd : Dom H P) {vs : List V} {ds : List D} {p : Addr} (n : H p = none) (hv : DvAll O K H P vs ds) (q : Qd (.list ds)) : Q (.ref p) (upd H p (.lst vs)) :=
  h _ _ _ (same_new n) (.lst upd_same (hd.new (nn n)) (hv.same (same_new n))) q
theorem DvAll.fresh {K : PySem.W.Frag} {H H' : Hp} {P : Addr → Prop} {p : Addr} {vs : List V} {ds : List D} (h : DvAll O K H P vs ds) (np : Nn H p) (s : Same H H') : DvAll O K H' (fun a => P a ∨ a = p) vs ds :=
  h.keep (.of s) (fun a _ e m _ => s.all a _ e (no_mb m)) fun a xs e m n z => by
    rcases z with z | z
    · exact n z
    · subst z
      exact no_mb m (np _ e)
theorem strOk_append {x y : Str} (h : PyData.strOk x = true) (k : PyData.strOk y = true) : PyData.strOk (x ++ y) = true := by
  unfold PyData.strOk at *
  show (x.cps ++ y.cps).all _ = true
  rw [Array.all_append, h, k]
  rfl
/-! ### + -/
def addD : D → D → WD D
  | .int i, .int j => fun Q _ => Q (.int (i + j))
  | .str x, .str y => fun Q _ => x.length + y.length ≤ 16777216 ∧ Q (.str (x ++ y))
  | .tuple xs, .tuple ys => fun Q _ => xs.length + ys.length ≤ 16777216 ∧ Q (.tuple (xs ++ ys))
  | .list xs, .list ys => fun Q _ => xs.length + ys.length ≤ 16777216 ∧ Q (.list (xs ++ ys))
  | _, _ => fun _ _ => False
abbrev rAddD (K : PySem.W.Frag) : R2 := fun x y H Q => rI0 (fun i j => .int (i + j)) x y H Q ∨ (∃ i j, x = .str i ∧ y = .str j ∧ i.length + j.length ≤ sizeLine ∧ Q (.str (i ++ j)) H) ∨ rCatF K x y H Q ∨ rCat x y H Q
theorem op_addD : OpR X (binaryOp .Add) (rAddD X.K) := OpR.or op_add (OpR.or op_add_str (OpR.or op_catF op_cat))
theorem size_eq : (16777216 : Nat) = sizeLine := by decide
theorem opd_add : OpD O X (rAddD X.K) addD := fun P H x y d e Qd Ed Q hd hx hy hg hQ => by
  cases hx with
  | int i =>
    cases hy with
    | int j => exact .inl ⟨i, j, rfl, rfl, hQ.here (.int _) hg⟩
    | _ => exact hg.elim
  | str x hx =>
    cases hy with
    | str y hy => exact .inr (.inl ⟨x, y, rfl, rfl, size_eq ▸ hg.1, hQ.here (.str _ (strOk_append hx hy)) hg.2⟩)
    | _ => exact hg.elim
  | lst e1 n1 r1 =>
    cases hy with
    | lst e2 n2 r2 => exact .inr (.inr (.inr ⟨_, _, _, _, rfl, rfl, e1, e2, by rw [r1.length, r2.length]; exact size_eq ▸ hg.1, fun p np => hQ.newL hd np (r1.append r2) hg.2⟩))
    | _ => exact hg.elim
  | tup e1 r1 =>
    cases hy with
    | tup e2 r2 =>
      refine .inr (.inr (.inl ⟨_, _, _, _, rfl, rfl, e1.sq, e2.sq, by rw [r1.length, r2.length]; exact size_eq ▸ hg.1, fun z => ?_, fun _ z => ?_, fun _ _ => hQ.new (r1.append r2) hg.2⟩))
      · subst z
        cases r1
        exact hQ.here (.tup e2 r2) hg.2
      · subst z
        cases r2
        refine hQ.here (.tup e1 r1) ?_
        have := hg.2
        rw [List.append_nil] at this
        exact this
    | _ => exact hg.elim
  | _ => cases hy <;> exact hg.elim
/-! ### - * // % ** -/
def intD (C : Int → Int → Prop) (g : Int → Int → D) : D → D → WD D
  | .int i, .int j => fun Q _ => C i j ∧ Q (g i j)
  | _, _ => fun _ _ => False
theorem opd_int {C : Int → Int → Prop} {g : Int → Int → V} {g' : Int → Int → D} (h : ∀ i j P H, Dv O X.K H P (g i j) (g' i j)) : OpD O X (rI C g) (intD C g') := fun P H x y d e Qd Ed Q hd hx hy hg hQ => by
  cases hx with
  | int i =>
    cases hy with
    | int j => exact ⟨i, j, rfl, rfl, hg.1, hQ.here (h _ _ _ _) hg.2⟩
    | _ => exact hg.elim
  | _ => cases hy <;> exact hg.elim
def int0 (g : Int → Int → D) : D → D → WD D
  | .int i, .int j => fun Q _ => Q (g i j)
  | _, _ => fun _ _ => False
theorem opd_int0 {g : Int → Int → V} {g' : Int → Int → D} (h : ∀ i j P H, Dv O X.K H P (g i j) (g' i j)) : OpD O X (rI0 g) (int0 g') := fun P H x y d e Qd Ed Q hd hx hy hg hQ => by
  cases hx with
  | int i =>
    cases hy with
    | int j => exact ⟨i, j, rfl, rfl, hQ.here (h _ _ _ _) hg⟩
    | _ => exact hg.elim
  | _ => cases hy <;> exact hg.elim
abbrev subD : D → D → WD D := int0 fun i j => .int (i - j)
abbrev fdivD : D → D → WD D := intD CDiv fun i j => .int (i / j)
abbrev modD : D → D → WD D := intD (fun _ j => 0 < j) fun i j => .int (i % j)
abbrev powD : D → D → WD D := intD CPow fun i j => .int (i ^ j.toNat)
abbrev ltD : D → D → WD D := int0 fun i j => .bool (decide (i < j))
abbrev leD : D → D → WD D := int0 fun i j => .bool (decide (i ≤ j))
abbrev gtD : D → D → WD D := int0 fun i j => .bool (decide (j < i))
abbrev geD : D → D → WD D := int0 fun i j => .bool (decide (j ≤ i))
theorem opd_sub : OpD O X (rI0 fun i j => .int (i - j)) subD := opd_int0 fun _ _ _ _ => .int _
theorem opd_fdiv : OpD O X (rI CDiv fun i j => .int (i / j)) fdivD := opd_int fun _ _ _ _ => .int _
theorem opd_mod : OpD O X (rI (fun _ j => 0 < j) fun i j => .int (i % j)) modD := opd_int fun _ _ _ _ => .int _
theorem opd_pow : OpD O X (rI CPow fun i j => .int (i ^ j.toNat)) powD := opd_int fun _ _ _ _ => .int _
theorem opd_lt : OpD O X (rI0 fun i j => .bl (decide (i < j))) ltD := opd_int0 fun _ _ _ _ => .bl _
theorem opd_le : OpD O X (rI0 fun i j => .bl (decide (i ≤ j))) leD := opd_int0 fun _ _ _ _ => .bl _
theorem opd_gt : OpD O X (rI0 fun i j => .bl (decide (j < i))) gtD := opd_int0 fun _ _ _ _ => .bl _
theorem opd_ge : OpD O X (rI0 fun i j => .bl (decide (j ≤ i))) geD := opd_int0 fun _ _ _ _ => .bl _
def mulD : D → D → WD D
  | .int i, .int j => fun Q _ => CMul i j ∧ Q (.int (i * j))
  | .tuple xs, .int k => fun Q _ => xs ≠ [] ∧ 2 ≤ k ∧ k ≤ 1000 ∧ xs.length ≤ 1000 ∧ Q (.tuple (List.replicate k.toNat xs).flatten)
  | .list xs, .int k => fun Q _ => 0 ≤ k ∧ k ≤ 1000 ∧ xs.length ≤ 1000 ∧ Q (.list (List.replicate k.toNat xs).flatten)
  | _, _ => fun _ _ => False
theorem dvAll_rep {K : PySem.W.Frag} {H : Hp} {P : Addr → Prop} {vs : List V} {ds : List D} (h : DvAll O K H P vs ds) : ∀ n : Nat, DvAll O K H P (List.replicate n vs).flatten (List.replicate n ds).flatten
  | 0 => .nil
  | n + 1 => by
    rw [List.replicate_succ, List.replicate_succ, List.flatten_cons, List.flatten_cons]
    exact h.append (dvAll_rep h n)
abbrev rMulD (K : PySem.W.Frag) : R2 := fun x y H Q => rI CMul (fun i j => .int (i * j)) x y H Q ∨ rRepF K x y H Q ∨ rRep x y H Q
theorem op_mulD : OpR X (binaryOp .Mult) (rMulD X.K) := OpR.or op_mul (OpR.or op_repF op_rep)
theorem opd_mul : OpD O X (rMulD X.K) mulD := fun P H x y d e Qd Ed Q hd hx hy hg hQ => by
  cases hx with
  | int i =>
    cases hy with
    | int j => exact .inl ⟨i, j, rfl, rfl, hg.1, hQ.here (.int _) hg.2⟩
    | _ => exact hg.elim
  | tup e1 r1 =>
    cases hy with
    | int k =>
      obtain ⟨g1, g2, g3, g4, g5⟩ := hg
      refine .inr (.inl ⟨_, k, _, rfl, rfl, e1.sq, fun z => g1 ?_, g2, g3, by rw [r1.length]; exact g4, hQ.new (dvAll_rep r1 _) g5⟩)
      subst z
      cases r1
      rfl
    | _ => exact hg.elim
  | lst e1 n1 r1 =>
    cases hy with
    | int k =>
      obtain ⟨g1, g2, g3, g4⟩ := hg
      refine .inr (.inr ⟨_, k, _, rfl, rfl, e1, by omega, by omega, ?_, fun p np => hQ.newL hd np (dvAll_rep r1 _) g4⟩)
      rw [r1.length]
      have h1 : k.toNat ≤ 1000 := by omega
      have h2 := Nat.mul_le_mul g3 h1
      exact Nat.le_trans h2 (by decide)
    | _ => exact hg.elim
  | _ => cases hy <;> exact hg.elim
def negD : D → WD D
  | .int i => fun Q _ => Q (.int (-i))
  | _ => fun _ _ => False
def eUn (g : D → WD D) (f : Rho → WD D) : Rho → WD D := fun ρ Q Ed => f ρ (fun d => g d Q Ed) Ed
theorem de_neg {a : Expr} {fa : Rho → WD D} {pos : Pos} (ha : DE O X E a fa) : DE O X E (.UnaryOp .USub a pos) (eUn negD fa) := by
  obtain ⟨ta, a1, a2⟩ := ha
  refine ⟨_, pe_un un_neg a1, fun P ρ σ H Qd Ed Q hd hr hf hQ hE => a2 P ρ σ H _ Ed _ hd hr hf (fun v d H1 s1 h q => ?_) hE⟩
  cases h with
  | int i => exact ⟨i, rfl, hQ _ _ H1 s1 (.int _) q⟩
  | _ => exact q.elim
/-! ### == != in -/
def eqD (neg : Bool) : D → D → WD D := fun d e Q _ => SeqAt.shaped d = true ∧ SeqAt.shaped e = true ∧ Q (.bool (PyData.eqv d e != neg))
theorem opd_eq : OpD O X (rEqD X.K) (eqD false) := fun P H x y d e Qd Ed Q hd hx hy hg hQ => ⟨d, e, hx.dpS hg.1, hy.dpS hg.2.1, hg.1, hg.2.1, hQ.here (.bl _) (by simpa using hg.2.2)⟩
theorem opd_ne : OpD O X (rNeD X.K) (eqD true) := fun P H x y d e Qd Ed Q hd hx hy hg hQ => ⟨d, e, hx.dpS hg.1, hy.dpS hg.2.1, hg.1, hg.2.1, hQ.here (.bl _) (by simpa using hg.2.2)⟩
def inD (neg : Bool) : D → D → WD D
  | d, .list ds => fun Q _ => SeqAt.shaped d = true ∧ SeqAt.shaped (.list ds) = true ∧ Q (.bool ((ds.any fun z => PyData.eqv z d) != neg))
  | d, .tuple ds => fun Q _ => SeqAt.shaped d = true ∧ SeqAt.shaped (.tuple ds) = true ∧ Q (.bool ((ds.any fun z => PyData.eqv z d) != neg))
  | _, _ => fun _ _ => False
def rInT (K : PySem.W.Frag) (neg : Bool) : R2 := fun x y H Q => ∃ d ds, Dp K H x d ∧ Dp K H y (.tuple ds) ∧ SeqAt.shaped d = true ∧ SeqAt.shaped (.tuple ds) = true ∧ Q (.bl ((ds.any fun z => PyData.eqv z d) != neg)) H
theorem op_inT (hu : X.A.units + 65 < cLine) : OpR X (compareOp .In) (rInT X.K false) := by
  intro pins s σ H x y v u Q I rx ry h
  obtain ⟨d, ds, hd, he, sd, se, q⟩ := h
  obtain ⟨as, r1⟩ := Dp.reads I d x v hd rx
  obtain ⟨bs, r2⟩ := Dp.reads I (.tuple ds) y u he ry
  exact SeqAt.in_tuple_reads r2 r1 (SeqAt.canLay_of_shaped se) (SeqAt.canLay_of_shaped sd) (PyProof.Rows.room_in_shaped sd hu) ⟨.bl _, H, I, rfl, by simpa using q⟩
theorem op_notInT (hu : X.A.units + 65 < cLine) : OpR X (compareOp .NotIn) (rInT X.K true) := by
  intro pins s σ H x y v u Q I rx ry h
  obtain ⟨d, ds, hd, he, sd, se, q⟩ := h
  obtain ⟨as, r1⟩ := Dp.reads I d x v hd rx
  obtain ⟨bs, r2⟩ := Dp.reads I (.tuple ds) y u he ry
  exact SeqAt.notIn_tuple_reads r2 r1 (SeqAt.canLay_of_shaped se) (SeqAt.canLay_of_shaped sd) (PyProof.Rows.room_in_shaped sd hu) ⟨.bl _, H, I, rfl, by simpa using q⟩
theorem op_inA (hu : X.A.units + 65 < cLine) : OpR X (compareOp .In) (fun x y H Q => rInD X.K x y H Q ∨ rInT X.K false x y H Q) := OpR.or (op_inD hu) (op_inT hu)
theorem op_notInA (hu : X.A.units + 65 < cLine) : OpR X (compareOp .NotIn) (fun x y H Q => rNotInD X.K x y H Q ∨ rInT X.K true x y H Q) := OpR.or (op_notInD hu) (op_notInT hu)
theorem opd_in : OpD O X (fun x y H Q => rInD X.K x y H Q ∨ rInT X.K false x y H Q) (inD false) := fun P H x y d e Qd Ed Q hd hx hy hg hQ => by
  cases hy with
  | lst e1 n1 r1 => exact .inl ⟨d, _, hx.dpS hg.1, (Dv.lst e1 n1 r1).dpS hg.2.1, hg.1, hg.2.1, hQ.here (.bl _) (by simpa using hg.2.2)⟩
  | tup e1 r1 => exact .inr ⟨d, _, hx.dpS hg.1, (Dv.tup e1 r1).dpS hg.2.1, hg.1, hg.2.1, hQ.here (.bl _) hg.2.2⟩
  | _ => exact hg.elim
theorem opd_notIn : OpD O X (fun x y H Q => rNotInD X.K x y H Q ∨ rInT X.K true x y H Q) (inD true) := fun P H x y d e Qd Ed Q hd hx hy hg hQ => by
  cases hy with
  | lst e1 n1 r1 => exact .inl ⟨d, _, hx.dpS hg.1, (Dv.lst e1 n1 r1).dpS hg.2.1, hg.1, hg.2.1, hQ.here (.bl _) (by simpa using hg.2.2)⟩
  | tup e1 r1 => exact .inr ⟨d, _, hx.dpS hg.1, (Dv.tup e1 r1).dpS hg.2.1, hg.1, hg.2.1, hQ.here (.bl _) hg.2.2⟩
  | _ => exact hg.elim
/-- is None -/
def isN (neg : Bool) : D → D → WD D
  | d, .none => fun Q _ => Q (.bool ((match d with | .none => true | _ => false) != neg))
  | _, _ => fun _ _ => False
def noneD : D → Bool
  | .none => true
  | _ => false
theorem Dv.non_iff {K : PySem.W.Frag} {H : Hp} {P : Addr → Prop} {v : V} {d : D} (h : Dv O K H P v d) (ho : ∀ K H v k, O.ro K H v k → v ≠ .non) : decide (v = .non) = noneD d := by
  cases h with
  | obj h => exact decide_eq_false (ho _ _ _ _ h)
  | _ => rfl
def isND (neg : Bool) : D → D → WD D
  | d, .none => fun Q _ => Q (.bool (noneD d != neg))
  | _, _ => fun _ _ => False
theorem opd_isN : OpD O X (fun x y H Q => y = .non ∧ Q (.bl (decide (x = .non))) H) (isND false) := fun P H x y d e Qd Ed Q hd hx hy hg hQ => by
  cases hy with
  | non =>
    refine ⟨rfl, ?_⟩
    cases hx with
    | obj h =>
      obtain ⟨a, rfl⟩ := O.isRef h
      exact hQ.here (.bl _) hg
    | _ => exact hQ.here (.bl _) hg
  | _ => cases hx <;> exact hg.elim
theorem opd_notN : OpD O X (fun x y H Q => y = .non ∧ Q (.bl (!decide (x = .non))) H) (isND true) := fun P H x y d e Qd Ed Q hd hx hy hg hQ => by
  cases hy with
  | non =>
    refine ⟨rfl, ?_⟩
    cases hx with
    | obj h =>
      obtain ⟨a, rfl⟩ := O.isRef h
      exact hQ.here (.bl _) hg
    | _ => exact hQ.here (.bl _) hg
  | _ => cases hx <;> exact hg.elim
/-! ### a <= b <= c -/
def eChain (g g' : D → D → WD D) (fa fb fc : Rho → WD D) : Rho → WD D := fun ρ Q Ed => fa ρ (fun x => fb ρ (fun y => g x y (isB fun k => if k = true then fc ρ (fun z => g' y z Q Ed) Ed else Q (.bool false)) Ed) Ed) Ed
theorem de_chain {a b c : Expr} {fa fb fc : Rho → WD D} {pos : Pos} {op op' : CmpOp} {r r' : R2} {g g' : D → D → WD D} (ho : OpR X (compareOp op) r) (ho' : OpR X (compareOp op') r') (hg : OpD O X r g) (hg' : OpD O X r' g') (ha : DE O X E a fa) (hb : DE O X E b fb) (hc : DE O X E c fc)
    (hm : lastMarks [op, op'] [b, c] = false := by with_unfolding_all rfl) : DE O X E (.Compare a [op, op'] [b, c] pos) (eChain g g' fa fb fc) := by
  obtain ⟨ta, a1, a2⟩ := ha
  obtain ⟨tb, b1, b2⟩ := hb
  obtain ⟨tc, c1, c2⟩ := hc
  refine ⟨_, pe_chain ho ho' a1 b1 c1 hm, fun P ρ σ H Qd Ed Q hd hr hf hQ hE => a2 P ρ σ H _ Ed _ hd hr hf (fun x d H1 s1 h1 q1 => b2 P ρ σ H1 _ Ed _ (hd.same s1) (hr.same s1) q1 (fun y e H2 s2 h2 q2 =>
    hg P H2 x y d e _ Ed _ ((hd.same s1).same s2) (h1.same s2) h2 q2 fun z k H3 s3 h3 q3 => ?_) (hE.same s1)) hE⟩
  obtain ⟨k, e, q⟩ := bool_of h3 q3
  refine ⟨k, e, ?_⟩
  cases k with
  | true => exact c2 P ρ σ H3 _ Ed _ (((hd.same s1).same s2).same s3) (((hr.same s1).same s2).same s3) q (fun w d' H4 s4 h4 q4 => hg' P H4 y w _ d' _ Ed Q ((((hd.same s1).same s2).same s3).same s4) ((h2.same s3).same s4) h4 q4
      fun v d'' H5 s5 h5 q5 => hQ v d'' H5 ((((s1.trans s2).trans s3).trans s4).trans s5) h5 q5) (((hE.same s1).same s2).same s3)
  | false => exact hQ _ _ H3 ((s1.trans s2).trans s3) (.bl false) q
/-! ### arguments, displays -/
def aNil : Rho → WD (List D) := fun _ Q _ => Q []
def aCons (f : Rho → WD D) (g : Rho → WD (List D)) : Rho → WD (List D) := fun ρ Q Ed => f ρ (fun d => g ρ (fun ds => Q (d :: ds)) Ed) Ed
theorem da_nil : DA O X E [] aNil := ⟨_, pa_nil, fun P ρ σ H Qd Ed Q hd hr hf hQ hE => hQ _ _ H (Same.refl H) .nil rfl hf⟩
theorem da_cons {e : Expr} {es : List Expr} {f : Rho → WD D} {g : Rho → WD (List D)} (ha : DE O X E e f) (hr : DA O X E es g) (hs : starEach (e :: es) X.env = (false, eval e X.env) :: starEach es X.env := by rfl) : DA O X E (e :: es) (aCons f g) := by
  obtain ⟨ta, a1, a2⟩ := ha
  obtain ⟨tb, b1, b2⟩ := hr
  exact ⟨_, pa_cons a1 b1 hs, fun P ρ σ H Qd Ed Q hd hr hf hQ hE => a2 P ρ σ H _ Ed _ hd hr hf (fun x d H1 s1 h1 q1 => b2 P ρ σ H1 _ Ed _ (hd.same s1) (hr.same s1) q1 (fun xs ds H2 s2 h2 l2 q2 => hQ _ _ H2 (s1.trans s2) (.cons (h1.same s2) h2) (congrArg (· + 1) l2) q2) (hE.same s1)) hE⟩
def eTup (g : Rho → WD (List D)) : Rho → WD D := fun ρ Q Ed => g ρ (fun ds => ds.length ≤ 16777216 ∧ Q (.tuple ds)) Ed
def eLst (g : Rho → WD (List D)) : Rho → WD (List D) := fun ρ Q Ed => g ρ (fun ds => ds.length ≤ 16777216 ∧ Q ds) Ed
theorem de_tup {es : List Expr} {x1} {g : Rho → WD (List D)} {pos : Pos} (h : DA O X E es g) : DE O X E (.Tuple es x1 pos) (eTup g) := by
  obtain ⟨ta, a1, a2⟩ := h
  exact ⟨_, pe_tupF a1, fun P ρ σ H Qd Ed Q hd hr hf hQ hE => a2 P ρ σ H _ Ed _ hd hr hf (fun vs ds H1 s1 h1 _ q1 => ⟨by rw [h1.length]; exact size_eq ▸ q1.1, fun p o np no => hQ _ _ _ (s1.trans (same_new np)) (.tup (.inl ⟨o, no, upd_same⟩) (h1.same (same_new np))) q1.2⟩) hE⟩
theorem df_lst {es : List Expr} {g : Rho → WD (List D)} {pos : Pos} (h : DA O X E es g) : DF O X E (.List es pos) (eLst g) := by
  obtain ⟨ta, a1, a2⟩ := h
  refine ⟨_, pe_lst a1, fun P ρ σ H Qd Ed Q hd hr hf hQ hE => a2 P ρ σ H _ Ed _ hd hr hf (fun vs ds H1 s1 h1 _ q1 => ⟨by rw [h1.length]; exact size_eq ▸ q1.1, fun p np => ?_⟩) hE⟩
  exact hQ p vs ds _ (s1.trans (same_new np)) (s1.free (nn np)) upd_same (h1.fresh (nn np) (same_new np)) q1.2
end
end DL

namespace DL
open PySem PySem.Spec L2
section
variable [Nm] {O : Ob} {X : Cx} {E : XK}
/-! ### x[i] -/
theorem atI_dv {K : PySem.W.Frag} {H : Hp} {P : Addr → Prop} {vs : List V} {ds : List D} {i : Int} {d : D} (h : DvAll O K H P vs ds) (e : atI ds i = some d) : ∃ v, atI vs i = some v ∧ Dv O K H P v d := by
  unfold atI at *
  rw [← h.length] at e
  cases q : ixN vs.length i with
  | none =>
    rw [q] at e
    cases e
  | some j =>
    rw [q] at e
    obtain ⟨v, e1, h1⟩ := h.get (i := j) e
    exact ⟨v, e1, h1⟩
def orStuck {α : Type} (o : Option α) (Q : α → Prop) : Prop := match o with
  | some a => Q a
  | none => False
theorem of_orStuck {α : Type} {o : Option α} {Q : α → Prop} (h : orStuck o Q) : ∃ a, o = some a ∧ Q a := by
  cases o with
  | none => exact h.elim
  | some a => exact ⟨a, rfl, h⟩
def idxD : D → D → WD D
  | .list xs, .int i => fun Q _ => orStuck (atI xs i) Q
  | .tuple xs, .int i => fun Q _ => orStuck (atI xs i) Q
  | .str x, .int i => fun Q _ => x.length ≤ 16777216 ∧ orStuck (atI x.cps.toList i) fun c => Q (.str ⟨#[c]⟩)
  | _, _ => fun _ _ => False
theorem strOk_mem {x : Str} {c : Nat} (h : PyData.strOk x = true) (hc : c ∈ x.cps.toList) : PyData.strOk ⟨#[c]⟩ = true := by
  unfold PyData.strOk at *
  rw [Array.all_eq_true] at h
  rw [Array.mem_toList_iff, Array.mem_iff_getElem] at hc
  obtain ⟨i, hi, e⟩ := hc
  have := h i hi
  rw [e] at this
  simpa using this
theorem atI_mem {α : Type} {xs : List α} {i : Int} {c : α} (e : atI xs i = some c) : c ∈ xs := by
  unfold atI at e
  cases q : ixN xs.length i with
  | none =>
    rw [q] at e
    cases e
  | some j =>
    rw [q] at e
    exact List.mem_of_getElem? e
theorem opd_idx : OpD O X (rIx X.K) idxD := fun P H x y d e Qd Ed Q hd hx hy hg hQ => by
  cases hx with
  | lst e1 n1 r1 =>
    cases hy with
    | int i =>
      obtain ⟨d, e2, q⟩ := of_orStuck hg
      obtain ⟨v, e3, h3⟩ := atI_dv r1 e2
      exact .inl ⟨_, _, i, v, rfl, rfl, .inl (.inl e1), e3, hQ.here h3 q⟩
    | _ => exact hg.elim
  | tup e1 r1 =>
    cases hy with
    | int i =>
      obtain ⟨d, e2, q⟩ := of_orStuck hg
      obtain ⟨v, e3, h3⟩ := atI_dv r1 e2
      exact .inr (.inl ⟨_, _, i, v, rfl, rfl, e1.sq, e3, hQ.here h3 q⟩)
    | _ => exact hg.elim
  | str x hx =>
    cases hy with
    | int i =>
      obtain ⟨c, e2, q⟩ := of_orStuck hg.2
      exact .inr (.inr ⟨x, i, c, rfl, rfl, size_eq ▸ hg.1, e2, hQ.here (.str _ (strOk_mem hx (atI_mem e2))) q⟩)
    | _ => exact hg.elim
  | _ => cases hy <;> exact hg.elim
theorem de_idx {a b : Expr} {fa fb : Rho → WD D} {pos : Pos} (ha : DE O X E a fa) (hb : DE O X E b fb) (hs : PlainIx b) : DE O X E (.Subscript a b pos) (eOp idxD fa fb) := by
  obtain ⟨ta, a1, a2⟩ := ha
  obtain ⟨tb, b1, b2⟩ := hb
  exact ⟨_, pe_ix ix_seq a1 b1 hs, op2 opd_idx a2 b2⟩
/-! ### x[a:b] -/
def DO (O : Ob) (X : Cx) (E : XK) (e : Option Expr) (f : Rho → WD (Option Int)) : Prop := ∃ t, PO X e t ∧ ∀ (P : Addr → Prop) (ρ : Rho) (σ : L2.St) (H : Hp) (Qd : Option Int → Prop) (Ed : Str → Prop) (Q : Option Int → Hp → Prop),
  Dom H P → Rs O X.K P ρ σ H → f ρ Qd Ed → (∀ o H', Same H H' → Qd o → Q o H') → XOk X E H Ed → t σ H Q
def oNone : Rho → WD (Option Int) := fun _ Q _ => Q none
def oSome (f : Rho → WD D) : Rho → WD (Option Int) := fun ρ Q Ed => f ρ (fun d => match d with
  | .int i => Q (some i)
  | _ => False) Ed
theorem do_none : DO O X E none oNone := ⟨_, po_none, fun P ρ σ H Qd Ed Q hd hr hf hQ hE => hQ _ H (Same.refl H) hf⟩
theorem do_some {a : Expr} {fa : Rho → WD D} (ha : DE O X E a fa) : DO O X E (some a) (oSome fa) := by
  obtain ⟨ta, a1, a2⟩ := ha
  refine ⟨_, po_some a1, fun P ρ σ H Qd Ed Q hd hr hf hQ hE => a2 P ρ σ H _ Ed _ hd hr hf (fun v d H1 s1 h q => ?_) hE⟩
  cases h with
  | int i => exact ⟨i, rfl, hQ _ H1 s1 q⟩
  | _ => exact q.elim
def cutL {α : Type} (xs : List α) (lo hi : Option Int) : List α := (xs.drop (HT.sIx xs.length 0 lo)).take (HT.sIx xs.length xs.length hi - HT.sIx xs.length 0 lo)
theorem cut_dv {K : PySem.W.Frag} {H : Hp} {P : Addr → Prop} {vs : List V} {ds : List D} {lo hi : Option Int} (h : DvAll O K H P vs ds) : DvAll O K H P (cutV vs lo hi) (cutL ds lo hi) := by
  unfold cutV cutL
  rw [h.length]
  exact (h.drop _).take _
def cutS (x : Str) (lo hi : Option Int) : Str := ⟨(cutL x.cps.toList lo hi).toArray⟩
def slD (d : D) (lo hi : Option Int) : WD D := match d with
  | .list xs => fun Q _ => Q (.list (cutL xs lo hi))
  | .tuple xs => fun Q _ => Q (.tuple (cutL xs lo hi))
  | _ => fun _ _ => False
def eSl (fa : Rho → WD D) (fl fh : Rho → WD (Option Int)) : Rho → WD D := fun ρ Q Ed => fa ρ (fun d => fl ρ (fun lo => fh ρ (fun hi => slD d lo hi Q Ed) Ed) Ed) Ed
theorem de_slice {a : Expr} {lo hi : Option Expr} {fa : Rho → WD D} {fl fh : Rho → WD (Option Int)} {p2 pos : Pos} (ha : DE O X E a fa) (hl : DO O X E lo fl) (hh : DO O X E hi fh) : DE O X E (.Subscript a (.Slice lo hi none p2) pos) (eSl fa fl fh) := by
  obtain ⟨ta, a1, a2⟩ := ha
  obtain ⟨tl, l1, l2⟩ := hl
  obtain ⟨th, h1, h2⟩ := hh
  refine ⟨_, pe_slice (SlR.or sl_list sl_tupF) a1 l1 h1, fun P ρ σ H Qd Ed Q hd hr hf hQ hE => a2 P ρ σ H _ Ed _ hd hr hf (fun v d H1 s1 k1 q1 => l2 P ρ σ H1 _ Ed _ (hd.same s1) (hr.same s1) q1 (fun lo H2 s2 q2 =>
    h2 P ρ σ H2 _ Ed _ ((hd.same s1).same s2) ((hr.same s1).same s2) q2 (fun hi H3 s3 q3 => ?_) ((hE.same s1).same s2)) (hE.same s1)) hE⟩
  have s13 : Same H H3 := (s1.trans s2).trans s3
  have k3 := (k1.same s2).same s3
  cases k3 with
  | lst e n r => exact .inl ⟨_, _, rfl, .inl (.inl e), fun p np => hQ _ _ _ (s13.trans (same_new np)) (.lst upd_same ((hd.same s13).new (nn np)) ((cut_dv r).same (same_new np))) q3⟩
  | tup e r =>
    refine .inr ⟨_, _, rfl, e.sq, fun z => ?_, fun z p o np no => hQ _ _ _ (s13.trans (same_new np)) (.tup (.inl ⟨o, no, upd_same⟩) ((cut_dv r).same (same_new np))) q3⟩
    rename_i xs ds
    refine hQ _ _ _ s13 (.tup e r) ?_
    have e2 : cutL ds lo hi = ds := by
      unfold cutL
      rw [r.length] at z
      rw [z.1, z.2, List.drop_zero, Nat.sub_zero, List.take_length]
    rw [← e2]
    exact q3
  | _ => exact q3.elim
/-! ### built-ins by name -/
/-- a call upon values, told by data -/
def CbD (O : Ob) (X : Cx) (r : List V → Hp → VK → Prop) (g : List D → WD D) : Prop := ∀ (P : Addr → Prop) (H : Hp) (xs : List V) (ds : List D) (Qd : D → Prop) (Ed : Str → Prop) (Q : VK), Dom H P → DvAll O X.K H P xs ds → g ds Qd Ed → VOk O X.K P H Qd Q → r xs H Q
def CbF (O : Ob) (X : Cx) (r : List V → Hp → VK → Prop) (g : List D → WD (List D)) : Prop := ∀ (P : Addr → Prop) (H : Hp) (xs : List V) (ds : List D) (Qd : List D → Prop) (Ed : Str → Prop) (Q : VK), Dom H P → DvAll O X.K H P xs ds → g ds Qd Ed →
  (∀ p vs es H', Same H H' → Nn H p → H' p = some (.lst vs) → DvAll O X.K H' (fun a => P a ∨ a = p) vs es → Qd es → Q (.ref p) H') → r xs H Q
def eCb (g : List D → WD D) (fa : Rho → WD (List D)) : Rho → WD D := fun ρ Q Ed => fa ρ (fun ds => g ds Q Ed) Ed
def eCbF (g : List D → WD (List D)) (fa : Rho → WD (List D)) : Rho → WD (List D) := fun ρ Q Ed => fa ρ (fun ds => g ds Q Ed) Ed
variable {e : Expr} {es : List Expr} {fa : Rho → WD (List D)} {pos p : Pos}
theorem de_callB {id : String} {r : List V → Hp → VK → Prop} {g : List D → WD D} {x : Str} (hc : CallR X (.builtin id) r) (hg' : CbD O X r g) (hg : Gl X x) (hm : X.mg x = none) (hv : bootBuiltins x = some (.builtin id)) (ha : DA O X E (e :: es) fa) (hn : x ≠ "__name__" := by decide) (hdb : (x == ("__debug__" : Str)) = false := by decide)
    (he : starEach (e :: es) X.env = (false, eval e X.env) :: starEach es X.env := by rfl) (hpl : (backTo pos (starEach es X.env)).any (·.1) = false := by rfl) : DE O X E (.Call (.Name x p) (e :: es) [] pos) (eCb g fa) := by
  obtain ⟨ta, a1, a2⟩ := ha
  exact ⟨_, pe_callB hc hg hm hv a1 hn hdb he hpl, fun P ρ σ H Qd Ed Q hd hr hf hQ hE => a2 P ρ σ H _ Ed _ hd hr hf (fun vs ds H1 s1 h1 _ q1 => hg' P H1 vs ds Qd Ed Q (hd.same s1) h1 q1 fun v d H2 s2 h2 q2 => hQ v d H2 (s1.trans s2) h2 q2) hE⟩
theorem de_callTy {T : String} {r : List V → Hp → VK → Prop} {g : List D → WD D} {x : Str} (hc : CallR X (.type T) r) (hg' : CbD O X r g) (hg : Gl X x) (hm : X.mg x = none) (hv : bootBuiltins x = some (.type T)) (ha : DA O X E (e :: es) fa) (hn : x ≠ "__name__" := by decide) (hdb : (x == ("__debug__" : Str)) = false := by decide)
    (he : starEach (e :: es) X.env = (false, eval e X.env) :: starEach es X.env := by rfl) (hpl : (backTo pos (starEach es X.env)).any (·.1) = false := by rfl) : DE O X E (.Call (.Name x p) (e :: es) [] pos) (eCb g fa) := by
  obtain ⟨ta, a1, a2⟩ := ha
  exact ⟨_, pe_callTy hc hg hm hv a1 hn hdb he hpl, fun P ρ σ H Qd Ed Q hd hr hf hQ hE => a2 P ρ σ H _ Ed _ hd hr hf (fun vs ds H1 s1 h1 _ q1 => hg' P H1 vs ds Qd Ed Q (hd.same s1) h1 q1 fun v d H2 s2 h2 q2 => hQ v d H2 (s1.trans s2) h2 q2) hE⟩
theorem df_callB {id : String} {r : List V → Hp → VK → Prop} {g : List D → WD (List D)} {x : Str} (hc : CallR X (.builtin id) r) (hg' : CbF O X r g) (hg : Gl X x) (hm : X.mg x = none) (hv : bootBuiltins x = some (.builtin id)) (ha : DA O X E (e :: es) fa) (hn : x ≠ "__name__" := by decide) (hdb : (x == ("__debug__" : Str)) = false := by decide)
    (he : starEach (e :: es) X.env = (false, eval e X.env) :: starEach es X.env := by rfl) (hpl : (backTo pos (starEach es X.env)).any (·.1) = false := by rfl) : DF O X E (.Call (.Name x p) (e :: es) [] pos) (eCbF g fa) := by
  obtain ⟨ta, a1, a2⟩ := ha
  exact ⟨_, pe_callB hc hg hm hv a1 hn hdb he hpl, fun P ρ σ H Qd Ed Q hd hr hf hQ hE => a2 P ρ σ H _ Ed _ hd hr hf (fun vs ds H1 s1 h1 _ q1 => hg' P H1 vs ds Qd Ed Q (hd.same s1) h1 q1 fun p vs es H2 s2 n2 e2 h2 q2 => hQ p vs es H2 (s1.trans s2) (s1.free n2) e2 h2 q2) hE⟩
theorem df_callTy {T : String} {r : List V → Hp → VK → Prop} {g : List D → WD (List D)} {x : Str} (hc : CallR X (.type T) r) (hg' : CbF O X r g) (hg : Gl X x) (hm : X.mg x = none) (hv : bootBuiltins x = some (.type T)) (ha : DA O X E (e :: es) fa) (hn : x ≠ "__name__" := by decide) (hdb : (x == ("__debug__" : Str)) = false := by decide)
    (he : starEach (e :: es) X.env = (false, eval e X.env) :: starEach es X.env := by rfl) (hpl : (backTo pos (starEach es X.env)).any (·.1) = false := by rfl) : DF O X E (.Call (.Name x p) (e :: es) [] pos) (eCbF g fa) := by
  obtain ⟨ta, a1, a2⟩ := ha
  exact ⟨_, pe_callTy hc hg hm hv a1 hn hdb he hpl, fun P ρ σ H Qd Ed Q hd hr hf hQ hE => a2 P ρ σ H _ Ed _ hd hr hf (fun vs ds H1 s1 h1 _ q1 => hg' P H1 vs ds Qd Ed Q (hd.same s1) h1 q1 fun p vs es H2 s2 n2 e2 h2 q2 => hQ p vs es H2 (s1.trans s2) (s1.free n2) e2 h2 q2) hE⟩
/-- one argument -/
def one1 (g : D → WD D) : List D → WD D
  | [d] => g d
  | _ => fun _ _ => False
def one1F (g : D → WD (List D)) : List D → WD (List D)
  | [d] => g d
  | _ => fun _ _ => False
def lenD : D → WD D
  | .list xs => fun Q _ => Q (.int xs.length)
  | .tuple xs => fun Q _ => Q (.int xs.length)
  | .str x => fun Q _ => x.length ≤ 16777216 ∧ Q (.int x.length)
  | _ => fun _ _ => False
theorem cbd_len : CbD O X (fun xs H Q => ∃ x n, xs = [x] ∧ LenV X.K x H n ∧ Q (.int n) H) (one1 lenD) := fun P H xs ds Qd Ed Q hd hx hg hQ => by
  cases hx with
  | nil => exact hg.elim
  | cons h r =>
    cases r with
    | cons _ _ => exact hg.elim
    | nil =>
      cases h with
      | lst e n r => exact ⟨_, _, rfl, .inl ⟨_, .inl (.inl e), rfl⟩, hQ.here (.int _) (by rw [r.length]; exact hg)⟩
      | tup e r => exact ⟨_, _, rfl, .inr ⟨_, e.sq, rfl⟩, hQ.here (.int _) (by rw [r.length]; exact hg)⟩
      | str x hx => exact ⟨_, _, rfl, ⟨size_eq ▸ hg.1, rfl⟩, hQ.here (.int _) hg.2⟩
      | _ => exact hg.elim
def tupleD : D → WD D
  | .list xs => fun Q _ => Q (.tuple xs)
  | .tuple xs => fun Q _ => Q (.tuple xs)
  | _ => fun _ _ => False
theorem cbd_tuple : CbD O X (fun xs H Q => ∃ p ys, xs = [.ref p] ∧ ((SqL X.K H p ys ∧ NewT ys H Q) ∨ (SqT X.K H p ys ∧ Q (.ref p) H))) (one1 tupleD) := fun P H xs ds Qd Ed Q hd hx hg hQ => by
  cases hx with
  | nil => exact hg.elim
  | cons h r =>
    cases r with
    | cons _ _ => exact hg.elim
    | nil =>
      cases h with
      | lst e n r => exact ⟨_, _, rfl, .inl ⟨.inl (.inl e), hQ.new r hg⟩⟩
      | tup e r => exact ⟨_, _, rfl, .inr ⟨e.sq, hQ.here (.tup e r) hg⟩⟩
      | _ => exact hg.elim
def listD : D → WD (List D)
  | .list xs => fun Q _ => Q xs
  | .tuple xs => fun Q _ => Q xs
  | _ => fun _ _ => False
theorem cbf_list : CbF O X (fun xs H Q => ∃ p ys, xs = [.ref p] ∧ (SqL X.K H p ys ∨ SqT X.K H p ys) ∧ ∀ l, H l = none → Q (.ref l) (upd H l (.lst ys))) (one1F listD) := fun P H xs ds Qd Ed Q hd hx hg hQ => by
  cases hx with
  | nil => exact hg.elim
  | cons h r =>
    cases r with
    | cons _ _ => exact hg.elim
    | nil =>
      cases h with
      | lst e n r => exact ⟨_, _, rfl, .inl (.inl (.inl e)), fun l nl => hQ _ _ _ _ (same_new nl) (nn nl) upd_same (r.fresh (nn nl) (same_new nl)) hg⟩
      | tup e r => exact ⟨_, _, rfl, .inr e.sq, fun l nl => hQ _ _ _ _ (same_new nl) (nn nl) upd_same (r.fresh (nn nl) (same_new nl)) hg⟩
      | _ => exact hg.elim
/-- all, any of bools -/
def boolsD : List D → Option (List Bool)
  | [] => some []
  | .bool b :: r => (boolsD r).map (b :: ·)
  | _ => none
theorem bools_dv {K : PySem.W.Frag} {H : Hp} {P : Addr → Prop} : ∀ {ds : List D} {vs : List V} {bs : List Bool}, DvAll O K H P vs ds → boolsD ds = some bs → vs = bs.map V.bl
  | [], _, _, .nil, e => by
    cases e
    rfl
  | d :: ds, _, _, .cons h r, e => by
    cases h with
    | bl b =>
      unfold boolsD at e
      cases q : boolsD ds with
      | none =>
        rw [q] at e
        cases e
      | some cs =>
        rw [q] at e
        cases e
        rw [bools_dv r q]
        rfl
    | _ => cases e
def allD : D → WD D
  | .list xs => fun Q _ => orStuck (boolsD xs) fun bs => Q (.bool (bs.all id))
  | _ => fun _ _ => False
def anyD : D → WD D
  | .list xs => fun Q _ => orStuck (boolsD xs) fun bs => Q (.bool (bs.any id))
  | _ => fun _ _ => False
theorem cbd_all : CbD O X (rAll X.K) (one1 allD) := fun P H xs ds Qd Ed Q hd hx hg hQ => by
  cases hx with
  | nil => exact hg.elim
  | cons h r =>
    cases r with
    | cons _ _ => exact hg.elim
    | nil =>
      cases h with
      | lst e n r =>
        obtain ⟨bs, e2, q⟩ := of_orStuck hg
        have := bools_dv r e2
        subst this
        exact ⟨_, bs, rfl, .inl (.inl e), hQ.here (.bl _) q⟩
      | _ => exact hg.elim
theorem cbd_any : CbD O X (rAny X.K) (one1 anyD) := fun P H xs ds Qd Ed Q hd hx hg hQ => by
  cases hx with
  | nil => exact hg.elim
  | cons h r =>
    cases r with
    | cons _ _ => exact hg.elim
    | nil =>
      cases h with
      | lst e n r =>
        obtain ⟨bs, e2, q⟩ := of_orStuck hg
        have := bools_dv r e2
        subst this
        exact ⟨_, bs, rfl, .inl (.inl e), hQ.here (.bl _) q⟩
      | _ => exact hg.elim
/-- isinstance(x, T), T a built-in class -/
def tyD : D → Option String
  | .none => some "NoneType"
  | .bool _ => some "bool"
  | .int _ => some "int"
  | .str _ => some "str"
  | .list _ => some "list"
  | .tuple _ => some "tuple"
  | .dict _ => none
theorem sqT_ty {K : PySem.W.Frag} {H : Hp} {a : Addr} {xs : List V} (h : SqT K H a xs) : TyX K H (.ref a) (.type "tuple") := by
  rcases h with (h | ⟨o, h⟩) | ⟨o, its, n, h1, h2, _⟩
  · exact .base (.tup h)
  · exact .fTuple h
  · exact .kTuple h1 h2
theorem tyD_ok {K : PySem.W.Frag} {H : Hp} {P : Addr → Prop} {v : V} {d : D} {T : String} (h : Dv O K H P v d) (e : tyD d = some T) : TyX K H v (.type T) := by
  cases h with
  | non => cases e; exact .base .non
  | bl b => cases e; exact .base (.bl b)
  | int i => cases e; exact .base (.int i)
  | str x _ => cases e; exact .base (.str x)
  | lst h _ _ => cases e; exact .base (.lst h)
  | tup h _ => cases e; exact sqT_ty h.sq
  | dct _ _ _ _ => cases e
  | dcz _ _ _ => cases e
  | obj _ => cases e
def isiD (T : String) (d : D) : WD D := fun Q _ => orStuck ((tyD d).bind fun t => kitB t T) fun b => Q (.bool b)
def eUn1 (g : D → WD D) (fa : Rho → WD D) : Rho → WD D := fun ρ Q Ed => fa ρ (fun d => g d Q Ed) Ed
theorem de_isi {x T : Str} {n : String} {e : Expr} {fa : Rho → WD D} {p1 p2 pos : Pos} (ha : DE O X E e fa) (hg : Gl X "isinstance") (hm : X.mg "isinstance" = none) (hg2 : Gl X T) (hm2 : X.mg T = none) (hv2 : bootBuiltins T = some (.type n)) (hn2 : T ≠ "__name__" := by decide) (hd2 : (T == ("__debug__" : Str)) = false := by decide)
    (hv : bootBuiltins "isinstance" = some (.builtin "isinstance") := by decide +kernel)
    (hs : starEach [e, .Name T p2] X.env = (false, eval e X.env) :: starEach [.Name T p2] X.env := by rfl) (hs2 : starEach [.Name T p2] X.env = (false, eval (.Name T p2) X.env) :: starEach [] X.env := by rfl)
    (hpl : (backTo pos (starEach [.Name T p2] X.env)).any (·.1) = false := by rfl) :
    DE O X E (.Call (.Name "isinstance" p1) [e, .Name T p2] [] pos) (eUn1 (isiD n) fa) := by
  obtain ⟨ta, a1, a2⟩ := ha
  have hT : PE X (.Name T p2) (tC (.ty n)) := pe_bltn hg2 hm2 hv2 rfl hn2 hd2
  refine ⟨_, pe_callB call_isi hg hm hv (pa_cons a1 (pa_cons hT pa_nil hs2) hs) (by decide) (by decide) hs hpl, fun P ρ σ H Qd Ed Q hd hr hf hQ hE => a2 P ρ σ H _ Ed _ hd hr hf (fun v d H1 s1 h1 q1 => ?_) hE⟩
  obtain ⟨b, e1, q⟩ := of_orStuck q1
  cases q2 : tyD d with
  | none =>
    rw [q2] at e1
    cases e1
  | some t =>
    rw [q2] at e1
    exact ⟨v, .ty n, .type t, .type n, b, rfl, .ty n, tyD_ok h1 q2, kit_ty e1, hQ _ _ H1 s1 (.bl _) q⟩
/-! ### a def of the program -/
/-- the promise of a def, told by data -/
def spD (O : Ob) (K : PySem.W.Frag) (mg : Str → Option Value) (F : List D → WD D) (n : Nat) : Sp := fun vs H Q E' => ∃ (P : Addr → Prop) (ds : List D) (Qd : D → Prop) (Ed : Str → Prop), Dom H P ∧ DvAll O K H P vs ds ∧ ds.length = n ∧ F ds Qd Ed ∧ VOk O K P H Qd Q ∧
  ∀ c a H', Same H H' → mg c = some (.ref a) → Ed c → E' (.ref a) none H'
theorem de_call {CX : CXT} {k : Nat} {f : Addr} {fd : FuncData} {ps : List Str} {F : List D → WD D} {n : Nat} {x : Str} (G : FnOk X.prog X.w X.K X.mg X.base CX k f fd ps (spD O X.K X.mg F n)) (hr : Room k X.A) (hg : Gl X x) (hm : X.mg x = some (.ref f)) (hk : PySem.W.keepIn X.K (.ref f) = true) (hb : Binds X.K fd ps [])
    (hx : Passes CX X E) (ha : DA O X E (e :: es) fa) (hl : n = (e :: es).length := by rfl) (hdb : (x == ("__debug__" : Str)) = false := by decide) (he : starEach (e :: es) X.env = (false, eval e X.env) :: starEach es X.env := by rfl) (hpl : (backTo pos (starEach es X.env)).any (·.1) = false := by rfl) :
    DE O X E (.Call (.Name x p) (e :: es) [] pos) (eCb F fa) := by
  obtain ⟨ta, a1, a2⟩ := ha
  refine ⟨_, pe_call G hr hg hm hk hb (.nil : Vals [] []) hx a1 hdb he hpl, fun P ρ σ H Qd Ed Q hd hr hf hQ hE => a2 P ρ σ H _ Ed _ hd hr hf (fun vs ds H1 s1 h1 l1 q1 => ?_) hE⟩
  show spD O X.K X.mg F n (vs ++ []) H1 Q E
  rw [List.append_nil]
  exact ⟨P, ds, Qd, Ed, hd.same s1, h1, l1.trans hl.symm, q1, fun v d H2 s2 h2 q2 => hQ v d H2 (s1.trans s2) h2 q2, fun c a H2 s2 m z => hE c a H2 (s1.trans s2) m z⟩
end
end DL

namespace DL
open PySem PySem.Spec L2
/-! ### targets -/
inductive Tg where
  | name (i : Nat)
  | tup (ts : List Tg)
mutual
def bindT : Tg → D → Option (List (Nat × D))
  | .name i, d => some [(i, d)]
  | .tup ts, .tuple ds => bindAll ts ds
  | _, _ => none
def bindAll : List Tg → List D → Option (List (Nat × D))
  | [], [] => some []
  | t :: ts, d :: ds => match bindT t d, bindAll ts ds with
    | some a, some b => some (a ++ b)
    | _, _ => none
  | _, _ => none
end
def setAll {α : Type} (l : List (Option α)) : List (Nat × α) → List (Option α)
  | [] => l
  | (i, a) :: r => setAll (l.set i (some a)) r
theorem setAll_append {α : Type} : ∀ (a b : List (Nat × α)) (l : List (Option α)), setAll l (a ++ b) = setAll (setAll l a) b
  | [], _, _ => rfl
  | (i, x) :: r, b, l => setAll_append r b (l.set i (some x))
theorem setAll_length {α : Type} : ∀ (a : List (Nat × α)) (l : List (Option α)), (setAll l a).length = l.length
  | [], _ => rfl
  | (i, x) :: r, l => by
    show (setAll (l.set i (some x)) r).length = l.length
    rw [setAll_length r, List.length_set]
/-- the same slots, values for data -/
inductive Bnd (O : Ob) (K : PySem.W.Frag) (H : Hp) (P : Addr → Prop) : List (Nat × V) → List (Nat × D) → Prop
  | nil : Bnd O K H P [] []
  | cons {i : Nat} {v : V} {d : D} {a : List (Nat × V)} {b : List (Nat × D)} : Dv O K H P v d → Bnd O K H P a b → Bnd O K H P ((i, v) :: a) ((i, d) :: b)
section
variable [Nm] {O : Ob} {X : Cx} {E : XK}
theorem Bnd.append {K : PySem.W.Frag} {H : Hp} {P : Addr → Prop} : ∀ {a a' : List (Nat × V)} {b b' : List (Nat × D)}, Bnd O K H P a b → Bnd O K H P a' b' → Bnd O K H P (a ++ a') (b ++ b')
  | _, _, _, _, .nil, h => h
  | _, _, _, _, .cons h r, k => .cons h (r.append k)
theorem Bnd.keys {K : PySem.W.Frag} {H : Hp} {P : Addr → Prop} : ∀ {a : List (Nat × V)} {b : List (Nat × D)}, Bnd O K H P a b → a.map (·.1) = b.map (·.1)
  | _, _, .nil => rfl
  | _, _, .cons _ r => by rw [List.map_cons, List.map_cons, r.keys]
theorem Rs.set {K : PySem.W.Frag} {P : Addr → Prop} {ρ : Rho} {σ : L2.St} {H : Hp} {i : Nat} {v : V} {d : D} (h : Rs O K P ρ σ H) (hv : Dv O K H P v d) : Rs O K P (ρ.set i (some d)) (σ.set i (some v)) H := ⟨by rw [List.length_set, List.length_set, h.len], fun j d' e => by
  have hl := h.len
  by_cases hj : i = j
  · subst hj
    have hlt : i < ρ.length := by
      have := (List.getElem?_eq_some_iff.mp e).1
      rw [List.length_set] at this
      exact this
    rw [List.getElem?_set_self hlt] at e
    cases e
    exact ⟨v, by rw [List.getElem?_set_self (by omega)], hv⟩
  · rw [List.getElem?_set_ne hj] at e
    obtain ⟨w, e1, h1⟩ := h.get j d' e
    exact ⟨w, by rw [List.getElem?_set_ne hj]; exact e1, h1⟩⟩
theorem Rs.many {K : PySem.W.Frag} {P : Addr → Prop} {H : Hp} : ∀ {a : List (Nat × V)} {b : List (Nat × D)} {ρ : Rho} {σ : L2.St}, Bnd O K H P a b → Rs O K P ρ σ H → Rs O K P (setAll ρ b) (setAll σ a) H
  | _, _, _, _, .nil, h => h
  | (i, v) :: a, (_, d) :: b, ρ, σ, .cons hv r, h => by
    have := Rs.many (ρ := ρ.set i (some d)) (σ := σ.set i (some v)) r (h.set hv)
    exact this
/-- a target -/
def DG (O : Ob) (X : Cx) (tg : Expr) (T : Tg) : Prop := ∃ g, PG X tg g ∧ ∀ (P : Addr → Prop) (σ : L2.St) (H : Hp) (v : V) (d : D) (l : List (Nat × D)) (Q : L2.St → Hp → Prop), Dv O X.K H P v d → bindT T d = some l → (∀ a, Bnd O X.K H P a l → Q (setAll σ a) H) → g v σ H Q
def DGs (O : Ob) (X : Cx) (ts : List Expr) (T : List Tg) : Prop := ts.length = T.length ∧ ∃ g, PGs X ts g ∧ ∀ (P : Addr → Prop) (σ : L2.St) (H : Hp) (vs : List V) (ds : List D) (l : List (Nat × D)) (Q : L2.St → Hp → Prop), DvAll O X.K H P vs ds → bindAll T ds = some l → (∀ a, Bnd O X.K H P a l → Q (setAll σ a) H) → g vs σ H Q
theorem dg_name (i : Nat) {x : Str} {pos : Pos} (hN : X.N.Nodup) (hi : X.N[i]? = some x := by rfl) (hx : Loc X.env.scope x := by first | exact Or.inl rfl | exact Or.inr rfl) (hf : X.fn x = true ∨ X.env.scope.names.lookup x = some .local := by first | exact .inl rfl | exact .inr rfl | assumption) : DG O X (.Name x pos) (.name i) :=
  ⟨_, pg_name hN hi hx hf, fun P σ H v d l Q hv e hQ => by
    cases e
    exact hQ [(i, v)] (.cons hv .nil)⟩
theorem dgs_nil : DGs O X [] [] := ⟨rfl, _, pgs_nil, fun P σ H vs ds l Q hv e hQ => by
  cases hv with
  | nil =>
    cases e
    exact ⟨rfl, hQ [] .nil⟩
  | cons _ _ => cases e⟩
theorem dgs_cons {e : Expr} {es : List Expr} {t : Tg} {ts : List Tg} (h1 : DG O X e t) (h2 : DGs O X es ts) (hs : (assignEach (e :: es) X.env).map (·.2) = assign e X.env :: (assignEach es X.env).map (·.2) := by rfl) : DGs O X (e :: es) (t :: ts) := by
  obtain ⟨g, a1, a2⟩ := h1
  obtain ⟨hl, g', b1, b2⟩ := h2
  refine ⟨congrArg (· + 1) hl, _, pgs_cons a1 b1 hs, fun P σ H vs ds l Q hv e hQ => ?_⟩
  cases hv with
  | nil => cases e
  | cons hv r =>
    rename_i v vs d ds
    unfold bindAll at e
    cases q1 : bindT t d with
    | none =>
      rw [q1] at e
      cases e
    | some la =>
      cases q2 : bindAll ts ds with
      | none =>
        rw [q1, q2] at e
        cases e
      | some lb =>
        rw [q1, q2] at e
        cases e
        refine ⟨v, vs, rfl, a2 P σ H v d la _ hv q1 fun a ha => b2 P _ H vs ds lb _ r q2 fun b hb => ?_⟩
        rw [← setAll_append]
        exact hQ _ (ha.append hb)
theorem bindAll_len : ∀ {ts : List Tg} {ds : List D} {l : List (Nat × D)}, bindAll ts ds = some l → ts.length = ds.length
  | [], [], _, _ => rfl
  | [], _ :: _, _, e => by simp [bindAll] at e
  | _ :: _, [], _, e => by simp [bindAll] at e
  | t :: ts, d :: ds, l, e => by
    unfold bindAll at e
    cases q1 : bindT t d with
    | none =>
      rw [q1] at e
      cases e
    | some la =>
      cases q2 : bindAll ts ds with
      | none =>
        rw [q1, q2] at e
        cases e
      | some lb => exact congrArg (· + 1) (bindAll_len q2)
theorem dg_tup {es : List Expr} {k : Nat} {ts : List Tg} {pos : Pos} (hc : X.calm = true) (h : DGs O X es ts) (hn : (assignEach es X.env).length = es.length := by rfl) (hst : (assignEach es X.env).findIdx? (·.1) = none := by rfl) : DG O X (.Tuple es k pos) (.tup ts) := by
  obtain ⟨hl, g, a1, a2⟩ := h
  refine ⟨_, pg_tup hc a1 hn hst, fun P σ H v d l Q hv e hQ => ?_⟩
  cases hv with
  | tup e1 r =>
    rename_i xs ds
    have e' : bindAll ts ds = some l := by simpa [bindT] using e
    exact ⟨_, _, rfl, e1.sq, by rw [r.length, ← bindAll_len e', hl], a2 P σ H _ _ l Q r e' hQ⟩
  | _ => simp [bindT, dictE, dictZ] at e
theorem DG.pg {tg : Expr} {T : Tg} (h : DG O X tg T) : PG X tg (fun v σ H Q => ∃ (P : Addr → Prop) (d : D) (l : List (Nat × D)), Dv O X.K H P v d ∧ bindT T d = some l ∧ ∀ a, Bnd O X.K H P a l → Q (setAll σ a) H) := by
  obtain ⟨g, h1, h2⟩ := h
  exact ⟨fun pins s σ H v u Q I r ⟨P, d, l, a, b, c⟩ => h1.run pins s σ H v u Q I r (h2 P σ H v d l Q a b c)⟩
/-! ### what a loop walks -/
/-- what stands outside P stands -/
def Kf (P : Addr → Prop) (H H' : Hp) : Prop := ∀ a o, H a = some o → ¬ P a → ¬ Sf o → H' a = some o
theorem Kf.refl {P : Addr → Prop} (H : Hp) : Kf P H H := fun _ _ e _ _ => e
theorem Kf.of {P : Addr → Prop} {H H' : Hp} (s : Same H H') : Kf P H H' := fun a o e _ n => s.all a o e n
theorem Kf.trans {P : Addr → Prop} {H H1 H2 : Hp} (a : Kf P H H1) (b : Kf P H1 H2) : Kf P H H2 := fun x o e n z => b x o (a x o e n z) n z
theorem out_of {H : Hp} {P P' : Addr → Prop} (hp : ∀ a, P' a → P a ∨ Nn H a) {a : Addr} {o : HO} (e : H a = some o) (s : ¬ Sf o) (n : ¬ P a) : ¬ P' a := fun z => by
  rcases hp a z with z | z
  · exact n z
  · exact s (z o e)
theorem Nl.kf {H H' : Hp} {P P' : Addr → Prop} (hp : ∀ a, P' a → P a ∨ Nn H a) (k : Kf P' H H') (np : Dom H P) : Nl H H' := fun a o e m s => k a o e (out_of hp e s fun z => m (np.mb e z)) s
theorem Dv.kf {K : PySem.W.Frag} {H H' : Hp} {P P' : Addr → Prop} {v : V} {d : D} (h : Dv O K H P v d) (hp : ∀ a, P' a → P a ∨ Nn H a) (k : Kf P' H H') (np : Dom H P) : Dv O K H' P' v d :=
  h.keep (.kf hp k np) (fun a o e m n => k a o e (out_of hp e (no_mb m) n) (no_mb m)) fun a o e m n => out_of hp e (no_mb m) n
theorem DvAll.kf {K : PySem.W.Frag} {H H' : Hp} {P P' : Addr → Prop} {v : List V} {d : List D} (h : DvAll O K H P v d) (hp : ∀ a, P' a → P a ∨ Nn H a) (k : Kf P' H H') (np : Dom H P) : DvAll O K H' P' v d :=
  h.keep (.kf hp k np) (fun a o e m n => k a o e (out_of hp e (no_mb m) n) (no_mb m)) fun a o e m n => out_of hp e (no_mb m) n
theorem Rs.kf {K : PySem.W.Frag} {H H' : Hp} {P P' : Addr → Prop} {ρ : Rho} {σ : L2.St} (h : Rs O K P ρ σ H) (hp : ∀ a, P' a → P a ∨ Nn H a) (k : Kf P' H H') (np : Dom H P) : Rs O K P' ρ σ H' := ⟨h.len, fun i d e =>
  let ⟨v, e1, h1⟩ := h.get i d e
  ⟨v, e1, h1.kf hp k np⟩⟩
structure Drv (O : Ob) (K : PySem.W.Frag) (P : Addr → Prop) (J : It) (xs : List D) (H : Hp) : Prop where
  go : ∀ i, i < xs.length → J.go i H
  yld : ∀ i x H' d, J.yld i H x H' → xs[i]? = some d → Same H H' ∧ Dv O K H' P x d
  stop : ∀ i, xs.length ≤ i → J.stop i H
/-- .. whatever else comes -/
def DrvA (O : Ob) (K : PySem.W.Frag) (P : Addr → Prop) (J : It) (xs : List D) (H : Hp) : Prop := ∀ (P' : Addr → Prop) H', (∀ a, P a → P' a) → (∀ a, P' a → P a ∨ Nn H a) → Kf P' H H' → Drv O K P' J xs H'
def DI (O : Ob) (X : Cx) (E : XK) (tg iter : Expr) (f : Rho → WD (List D)) : Prop := ∃ wi, PI X tg iter wi ∧ ∀ (P : Addr → Prop) (ρ : Rho) (σ : L2.St) (H : Hp) (Qd : List D → Prop) (Ed : Str → Prop) (R : It → Hp → Prop),
  Dom H P → Rs O X.K P ρ σ H → f ρ Qd Ed → (∀ J xs H', Same H H' → DrvA O X.K P J xs H' → Qd xs → R J H') → XOk X E H Ed → wi σ H R
/-- a list or a tuple -/
def iSeq (K : PySem.W.Frag) (tl : TE) : TI := fun σ H R => tl σ H fun x H1 => ∃ a, x = .ref a ∧ (((∃ xs, SqL K H1 a xs) ∧ R (Itl K a) H1) ∨ ((∃ xs, SqT K H1 a xs) ∧ R (Itt K a) H1))
theorem pi_seq {tg l : Expr} {tl : TE} (hl : PE X l tl) : PI X tg l (iSeq X.K tl) := by
  refine ⟨fun pins s σ H R I h => ?_⟩
  refine thn (hl.run pins s σ H _ I h) fun v s1 ⟨x, H1, I1, r1, q1⟩ => ?_
  obtain ⟨a, e, q1⟩ := q1
  subst e
  cases r1
  rcases q1 with ⟨⟨xs, hq⟩, q⟩ | ⟨⟨xs, hq⟩, q⟩
  · obtain ⟨its, rv, p, hz⟩ := I1.list hq
    refine wpAny_pyIter_list p.isList ?_
    refine ⟨s1.heap.objs.size, [s1.heap.objs.size], _, _, H1, rfl, I1.kept (t' := s1.toks) fun b o e => Heap.get?_push_of_some _ e, turn_list a _, ⟨_, Heap.get?_push_size _ rfl, rfl, rfl⟩, fun b hb => ?_, q⟩
    have e : b = s1.heap.objs.size := by simpa using hb
    subst e
    exact I1.fpOk (Nat.le_refl _) (I1.hok.fresh (Nat.le_refl _))
  · obtain ⟨its, rv, p, hz⟩ := I1.tuple hq
    refine wpAny_pyIter_tuple (show s1.heap.IsTuple a its.toArray from p) ?_
    refine ⟨s1.heap.objs.size, [s1.heap.objs.size], _, _, H1, rfl, I1.kept (t' := s1.toks) fun b o e => Heap.get?_push_of_some _ e, turn_tuple a _, ⟨_, Heap.get?_push_size _ rfl, rfl, rfl⟩, fun b hb => ?_, q⟩
    have e : b = s1.heap.objs.size := by simpa using hb
    subst e
    exact I1.fpOk (Nat.le_refl _) (I1.hok.fresh (Nat.le_refl _))
def itemsD : D → WD (List D)
  | .list xs => fun Q _ => Q xs
  | .tuple xs => fun Q _ => Q xs
  | _ => fun _ _ => False
def sItems (f : Rho → WD D) : Rho → WD (List D) := fun ρ Q Ed => f ρ (fun d => itemsD d Q Ed) Ed
theorem get_lt {α : Type} {l : List α} {i : Nat} (h : i < l.length) : ∃ x, l[i]? = some x := ⟨l[i], List.getElem?_eq_getElem h⟩
theorem di_seq {tg a : Expr} {fa : Rho → WD D} (ha : DE O X E a fa) : DI O X E tg a (sItems fa) := by
  obtain ⟨ta, a1, a2⟩ := ha
  refine ⟨_, pi_seq a1, fun P ρ σ H Qd Ed R hd hr hf hQ hE => a2 P ρ σ H _ Ed _ hd hr hf (fun v d H1 s1 h q => ?_) hE⟩
  have hm1 := hd.same s1
  cases h with
  | lst e n r =>
    refine ⟨_, rfl, .inl ⟨⟨_, .inl (.inl e)⟩, hQ _ _ H1 s1 (fun P2 H2 pp hp k2 => ?_) q⟩⟩
    rename_i xs ds
    have e2 := k2 _ _ e (out_of hp e no_lst n) no_lst
    have sq : SqL X.K H2 _ xs := .inl (.inl e2)
    refine ⟨fun i hi => ?_, fun i x H' d y e3 => ?_, fun i hi => ⟨xs, sq, by rw [r.length]; exact hi⟩⟩
    · obtain ⟨x, ex⟩ := get_lt (show i < xs.length by rw [r.length]; exact hi)
      exact ⟨xs, x, sq, ex⟩
    · obtain ⟨rfl, y⟩ := y
      obtain ⟨v, ev, hv⟩ := r.get e3
      have := y xs sq
      rw [ev] at this
      cases this
      exact ⟨Same.refl _, hv.kf hp k2 hm1⟩
  | tup e r =>
    refine ⟨_, rfl, .inr ⟨⟨_, e.sq⟩, hQ _ _ H1 s1 (fun P2 H2 pp hp k2 => ?_) q⟩⟩
    rename_i xs ds
    have n2 : Nl H1 H2 := .kf hp k2 hm1
    have sq : SqT X.K H2 _ xs := (n2.tup e).sq
    refine ⟨fun i hi => ?_, fun i x H' d y e3 => ?_, fun i hi => ⟨xs, sq, by rw [r.length]; exact hi⟩⟩
    · obtain ⟨x, ex⟩ := get_lt (show i < xs.length by rw [r.length]; exact hi)
      exact ⟨xs, x, sq, ex⟩
    · obtain ⟨rfl, y⟩ := y
      obtain ⟨v, ev, hv⟩ := r.get e3
      have := y xs sq
      rw [ev] at this
      cases this
      exact ⟨Same.refl _, hv.kf hp k2 hm1⟩
  | _ => exact q.elim
def upTo (lo : Int) (n : Nat) : List D := (List.range n).map fun i => .int (lo + (i : Nat))
theorem upTo_len (lo : Int) (n : Nat) : (upTo lo n).length = n := by simp [upTo]
theorem upTo_get {lo : Int} {n i : Nat} {d : D} (e : (upTo lo n)[i]? = some d) : d = .int (lo + (i : Nat)) := by
  unfold upTo at e
  rw [List.getElem?_map] at e
  cases q : (List.range n)[i]? with
  | none =>
    rw [q] at e
    cases e
  | some j =>
    rw [q] at e
    cases e
    rw [List.getElem?_eq_some_iff] at q
    obtain ⟨h1, h2⟩ := q
    rw [List.getElem_range] at h2
    rw [h2]
theorem drv_rng {K : PySem.W.Frag} {P : Addr → Prop} {H : Hp} (lo : Int) (n : Nat) : DrvA O K P (Itr lo n) (upTo lo n) H := fun P2 H2 _ _ _ =>
  ⟨fun i hi => by rw [upTo_len] at hi; exact hi, fun i x H' d y e => by
    obtain ⟨rfl, rfl⟩ := y
    rw [upTo_get e]
    exact ⟨Same.refl _, .int _⟩, fun i hi => by rw [upTo_len] at hi; exact hi⟩
def rng1 : List D → WD (List D)
  | [.int n] => fun Q _ => n < 2 ^ 62 ∧ -(2 ^ 62) ≤ n ∧ Q (upTo 0 n.toNat)
  | _ => fun _ _ => False
def rng2 : List D → WD (List D)
  | [.int a, .int b] => fun Q _ => (-(2 ^ 62) ≤ a ∧ a < 2 ^ 62 ∧ -(2 ^ 62) ≤ b ∧ b < 2 ^ 62) ∧ Q (upTo a (b - a).toNat)
  | _ => fun _ _ => False
theorem di_range1 {tg a : Expr} {fa : Rho → WD (List D)} {p pos : Pos} (hg : Gl X "range") (hm : X.mg "range" = none) (ha : DA O X E [a] fa) (hs : starEach [a] X.env = [(false, eval a X.env)] := by rfl) : DI O X E tg (.Call (.Name "range" p) [a] [] pos) (eCbF rng1 fa) := by
  obtain ⟨ta, a1, a2⟩ := ha
  refine ⟨_, pi_range1 hg hm a1 hs, fun P ρ σ H Qd Ed R hd hr hf hQ hE => a2 P ρ σ H _ Ed _ hd hr hf (fun vs ds H1 s1 h _ q => ?_) hE⟩
  cases h with
  | nil => exact q.elim
  | cons h r =>
    cases r with
    | cons _ _ => cases h <;> exact q.elim
    | nil =>
      cases h with
      | int n => exact ⟨n, rfl, q.2.1, q.1, hQ _ _ H1 s1 (drv_rng 0 _) q.2.2⟩
      | _ => exact q.elim
theorem di_range2 {tg a b : Expr} {fa : Rho → WD (List D)} {p pos : Pos} (hg : Gl X "range") (hm : X.mg "range" = none) (ha : DA O X E [a, b] fa) (hs : starEach [a, b] X.env = [(false, eval a X.env), (false, eval b X.env)] := by rfl) (hs2 : starEach [b] X.env = [(false, eval b X.env)] := by rfl) : DI O X E tg (.Call (.Name "range" p) [a, b] [] pos) (eCbF rng2 fa) := by
  obtain ⟨ta, a1, a2⟩ := ha
  refine ⟨_, pi_range2 hg hm a1 hs hs2, fun P ρ σ H Qd Ed R hd hr hf hQ hE => a2 P ρ σ H _ Ed _ hd hr hf (fun vs ds H1 s1 h _ q => ?_) hE⟩
  cases h with
  | nil => exact q.elim
  | cons h r =>
    cases r with
    | nil => cases h <;> exact q.elim
    | cons h' r =>
      cases r with
      | cons _ _ => cases h <;> cases h' <;> exact q.elim
      | nil =>
        cases h with
        | int a =>
          cases h' with
          | int b => exact ⟨a, b, rfl, q.1, hQ _ _ H1 s1 (drv_rng a _) q.2⟩
          | _ => exact q.elim
        | _ => cases h' <;> exact q.elim
/-! ### list comprehensions -/
def wipeR (ρ : Rho) : List Nat → Rho
  | [] => ρ
  | v :: vs => (wipeR ρ vs).set v none
theorem wipe_get (σ : L2.St) (j : Nat) : ∀ vs : List Nat, (wipe σ vs)[j]? = if j ∈ vs ∧ j < σ.length then some none else σ[j]?
  | [] => by simp [wipe]
  | v :: vs => by
    unfold wipe
    by_cases hv : v = j
    · subst hv
      by_cases hl : v < σ.length
      · rw [List.getElem?_set_self (by rw [wipe_length]; exact hl), if_pos ⟨List.mem_cons_self, hl⟩]
      · rw [List.getElem?_eq_none (by rw [List.length_set, wipe_length]; omega), if_neg (fun z => hl z.2), List.getElem?_eq_none (by omega)]
    · rw [List.getElem?_set_ne hv, wipe_get σ j vs]
      have : (j ∈ v :: vs ∧ j < σ.length) ↔ (j ∈ vs ∧ j < σ.length) := by
        constructor
        · rintro ⟨h1, h2⟩
          rcases List.mem_cons.mp h1 with h1 | h1
          · exact absurd h1.symm hv
          · exact ⟨h1, h2⟩
        · rintro ⟨h1, h2⟩
          exact ⟨List.mem_cons_of_mem _ h1, h2⟩
      simp only [this]
theorem setAll_ne {α : Type} {j : Nat} : ∀ {a : List (Nat × α)} {l : List (Option α)}, j ∉ a.map (·.1) → (setAll l a)[j]? = l[j]?
  | [], _, _ => rfl
  | (i, x) :: r, l, h => by
    rw [List.map_cons, List.mem_cons, not_or] at h
    show (setAll (l.set i (some x)) r)[j]? = l[j]?
    rw [setAll_ne h.2, List.getElem?_set_ne (fun e => h.1 e.symm)]
theorem wipe_setAll {σ : L2.St} {vs : List Nat} {a : List (Nat × V)} (h : ∀ i ∈ a.map (·.1), i ∈ vs) : wipe (setAll (wipe σ vs) a) vs = wipe σ vs := by
  apply List.ext_getElem?
  intro j
  rw [wipe_get, setAll_length, wipe_length]
  by_cases hj : j ∈ vs ∧ j < σ.length
  · rw [if_pos hj, wipe_get, if_pos hj]
  · rw [if_neg hj]
    by_cases hm : j ∈ a.map (·.1)
    · have hv := h j hm
      have hl : σ.length ≤ j := by
        rcases Nat.lt_or_ge j σ.length with z | z
        · exact absurd ⟨hv, z⟩ hj
        · exact z
      rw [List.getElem?_eq_none (by rw [setAll_length, wipe_length]; exact hl), List.getElem?_eq_none (by rw [wipe_length]; exact hl)]
    · rw [setAll_ne hm]
theorem wipeR_get (ρ : Rho) (j : Nat) (d : D) : ∀ vs : List Nat, (wipeR ρ vs)[j]? = some (some d) → ρ[j]? = some (some d) ∧ j ∉ vs
  | [], h => ⟨h, by simp⟩
  | v :: vs, h => by
    unfold wipeR at h
    by_cases hv : v = j
    · subst hv
      by_cases hl : v < (wipeR ρ vs).length
      · rw [List.getElem?_set_self hl] at h
        cases h
      · rw [List.getElem?_eq_none (by rw [List.length_set]; omega)] at h
        cases h
    · rw [List.getElem?_set_ne hv] at h
      obtain ⟨h1, h2⟩ := wipeR_get ρ j d vs h
      refine ⟨h1, fun z => ?_⟩
      rcases List.mem_cons.mp z with z | z
      · exact hv z.symm
      · exact h2 z
theorem wipeR_length (ρ : Rho) : ∀ vs : List Nat, (wipeR ρ vs).length = ρ.length
  | [] => rfl
  | v :: vs => by
    unfold wipeR
    rw [List.length_set, wipeR_length ρ vs]
theorem Rs.wipe {K : PySem.W.Frag} {P : Addr → Prop} {ρ : Rho} {σ : L2.St} {H : Hp} (h : Rs O K P ρ σ H) (vs : List Nat) : Rs O K P (wipeR ρ vs) (L2.wipe σ vs) H := ⟨by rw [wipe_length, wipeR_length, h.len], fun j d e => by
  obtain ⟨e1, n⟩ := wipeR_get ρ j d vs e
  obtain ⟨v, e2, h2⟩ := h.get j d e1
  refine ⟨v, ?_, h2⟩
  rw [wipe_get, if_neg (fun z => n z.1)]
  exact e2⟩
/-- the walk: item by item, the new list so far -/
def lcLoop (step : D → (Option D → Prop) → Prop) : List D → List D → (List D → Prop) → Prop
  | [], acc, Q => Q acc
  | x :: xs, acc, Q => step x fun o => lcLoop step xs (match o with | some y => acc ++ [y] | none => acc) Q
def lcStep (T : Tg) (vs : List Nat) (ft : Rho → WD Bool) (fe : Rho → WD D) (ρ : Rho) : D → (Option D → Prop) → Prop := fun x k => orStuck (bindT T x) fun l => ft (setAll (wipeR ρ vs) l) (fun b => if b = true then fe (setAll (wipeR ρ vs) l) (fun y => k (some y)) (fun _ => False) else k none) (fun _ => False)
def eLc (fi : Rho → WD (List D)) (T : Tg) (vs : List Nat) (ft : Rho → WD Bool) (fe : Rho → WD D) : Rho → WD (List D) := fun ρ Q Ed => fi ρ (fun xs => xs.length ≤ 1000000 ∧ lcLoop (lcStep T vs ft fe ρ) xs [] Q) Ed
def DTs (O : Ob) (X : Cx) (E : XK) (ifs : List Expr) (f : Rho → WD Bool) : Prop := ∃ t, PTs X ifs t ∧ ∀ (P : Addr → Prop) (ρ : Rho) (σ : L2.St) (H : Hp) (Qd : Bool → Prop) (Ed : Str → Prop) (Q : Bool → Hp → Prop),
  Dom H P → Rs O X.K P ρ σ H → f ρ Qd Ed → (∀ b H', Same H H' → Qd b → Q b H') → XOk X E H Ed → t σ H Q
theorem DTs.pts {ifs : List Expr} {f : Rho → WD Bool} (h : DTs O X E ifs f) : PTs X ifs (tT O X.K X.mg E f) := by
  obtain ⟨t, h1, h2⟩ := h
  exact ⟨fun pins s σ H Q I ⟨P, ρ, Qd, Ed, a, b, c, d, e⟩ => h1.run pins s σ H Q I (h2 P ρ σ H Qd Ed Q a b c d e)⟩
def tYesD : Rho → WD Bool := fun _ Q _ => Q true
theorem dts_nil : DTs O X E [] tYesD := ⟨_, pts_nil, fun P ρ σ H Qd Ed Q hd hr hf hQ hE => hQ _ H (Same.refl H) hf⟩
theorem dts_one {c : Expr} {f : Rho → WD Bool} (h : DT O X E c f) : DTs O X E [c] f := let ⟨t, h1, h2⟩ := h; ⟨t, pts_one h1, h2⟩
theorem bindT_keys : ∀ {T : Tg} {d : D} {l : List (Nat × D)} {vs : List Nat}, bindT T d = some l → (∀ d l, bindT T d = some l → ∀ i ∈ l.map (·.1), i ∈ vs) → ∀ i ∈ l.map (·.1), i ∈ vs := fun e h => h _ _ e
mutual
def Tg.slots : Tg → List Nat
  | .name i => [i]
  | .tup ts => slotsAll ts
def slotsAll : List Tg → List Nat
  | [] => []
  | t :: ts => t.slots ++ slotsAll ts
end
mutual
theorem bindT_slots : ∀ {T : Tg} {d : D} {l : List (Nat × D)}, bindT T d = some l → l.map (·.1) = T.slots
  | .name i, d, l, e => by
    cases e
    simp [Tg.slots]
  | .tup ts, .tuple ds, l, e => by
    have e' : bindAll ts ds = some l := by simpa [bindT] using e
    rw [bindAll_slots e']
    simp [Tg.slots]
  | .tup ts, .none, l, e => by simp [bindT] at e
  | .tup ts, .bool _, l, e => by simp [bindT] at e
  | .tup ts, .int _, l, e => by simp [bindT] at e
  | .tup ts, .str _, l, e => by simp [bindT] at e
  | .tup ts, .list _, l, e => by simp [bindT] at e
  | .tup ts, .dict _, l, e => by simp [bindT] at e
theorem bindAll_slots : ∀ {ts : List Tg} {ds : List D} {l : List (Nat × D)}, bindAll ts ds = some l → l.map (·.1) = slotsAll ts
  | [], [], _, e => by
    simp [bindAll] at e
    subst e
    rfl
  | [], _ :: _, _, e => by simp [bindAll] at e
  | _ :: _, [], _, e => by simp [bindAll] at e
  | t :: ts, d :: ds, l, e => by
    unfold bindAll at e
    cases q1 : bindT t d with
    | none =>
      rw [q1] at e
      cases e
    | some la =>
      cases q2 : bindAll ts ds with
      | none =>
        rw [q1, q2] at e
        cases e
      | some lb =>
        rw [q1, q2] at e
        cases e
        rw [List.map_append, bindT_slots q1, bindAll_slots q2]
        simp [slotsAll]
end
theorem lcLoop_drop {step : D → (Option D → Prop) → Prop} {xs : List D} {i : Nat} {x : D} {acc : List D} {Q : List D → Prop} (e : xs[i]? = some x) (h : lcLoop step (xs.drop i) acc Q) : step x fun o => lcLoop step (xs.drop (i + 1)) (match o with | some y => acc ++ [y] | none => acc) Q := by
  obtain ⟨hi, e⟩ := List.getElem?_eq_some_iff.mp e
  rw [List.drop_eq_getElem_cons hi, e] at h
  exact h
/-- a comprehension: as a value, and given to a name -/
def DLc (O : Ob) (X : Cx) (E : XK) (elt : Expr) (gs : List Comprehension) (scope : Scope) (f : Rho → WD (List D)) : Prop := ∃ t, (∀ pos, PE X (.ListComp elt gs scope pos) t) ∧
  (∀ (i : Nat) (y : Str) (py pos spos : Pos), X.N[i]? = some y → X.env.scope.names.lookup y = some .local → swapsWith (.ListComp elt gs scope pos) (some (.Name y py)) spos.line X.env = pure true → PS X (.Assign [.Name y py] (.ListComp elt gs scope pos) spos) (tAsg t (gName i))) ∧
  ∀ (P : Addr → Prop) (ρ : Rho) (σ : L2.St) (H : Hp) (Qd : List D → Prop) (Ed : Str → Prop) (Q : VK), Dom H P → Rs O X.K P ρ σ H → f ρ Qd Ed → (∀ p vs ds H', Same H H' → Nn H p → H' p = some (.lst vs) → DvAll O X.K H' (fun a => P a ∨ a = p) vs ds → Qd ds → Q (.ref p) H') → XOk X E H Ed → t σ H Q
theorem DLc.df {elt : Expr} {gs : List Comprehension} {scope : Scope} {f : Rho → WD (List D)} {pos : Pos} (h : DLc O X E elt gs scope f) : DF O X E (.ListComp elt gs scope pos) f := let ⟨t, h1, _, h3⟩ := h; ⟨t, h1 pos, h3⟩
theorem lc1 {elt tg iter : Expr} {ifs : List Expr} {scope : Scope} {own : List (Str × Nat)} {fi : Rho → WD (List D)} {T : Tg} {ft : Rho → WD Bool} {fe : Rho → WD D} (hc : X.calm = true) (hN : X.N.Nodup) (hi : DI O X E tg iter fi) (ok : BlkOk X.N X.env.scope scope own)
    (hg : ∀ (s : Shared) (H : Hp) (C : Addr) (cl : List (Str × Addr)) (fp : List Addr), DG O (X.blk s H scope (compEnvC scope cl C X.env) fp) tg T) (ht : ∀ (s : Shared) (H : Hp) (C : Addr) (cl : List (Str × Addr)) (fp : List Addr), DTs O (X.blk s H scope (compEnvC scope cl C X.env) fp) E0 ifs ft)
    (he : ∀ (s : Shared) (H : Hp) (C : Addr) (cl : List (Str × Addr)) (fp : List Addr), DE O (X.blk s H scope (compEnvC scope cl C X.env) fp) E0 elt fe) (hT : ∀ i ∈ T.slots, i ∈ own.map (·.2)) (hs : ∀ x, foldedSetIterable iter X.env x = pure x := by intro _; rfl) :
    DLc O X E elt [⟨tg, iter, ifs, 0⟩] scope (eLc fi T (own.map (·.2)) ft fe) := by
  obtain ⟨wi, i1, i2⟩ := hi
  refine ⟨_, fun pos => pe_lc (g := fun v σ H Q => ∃ (P : Addr → Prop) (d : D) (l : List (Nat × D)), Dv O X.K H P v d ∧ bindT T d = some l ∧ ∀ a, Bnd O X.K H P a l → Q (setAll σ a) H) (tt := tT O X.K X.mg E0 ft) (te := tE O X.K X.mg E0 fe) hc hN i1 ok (fun s H C cl fp => (hg s H C cl fp).pg) (fun s H C cl fp => (ht s H C cl fp).pts) (fun s H C cl fp => (he s H C cl fp).pe) hs, fun i y py pos spos hy hl hsw => ps_setLc (g := fun v σ H Q => ∃ (P : Addr → Prop) (d : D) (l : List (Nat × D)), Dv O X.K H P v d ∧ bindT T d = some l ∧ ∀ a, Bnd O X.K H P a l → Q (setAll σ a) H) (tt := tT O X.K X.mg E0 ft) (te := tE O X.K X.mg E0 fe) hc hN hy hl hsw i1 ok (fun s H C cl fp => (hg s H C cl fp).pg) (fun s H C cl fp => (ht s H C cl fp).pts) (fun s H C cl fp => (he s H C cl fp).pe) hs, fun P ρ σ H Qd Ed Q hd hr hf hQ hE => i2 P ρ σ H _ Ed _ hd hr hf (fun J xs H1 s1 dv q Dl hD => ?_) hE⟩
  obtain ⟨hlen, q⟩ := q
  refine ⟨fun i m H2 => m = xs.length - i ∧ i ≤ xs.length ∧ Same H1 H2 ∧ ∃ vs acc, H2 Dl = some (.lst vs) ∧ DvAll O X.K H2 (fun a => P a ∨ a = Dl) vs acc ∧ acc.length ≤ i ∧ lcLoop (lcStep T (own.map (·.2)) ft fe ρ) (xs.drop i) acc Qd,
    ⟨xs.length, by simp, Nat.zero_le _, same_new hD, [], [], upd_same, .nil, Nat.le_refl _, q⟩, ?_⟩
  rintro i m H2 ⟨rfl, hi, s2, vs, acc, eD, hv, hacc, lp⟩
  have hd1 := hd.same s1
  have pp : ∀ a, P a → P a ∨ a = Dl := fun a z => .inl z
  have hp : ∀ a, (P a ∨ a = Dl) → P a ∨ Nn H1 a := fun a z => z.imp id fun e => by rw [e]; exact nn hD
  have hd2 : Dom H2 (fun a => P a ∨ a = Dl) := ⟨fun a z => by
    rcases z with z | z
    · exact (hd1.same s2).has a z
    · exact ⟨_, by rw [z]; exact eD, .inl ⟨_, rfl⟩⟩, (hd1.same s2).tab⟩
  have dr := dv _ H2 pp hp (.of s2)
  by_cases hlt : i < xs.length
  · refine .inr ⟨dr.go i hlt, fun H' => Same H1 H' ∧ ∃ vs acc, H' Dl = some (.lst vs) ∧ DvAll O X.K H' (fun a => P a ∨ a = Dl) vs acc ∧ acc.length ≤ i + 1 ∧ lcLoop (lcStep T (own.map (·.2)) ft fe ρ) (xs.drop (i + 1)) acc Qd,
      fun H' ⟨a, b⟩ => ⟨xs.length - (i + 1), by omega, rfl, hlt, a, b⟩, fun x H3 y => ?_⟩
    obtain ⟨d, ed⟩ := get_lt hlt
    obtain ⟨s3, hx⟩ := dr.yld i x H3 d y ed
    have st := lcLoop_drop ed lp
    obtain ⟨l, el, st⟩ := of_orStuck st
    refine ⟨fun a => P a ∨ a = Dl, d, l, hx, el, fun a ha => ⟨wipe_setAll fun j hj => ?_, ?_⟩⟩
    · rw [ha.keys, bindT_slots el] at hj
      exact hT j hj
    have hd3 := hd2.same s3
    have rs3 : Rs O X.K (fun a => P a ∨ a = Dl) (setAll (wipeR ρ (own.map (·.2))) l) (setAll (wipe σ (own.map (·.2))) a) H3 := by
      exact Rs.many ha (Rs.wipe (((hr.same s1).kf hp (.of s2) hd1).same s3) _)
    refine ⟨fun a => P a ∨ a = Dl, _, _, _, hd3, rs3, st, fun b H4 s4 q4 => ?_, fun _ _ _ _ _ z => z.elim⟩
    have s24 := s3.trans s4
    have hd4 := hd3.same s4
    have hv4 := hv.same s24
    have eD4 := s24.all _ _ eD no_lst
    cases b with
    | true =>
      refine ⟨fun a => P a ∨ a = Dl, _, _, _, hd4, rs3.same s4, q4, fun y dy H5 s5 h5 q5 => ?_, fun _ _ _ _ _ z => z.elim⟩
      have eD5 := s5.all _ _ eD4 no_lst
      refine ⟨vs, eD5, ?_, ?_, vs ++ [y], acc ++ [dy], upd_same, ?_, ?_, q5⟩
      · rw [hv.length]
        exact Nat.lt_of_le_of_lt (Nat.le_trans hacc (Nat.le_of_lt (Nat.lt_of_lt_of_le hlt hlen))) (by decide)
      · exact ((s2.trans s24).trans s5).upd (nn hD) eD5 mb_lst
      · refine DvAll.keep (fun a o e m _ => ?_) (fun a o e m n => ?_) (fun a o e _ n => n) ((hv4.same s5).append (.cons h5 .nil))
        · have : a ≠ Dl := fun z => by
            subst z
            rw [eD5] at e
            cases e
            exact m (.inl ⟨_, rfl⟩)
          rw [upd_ne this]
          exact e
        · have : a ≠ Dl := fun z => n (.inr z)
          rw [upd_ne this]
          exact e
      · rw [List.length_append]
        exact Nat.add_le_add hacc (Nat.le_refl 1)
    | false => exact ⟨s2.trans s24, vs, acc, eD4, hv4, Nat.le_succ_of_le hacc, q4⟩
  · have e : i = xs.length := by omega
    subst e
    rw [List.drop_length] at lp
    exact .inl ⟨dr.stop _ (Nat.le_refl _), hQ Dl vs acc H2 (s1.trans s2) (s1.free (nn hD)) eD hv lp⟩
/-! ### two for -/
def lcIn (T1 : Tg) (vs1 : List Nat) (ft1 : Rho → WD Bool) (fe : Rho → WD D) (ρ : Rho) : List D → List D → (List D → Prop) → Prop := lcLoop (lcStep T1 vs1 ft1 fe ρ)
def lcLoop2 (T : Tg) (vs : List Nat) (ft : Rho → WD Bool) (fi1 : Rho → WD (List D)) (T1 : Tg) (vs1 : List Nat) (ft1 : Rho → WD Bool) (fe : Rho → WD D) (ρ : Rho) : List D → List D → (List D → Prop) → Prop
  | [], acc, Q => Q acc
  | x :: xs, acc, Q => orStuck (bindT T x) fun l => ft (setAll (wipeR ρ vs) l) (fun b => if b = true then fi1 (setAll (wipeR ρ vs) l) (fun ys => acc.length + ys.length ≤ 1000000 ∧ lcIn T1 vs1 ft1 fe (setAll (wipeR ρ vs) l) ys acc fun acc' => lcLoop2 T vs ft fi1 T1 vs1 ft1 fe ρ xs acc' Q) (fun _ => False)
      else lcLoop2 T vs ft fi1 T1 vs1 ft1 fe ρ xs acc Q) (fun _ => False)
def eLc2 (fi : Rho → WD (List D)) (T : Tg) (vs : List Nat) (ft : Rho → WD Bool) (fi1 : Rho → WD (List D)) (T1 : Tg) (vs1 : List Nat) (ft1 : Rho → WD Bool) (fe : Rho → WD D) : Rho → WD (List D) := fun ρ Q Ed => fi ρ (fun xs => lcLoop2 T vs ft fi1 T1 vs1 ft1 fe ρ xs [] Q) Ed
theorem DI.pi {tg iter : Expr} {f : Rho → WD (List D)} (h : DI O X E tg iter f) : PI X tg iter (fun σ H R => ∃ (P : Addr → Prop) (ρ : Rho) (Qd : List D → Prop) (Ed : Str → Prop), Dom H P ∧ Rs O X.K P ρ σ H ∧ f ρ Qd Ed ∧ (∀ J xs H', Same H H' → DrvA O X.K P J xs H' → Qd xs → R J H') ∧ ∀ c a H', Same H H' → X.mg c = some (.ref a) → Ed c → E (.ref a) none H') := by
  obtain ⟨wi, h1, h2⟩ := h
  exact ⟨fun pins s σ H R I ⟨P, ρ, Qd, Ed, a, b, c, d, e⟩ => h1.run pins s σ H R I (h2 P ρ σ H Qd Ed R a b c d e)⟩
theorem lcLoop2_drop {T : Tg} {vs : List Nat} {ft : Rho → WD Bool} {fi1 : Rho → WD (List D)} {T1 : Tg} {vs1 : List Nat} {ft1 : Rho → WD Bool} {fe : Rho → WD D} {ρ : Rho} {xs : List D} {i : Nat} {x : D} {acc : List D} {Q : List D → Prop} (e : xs[i]? = some x)
    (h : lcLoop2 T vs ft fi1 T1 vs1 ft1 fe ρ (xs.drop i) acc Q) : orStuck (bindT T x) fun l => ft (setAll (wipeR ρ vs) l) (fun b => if b = true then fi1 (setAll (wipeR ρ vs) l) (fun ys => acc.length + ys.length ≤ 1000000 ∧ lcIn T1 vs1 ft1 fe (setAll (wipeR ρ vs) l) ys acc fun acc' => lcLoop2 T vs ft fi1 T1 vs1 ft1 fe ρ (xs.drop (i + 1)) acc' Q) (fun _ => False)
      else lcLoop2 T vs ft fi1 T1 vs1 ft1 fe ρ (xs.drop (i + 1)) acc Q) (fun _ => False) := by
  obtain ⟨hi, e⟩ := List.getElem?_eq_some_iff.mp e
  rw [List.drop_eq_getElem_cons hi, e] at h
  exact h
abbrev gT (O : Ob) (K : PySem.W.Frag) (T : Tg) : TG := fun v σ H Q => ∃ (P : Addr → Prop) (d : D) (l : List (Nat × D)), Dv O K H P v d ∧ bindT T d = some l ∧ ∀ a, Bnd O K H P a l → Q (setAll σ a) H
abbrev iT (O : Ob) (K : PySem.W.Frag) (mg : Str → Option Value) (f : Rho → WD (List D)) : TI := fun σ H R => ∃ (P : Addr → Prop) (ρ : Rho) (Qd : List D → Prop) (Ed : Str → Prop), Dom H P ∧ Rs O K P ρ σ H ∧ f ρ Qd Ed ∧ (∀ J xs H', Same H H' → DrvA O K P J xs H' → Qd xs → R J H') ∧ ∀ c a H', Same H H' → mg c = some (.ref a) → Ed c → E0 (.ref a) none H'
theorem lc2 {elt tg iter tg1 iter1 : Expr} {ifs ifs1 : List Expr} {scope : Scope} {own : List (Str × Nat)} {vs1 : List Nat} {fi fi1 : Rho → WD (List D)} {T T1 : Tg} {ft ft1 : Rho → WD Bool} {fe : Rho → WD D} (hc : X.calm = true) (hN : X.N.Nodup) (hi : DI O X E tg iter fi) (ok : BlkOk X.N X.env.scope scope own) (hv : ∀ i ∈ vs1, i ∈ own.map (·.2))
    (hg : ∀ (s : Shared) (H : Hp) (C : Addr) (cl : List (Str × Addr)) (fp : List Addr), DG O (X.blk s H scope (compEnvC scope cl C X.env) fp) tg T) (ht : ∀ (s : Shared) (H : Hp) (C : Addr) (cl : List (Str × Addr)) (fp : List Addr), DTs O (X.blk s H scope (compEnvC scope cl C X.env) fp) E0 ifs ft)
    (hi1 : ∀ (s : Shared) (H : Hp) (C : Addr) (cl : List (Str × Addr)) (fp : List Addr), DI O (X.blk s H scope (compEnvC scope cl C X.env) fp) E0 tg1 iter1 fi1)
    (hg1 : ∀ (s : Shared) (H : Hp) (C : Addr) (cl : List (Str × Addr)) (fp : List Addr), DG O (X.blk s H scope (compEnvC scope cl C X.env) fp) tg1 T1) (ht1 : ∀ (s : Shared) (H : Hp) (C : Addr) (cl : List (Str × Addr)) (fp : List Addr), DTs O (X.blk s H scope (compEnvC scope cl C X.env) fp) E0 ifs1 ft1)
    (he : ∀ (s : Shared) (H : Hp) (C : Addr) (cl : List (Str × Addr)) (fp : List Addr), DE O (X.blk s H scope (compEnvC scope cl C X.env) fp) E0 elt fe) (hT : ∀ i ∈ T.slots, i ∈ own.map (·.2)) (hT1 : ∀ i ∈ T1.slots, i ∈ vs1)
    (hs : ∀ x, foldedSetIterable iter X.env x = pure x := by intro _; rfl) (hs1 : ∀ env x, foldedSetIterable iter1 env x = pure x := by intro _ _; rfl) :
    DLc O X E elt [⟨tg, iter, ifs, 0⟩, ⟨tg1, iter1, ifs1, 0⟩] scope (eLc2 fi T (own.map (·.2)) ft fi1 T1 vs1 ft1 fe) := by
  obtain ⟨wi, i1, i2⟩ := hi
  refine ⟨_, fun pos => pe_lc2 (vs1 := vs1) (g := gT O X.K T) (tt := tT O X.K X.mg E0 ft) (wi1 := iT O X.K X.mg fi1) (g1 := gT O X.K T1) (tt1 := tT O X.K X.mg E0 ft1) (te := tE O X.K X.mg E0 fe) hc hN i1 ok hv (fun s H C cl fp => (hg s H C cl fp).pg) (fun s H C cl fp => (ht s H C cl fp).pts) (fun s H C cl fp => (hi1 s H C cl fp).pi) (fun s H C cl fp => (hg1 s H C cl fp).pg) (fun s H C cl fp => (ht1 s H C cl fp).pts) (fun s H C cl fp => (he s H C cl fp).pe) hs hs1,
    fun i y py pos spos hy hl hsw => ps_setLc2 (vs1 := vs1) (g := gT O X.K T) (tt := tT O X.K X.mg E0 ft) (wi1 := iT O X.K X.mg fi1) (g1 := gT O X.K T1) (tt1 := tT O X.K X.mg E0 ft1) (te := tE O X.K X.mg E0 fe) hc hN hy hl hsw i1 ok hv (fun s H C cl fp => (hg s H C cl fp).pg) (fun s H C cl fp => (ht s H C cl fp).pts) (fun s H C cl fp => (hi1 s H C cl fp).pi) (fun s H C cl fp => (hg1 s H C cl fp).pg) (fun s H C cl fp => (ht1 s H C cl fp).pts) (fun s H C cl fp => (he s H C cl fp).pe) hs hs1,
    fun P ρ σ H Qd Ed Q hd hr hf hQ hE => i2 P ρ σ H _ Ed _ hd hr hf (fun J xs H1 s1 dv q Dl hD => ?_) hE⟩
  refine ⟨fun i m H2 => m = xs.length - i ∧ i ≤ xs.length ∧ Same H1 H2 ∧ ∃ vs acc, H2 Dl = some (.lst vs) ∧ DvAll O X.K H2 (fun a => P a ∨ a = Dl) vs acc ∧ lcLoop2 T (own.map (·.2)) ft fi1 T1 vs1 ft1 fe ρ (xs.drop i) acc Qd,
    ⟨xs.length, by simp, Nat.zero_le _, same_new hD, [], [], upd_same, .nil, q⟩, ?_⟩
  rintro i m H2 ⟨rfl, hi, s2, vs, acc, eD, hv2, lp⟩
  have hd1 := hd.same s1
  have pp : ∀ a, P a → P a ∨ a = Dl := fun a z => .inl z
  have hp : ∀ a, (P a ∨ a = Dl) → P a ∨ Nn H1 a := fun a z => z.imp id fun e => by rw [e]; exact nn hD
  have hd2 : Dom H2 (fun a => P a ∨ a = Dl) := ⟨fun a z => by
    rcases z with z | z
    · exact (hd1.same s2).has a z
    · exact ⟨_, by rw [z]; exact eD, .inl ⟨_, rfl⟩⟩, (hd1.same s2).tab⟩
  have dr := dv _ H2 pp hp (.of s2)
  by_cases hlt : i < xs.length
  · refine .inr ⟨dr.go i hlt, fun H' => Same H1 H' ∧ ∃ vs acc, H' Dl = some (.lst vs) ∧ DvAll O X.K H' (fun a => P a ∨ a = Dl) vs acc ∧ lcLoop2 T (own.map (·.2)) ft fi1 T1 vs1 ft1 fe ρ (xs.drop (i + 1)) acc Qd,
      fun H' ⟨a, b⟩ => ⟨xs.length - (i + 1), by omega, rfl, hlt, a, b⟩, fun x H3 y => ?_⟩
    obtain ⟨d, ed⟩ := get_lt hlt
    obtain ⟨s3, hx⟩ := dr.yld i x H3 d y ed
    have st := lcLoop2_drop ed lp
    obtain ⟨l, el, st⟩ := of_orStuck st
    refine ⟨fun a => P a ∨ a = Dl, d, l, hx, el, fun a ha => ⟨wipe_setAll fun j hj => ?_, ?_⟩⟩
    · rw [ha.keys, bindT_slots el] at hj
      exact hT j hj
    have hd3 := hd2.same s3
    have rs3 : Rs O X.K (fun a => P a ∨ a = Dl) (setAll (wipeR ρ (own.map (·.2))) l) (setAll (wipe σ (own.map (·.2))) a) H3 := Rs.many ha (Rs.wipe (((hr.same s1).kf hp (.of s2) hd1).same s3) _)
    refine ⟨fun a => P a ∨ a = Dl, _, _, _, hd3, rs3, st, fun b H4 s4 q4 => ?_, fun _ _ _ _ _ z => z.elim⟩
    have s24 := s3.trans s4
    have hd4 := hd3.same s4
    cases b with
    | false => exact ⟨s2.trans s24, vs, acc, s24.all _ _ eD no_lst, hv2.same s24, q4⟩
    | true =>
      refine ⟨fun a => P a ∨ a = Dl, _, _, _, hd4, rs3.same s4, q4, fun J1 ys H5 s5 dv1 q5 => ?_, fun _ _ _ _ _ z => z.elim⟩
      have s25 := s24.trans s5
      have hd5 := hd4.same s5
      have rs5 := (rs3.same s4).same s5
      refine ⟨fun j k H6 => k = ys.length - j ∧ j ≤ ys.length ∧ Same H1 H6 ∧ Kf (fun a => P a ∨ a = Dl) H5 H6 ∧ ∃ vs' acc', H6 Dl = some (.lst vs') ∧ DvAll O X.K H6 (fun a => P a ∨ a = Dl) vs' acc' ∧ acc'.length ≤ acc.length + j ∧
          lcIn T1 vs1 ft1 fe (setAll (wipeR ρ (own.map (·.2))) l) (ys.drop j) acc' (fun acc' => lcLoop2 T (own.map (·.2)) ft fi1 T1 vs1 ft1 fe ρ (xs.drop (i + 1)) acc' Qd),
        ⟨ys.length, by simp, Nat.zero_le _, s2.trans s25, .refl H5, vs, acc, s25.all _ _ eD no_lst, hv2.same s25, Nat.le_refl _, q5.2⟩, ?_⟩
      rintro j k H6 ⟨rfl, hj, s6, k6, vs', acc', eD6, hv6, ha6, lp6⟩
      have dr6 := dv1 _ H6 (fun a z => z) (fun a z => .inl z) k6
      have hd6 : Dom H6 (fun a => P a ∨ a = Dl) := ⟨fun a z => by
        rcases z with z | z
        · exact (hd1.same s6).has a z
        · exact ⟨_, by rw [z]; exact eD6, .inl ⟨_, rfl⟩⟩, (hd1.same s6).tab⟩
      have rs6 := rs5.kf (P' := fun a => P a ∨ a = Dl) (fun a z => .inl z) k6 hd5
      by_cases hlj : j < ys.length
      · refine .inr ⟨dr6.go j hlj, fun H' => Same H1 H' ∧ Kf (fun a => P a ∨ a = Dl) H5 H' ∧ ∃ vs' acc', H' Dl = some (.lst vs') ∧ DvAll O X.K H' (fun a => P a ∨ a = Dl) vs' acc' ∧ acc'.length ≤ acc.length + (j + 1) ∧
            lcIn T1 vs1 ft1 fe (setAll (wipeR ρ (own.map (·.2))) l) (ys.drop (j + 1)) acc' (fun acc' => lcLoop2 T (own.map (·.2)) ft fi1 T1 vs1 ft1 fe ρ (xs.drop (i + 1)) acc' Qd),
          fun H' ⟨a, b⟩ => ⟨ys.length - (j + 1), by omega, rfl, hlj, a, b⟩, fun x1 H7 y1 => ?_⟩
        obtain ⟨d1, ed1⟩ := get_lt hlj
        obtain ⟨s7, hx1⟩ := dr6.yld j x1 H7 d1 y1 ed1
        have st1 := lcLoop_drop ed1 lp6
        obtain ⟨l1, el1, st1⟩ := of_orStuck st1
        refine ⟨fun a => P a ∨ a = Dl, d1, l1, hx1, el1, fun a1 ha1 => ⟨wipe_setAll fun j hj => ?_, ?_⟩⟩
        · rw [ha1.keys, bindT_slots el1] at hj
          exact hT1 j hj
        have hd7 := hd6.same s7
        have rs7 : Rs O X.K (fun a => P a ∨ a = Dl) (setAll (wipeR (setAll (wipeR ρ (own.map (·.2))) l) vs1) l1) (setAll (wipe (setAll (wipe σ (own.map (·.2))) a) vs1) a1) H7 := Rs.many ha1 (Rs.wipe (rs6.same s7) _)
        refine ⟨fun a => P a ∨ a = Dl, _, _, _, hd7, rs7, st1, fun b H8 s8 q8 => ?_, fun _ _ _ _ _ z => z.elim⟩
        have s68 := s7.trans s8
        have hd8 := hd7.same s8
        cases b with
        | false => exact ⟨s6.trans s68, k6.trans (.of s68), vs', acc', s68.all _ _ eD6 no_lst, hv6.same s68, by omega, q8⟩
        | true =>
          refine ⟨fun a => P a ∨ a = Dl, _, _, _, hd8, rs7.same s8, q8, fun y9 dy H9 s9 h9 q9 => ?_, fun _ _ _ _ _ z => z.elim⟩
          have s69 := s68.trans s9
          have eD9 := s69.all _ _ eD6 no_lst
          refine ⟨vs', eD9, ?_, ?_, ?_, vs' ++ [y9], acc' ++ [dy], upd_same, ?_, ?_, q9⟩
          · rw [hv6.length]
            have := q5.1
            exact Nat.lt_of_le_of_lt (show acc'.length ≤ 1000000 by omega) (by decide)
          · exact (s6.trans s69).upd (nn hD) eD9 mb_lst
          · intro a o e n z
            have : a ≠ Dl := fun z => n (.inr z)
            rw [upd_ne this]
            exact s69.all _ _ (k6 a o e n z) z
          · refine DvAll.keep (fun a o e m _ => ?_) (fun a o e m n => ?_) (fun a o e _ n => n) ((hv6.same s69).append (.cons h9 .nil))
            · have : a ≠ Dl := fun z => by
                subst z
                rw [eD9] at e
                cases e
                exact m (.inl ⟨_, rfl⟩)
              rw [upd_ne this]
              exact e
            · have : a ≠ Dl := fun z => n (.inr z)
              rw [upd_ne this]
              exact e
          · rw [List.length_append]
            show acc'.length + 1 ≤ _
            omega
      · have e : j = ys.length := by omega
        subst e
        rw [List.drop_length] at lp6
        exact .inl ⟨dr6.stop _ (Nat.le_refl _), s6, vs', acc', eD6, hv6, lp6⟩
  · have e : i = xs.length := by omega
    subst e
    rw [List.drop_length] at lp
    exact .inl ⟨dr.stop _ (Nat.le_refl _), hQ Dl vs acc H2 (s1.trans s2) (s1.free (nn hD)) eD hv2 lp⟩
end
end DL

namespace DL
open PySem PySem.Spec L2
/-! ### statements: a frame of data; lists of one's own may grow -/
/-- what one's own holds: a list, a dict -/
inductive OwnC where
  | lst (xs : List D)
  | dct (ds : List (Key × D))
inductive Ent where
  | val (d : D)
  | own (c : OwnC)
def dataOf : OwnC → D
  | .lst xs => .list xs
  | .dct ds => dictE ds
def OwnOk (O : Ob) (K : PySem.W.Frag) (H : Hp) (P : Addr → Prop) (p : Addr) : OwnC → Prop
  | .lst xs => ∃ vs, H p = some (.lst vs) ∧ DvAll O K H P vs xs
  | .dct ds => ∃ kvs, H p = some (.dK kvs) ∧ kvs.map (·.1) = ds.map (·.1) ∧ DvAll O K H P (kvs.map (·.2)) (ds.map (·.2))
section
variable [Nm] {O : Ob} {K : PySem.W.Frag} {H H' : Hp} {P P' : Addr → Prop} {p : Addr} {c : OwnC}
theorem OwnOk.to (h : OwnOk O K H P p c) (f : ∀ {vs : List V} {ds : List D}, DvAll O K H P vs ds → DvAll O K H' P' vs ds) (e : ∀ o, H p = some o → Mb o → H' p = some o) : OwnOk O K H' P' p c := by
  cases c with
  | lst xs =>
    obtain ⟨vs, h1, h2⟩ := h
    exact ⟨vs, e _ h1 (.inl ⟨_, rfl⟩), f h2⟩
  | dct ds =>
    obtain ⟨kvs, h1, h2, h3⟩ := h
    exact ⟨kvs, e _ h1 (.inr ⟨_, rfl⟩), h2, f h3⟩
theorem OwnOk.same (h : OwnOk O K H P p c) (s : Same H H') : OwnOk O K H' P p c := h.to (fun r => r.same s) fun o e m => s.all _ _ e (no_mb m)
theorem OwnOk.less (h : OwnOk O K H P p c) (q : ∀ a, P' a → P a) : OwnOk O K H P' p c := h.to (fun r => r.less q) fun o e _ => e
theorem OwnOk.mb (h : OwnOk O K H P p c) : ∃ o, H p = some o ∧ Mb o := by
  cases c with
  | lst xs => exact ⟨_, h.choose_spec.1, .inl ⟨_, rfl⟩⟩
  | dct ds => exact ⟨_, h.choose_spec.1, .inr ⟨_, rfl⟩⟩
theorem OwnOk.dv (h : OwnOk O K H P p c) (n : ¬ P p) : Dv O K H P (.ref p) (dataOf c) := by
  cases c with
  | lst xs =>
    obtain ⟨vs, h1, h2⟩ := h
    exact .lst h1 n h2
  | dct ds =>
    obtain ⟨kvs, h1, h2, h3⟩ := h
    exact .dct h1 n h2 h3
end
abbrev Env := List (Option Ent)
def cleanE : Option Ent → Option D
  | some (.val d) => some d
  | _ => none
def fullE : Option Ent → Option D
  | some (.val d) => some d
  | some (.own c) => some (dataOf c)
  | none => none
def clean (Γ : Env) : Rho := Γ.map cleanE
def full (Γ : Env) : Rho := Γ.map fullE
def Pw (P : Addr → Prop) (own : Nat → Option Addr) : Addr → Prop := fun a => P a ∨ ∃ i, own i = some a
structure Rg [Nm] (O : Ob) (K : PySem.W.Frag) (H0 : Hp) (P0 : Addr → Prop) (Γ : Env) (σ : L2.St) (H : Hp) (own : Nat → Option Addr) : Prop where
  same : Same H0 H
  inj : ∀ i j a, own i = some a → own j = some a → i = j
  fresh : ∀ i a, own i = some a → Nn H0 a ∧ ∃ o, H a = some o ∧ Mb o
  rs : Rs O K (Pw P0 own) (clean Γ) σ H
  ow : ∀ (i : Nat) c, Γ[i]? = some (some (.own c)) → ∃ p, own i = some p ∧ σ[i]? = some (some (.ref p)) ∧ OwnOk O K H (Pw P0 own) p c
section
variable [Nm] {O : Ob} {X : Cx} {E : XK} {H0 : Hp} {P0 : Addr → Prop} {Γ : Env} {σ : L2.St} {H H' : Hp} {own : Nat → Option Addr} {K : PySem.W.Frag}
theorem Rg.dom (h : Rg O K H0 P0 Γ σ H own) (hd : Dom H0 P0) : Dom H (Pw P0 own) := ⟨fun a z => by
  rcases z with z | ⟨i, z⟩
  · exact (hd.same h.same).has a z
  · exact (h.fresh i a z).2, (hd.same h.same).tab⟩
theorem Rg.step (h : Rg O K H0 P0 Γ σ H own) (s : Same H H') : Rg O K H0 P0 Γ σ H' own :=
  ⟨h.same.trans s, h.inj, fun i a e => let ⟨e1, o, e2, m⟩ := h.fresh i a e; ⟨e1, o, s.all _ _ e2 (no_mb m), m⟩, h.rs.same s, fun i c e => let ⟨p, e1, e2, e3⟩ := h.ow i c e; ⟨p, e1, e2, e3.same s⟩⟩
theorem Rg.full (h : Rg O K H0 P0 Γ σ H own) (hd : Dom H0 P0) : Rs O K P0 (full Γ) σ H := by
  refine ⟨by rw [h.rs.len]; simp [clean, DL.full], fun i d e => ?_⟩
  unfold DL.full at e
  rw [List.getElem?_map] at e
  cases q : Γ[i]? with
  | none =>
    rw [q] at e
    cases e
  | some o =>
    rw [q] at e
    cases o with
    | none => cases e
    | some t =>
      cases t with
      | val d' =>
        have e' : d' = d := by
          injection e with e
          injection e
        subst e'
        obtain ⟨v, e1, h1⟩ := h.rs.get i d' (by unfold clean; rw [List.getElem?_map, q]; rfl)
        exact ⟨v, e1, h1.less fun a z => .inl z⟩
      | own c =>
        cases e
        obtain ⟨p, e1, e2, e3⟩ := h.ow i c q
        refine ⟨.ref p, e2, (e3.less fun a z => .inl z).dv fun z => ?_⟩
        obtain ⟨o, eo, m⟩ := hd.has p z
        exact no_mb m ((h.fresh i p e1).1 _ eo)
theorem clean_set (Γ : Env) (i : Nat) (d : D) : clean (Γ.set i (some (.val d))) = (clean Γ).set i (some d) := by
  unfold clean
  rw [List.map_set]
  rfl
theorem Rg.set (h : Rg O K H0 P0 Γ σ H own) {i : Nat} {v : V} {d : D} (hv : Dv O K H (Pw P0 own) v d) : Rg O K H0 P0 (Γ.set i (some (.val d))) (σ.set i (some v)) H own := by
  refine ⟨h.same, h.inj, h.fresh, by rw [clean_set]; exact h.rs.set hv, fun j xs e => ?_⟩
  by_cases hj : i = j
  · subst hj
    have hl : i < Γ.length := by
      have := (List.getElem?_eq_some_iff.mp e).1
      rw [List.length_set] at this
      exact this
    rw [List.getElem?_set_self hl] at e
    cases e
  · rw [List.getElem?_set_ne hj] at e
    obtain ⟨p, e1, e2, e3⟩ := h.ow j xs e
    exact ⟨p, e1, by rw [List.getElem?_set_ne hj]; exact e2, e3⟩
def setV (Γ : Env) : List (Nat × D) → Env
  | [] => Γ
  | (i, d) :: r => setV (Γ.set i (some (.val d))) r
theorem Rg.many : ∀ {a : List (Nat × V)} {b : List (Nat × D)} {Γ : Env} {σ : L2.St}, Bnd O K H (Pw P0 own) a b → Rg O K H0 P0 Γ σ H own → Rg O K H0 P0 (setV Γ b) (setAll σ a) H own
  | _, _, _, _, .nil, h => h
  | (i, v) :: a, (_, d) :: b, Γ, σ, .cons hv r, h => by
    have := Rg.many (Γ := Γ.set i (some (.val d))) (σ := σ.set i (some v)) r (h.set hv)
    exact this
def ownSet (own : Nat → Option Addr) (i : Nat) (p : Addr) : Nat → Option Addr := fun j => if j = i then some p else own j
theorem ownSet_self (own : Nat → Option Addr) (i : Nat) (p : Addr) : ownSet own i p i = some p := if_pos rfl
theorem ownSet_ne {own : Nat → Option Addr} {i j : Nat} {p : Addr} (h : j ≠ i) : ownSet own i p j = own j := if_neg h
/-- a new list becomes one's own -/
theorem Rg.setOwn (h : Rg O K H0 P0 Γ σ H own) {i : Nat} {p : Addr} {c : OwnC} (n : Nn H0 p) (np : ∀ j, own j ≠ some p)
    (hr : ∀ (j : Nat) d, (clean Γ)[j]? = some (some d) → ∃ v, σ[j]? = some (some v) ∧ Dv O K H (fun a => Pw P0 own a ∨ a = p) v d)
    (ho : ∀ (j : Nat) c, Γ[j]? = some (some (.own c)) → ∃ q, own j = some q ∧ σ[j]? = some (some (.ref q)) ∧ OwnOk O K H (fun a => Pw P0 own a ∨ a = p) q c)
    (hv : OwnOk O K H (fun a => Pw P0 own a ∨ a = p) p c) : Rg O K H0 P0 (Γ.set i (some (.own c))) (σ.set i (some (.ref p))) H (ownSet own i p) := by
  have sub : ∀ a, Pw P0 (ownSet own i p) a → Pw P0 own a ∨ a = p := fun a z => by
    rcases z with z | ⟨j, z⟩
    · exact .inl (.inl z)
    · by_cases hj : j = i
      · subst hj
        rw [ownSet_self] at z
        cases z
        exact .inr rfl
      · rw [ownSet_ne hj] at z
        exact .inl (.inr ⟨j, z⟩)
  refine ⟨h.same, fun j k a e1 e2 => ?_, fun j a e1 => ?_, ⟨by rw [List.length_set, h.rs.len]; simp [clean], fun j d e1 => ?_⟩, fun j ys e1 => ?_⟩
  · by_cases hj : j = i
    · subst hj
      rw [ownSet_self] at e1
      cases e1
      by_cases hk : k = j
      · rw [hk]
      · rw [ownSet_ne hk] at e2
        exact absurd e2 (np k)
    · rw [ownSet_ne hj] at e1
      by_cases hk : k = i
      · subst hk
        rw [ownSet_self] at e2
        cases e2
        exact absurd e1 (np j)
      · rw [ownSet_ne hk] at e2
        exact h.inj j k a e1 e2
  · by_cases hj : j = i
    · subst hj
      rw [ownSet_self] at e1
      cases e1
      exact ⟨n, hv.mb⟩
    · rw [ownSet_ne hj] at e1
      exact h.fresh j a e1
  · unfold clean at e1
    rw [List.map_set] at e1
    by_cases hj : i = j
    · subst hj
      have hl : i < (Γ.map cleanE).length := by
        have := (List.getElem?_eq_some_iff.mp e1).1
        rw [List.length_set] at this
        exact this
      rw [List.getElem?_set_self hl] at e1
      cases e1
    · rw [List.getElem?_set_ne hj] at e1
      obtain ⟨v, e2, h2⟩ := hr j d e1
      exact ⟨v, by rw [List.getElem?_set_ne hj]; exact e2, h2.less sub⟩
  · by_cases hj : i = j
    · subst hj
      have hl : i < Γ.length := by
        have := (List.getElem?_eq_some_iff.mp e1).1
        rw [List.length_set] at this
        exact this
      rw [List.getElem?_set_self hl] at e1
      cases e1
      have hs : i < σ.length := by
        rw [h.rs.len]
        simpa [clean] using hl
      exact ⟨p, ownSet_self own i p, by rw [List.getElem?_set_self hs], hv.less sub⟩
    · rw [List.getElem?_set_ne hj] at e1
      obtain ⟨q, e2, e3, e4⟩ := ho j ys e1
      exact ⟨q, by rw [ownSet_ne (fun z => hj z.symm)]; exact e2, by rw [List.getElem?_set_ne hj]; exact e3, e4.less sub⟩
/-! ### what follows a statement -/
structure KS where
  nx : Env → Prop
  rt : D → Prop
  bk : Env → Prop := fun _ => False
  ct : Env → Prop := fun _ => False
  ex : Str → Prop := fun _ => False
structure Lk (O : Ob) (X : Cx) (E : XK) (H0 : Hp) (P0 : Addr → Prop) (k : KS) (D : Ends) : Prop where
  nx : ∀ Γ σ H own, Rg O X.K H0 P0 Γ σ H own → k.nx Γ → D.nx σ H
  rt : ∀ v d H, Same H0 H → Dv O X.K H P0 v d → k.rt d → D.rt v H
  bk : ∀ Γ σ H own, Rg O X.K H0 P0 Γ σ H own → k.bk Γ → D.bk σ H
  ct : ∀ Γ σ H own, Rg O X.K H0 P0 Γ σ H own → k.ct Γ → D.ct σ H
  ex : XOk X E H0 k.ex
abbrev FS := Env → KS → Prop
def DS (O : Ob) (X : Cx) (E : XK) (st : Stmt) (F : FS) : Prop := ∃ t, PS X st t ∧ ∀ H0 P0 Γ σ H own k D, Dom H0 P0 → Rg O X.K H0 P0 Γ σ H own → F Γ k → Lk O X E H0 P0 k D → t D σ H
def DSs (O : Ob) (X : Cx) (E : XK) (st : List Stmt) (F : FS) : Prop := ∃ t, PSs X st t ∧ ∀ H0 P0 Γ σ H own k D, Dom H0 P0 → Rg O X.K H0 P0 Γ σ H own → F Γ k → Lk O X E H0 P0 k D → t D σ H
variable {pos : Pos} {e a b : Expr} {st : Stmt} {rest : List Stmt} {F G : FS} {f : Rho → WD D}
theorem Lk.exH {k : KS} {D : Ends} (l : Lk O X E H0 P0 k D) (r : Rg O X.K H0 P0 Γ σ H own) : XOk X E H k.ex := l.ex.same r.same
def sNext : FS := fun Γ k => k.nx Γ
def sSeq (F G : FS) : FS := fun Γ k => F Γ { k with nx := fun Γ' => G Γ' k }
theorem dss_nil : DSs O X E [] sNext := ⟨_, pss_nil, fun H0 P0 Γ σ H own k D hd r hf l => l.nx _ _ _ _ r hf⟩
theorem dss_one (h : DS O X E st F) : DSs O X E [st] F := let ⟨t, h1, h2⟩ := h; ⟨t, pss_one h1, h2⟩
theorem dss_cons (h : DS O X E st F) (k : DSs O X E rest G) : DSs O X E (st :: rest) (sSeq F G) := by
  obtain ⟨t, h1, h2⟩ := h
  obtain ⟨u, k1, k2⟩ := k
  exact ⟨_, pss_cons h1 k1, fun H0 P0 Γ σ H own k D hd r hf l => h2 H0 P0 Γ σ H own _ _ hd r hf ⟨fun Γ' σ' H' own' r' q => k2 H0 P0 Γ' σ' H' own' k D hd r' q l, l.rt, l.bk, l.ct, l.ex⟩⟩
theorem ds_pass : DS O X E (.Pass pos) sNext := ⟨_, ps_pass, fun H0 P0 Γ σ H own k D hd r hf l => l.nx _ _ _ _ r hf⟩
def sBreak : FS := fun Γ k => k.bk Γ
def sCont : FS := fun Γ k => k.ct Γ
theorem ds_break : DS O X E (.Break pos) sBreak := ⟨_, ps_break, fun H0 P0 Γ σ H own k D hd r hf l => l.bk _ _ _ _ r hf⟩
theorem ds_continue : DS O X E (.Continue pos) sCont := ⟨_, ps_continue, fun H0 P0 Γ σ H own k D hd r hf l => l.ct _ _ _ _ r hf⟩
def sNever : FS := fun _ _ => False
theorem ds_never : DS O X E st sNever := ⟨_, ps_never, fun H0 P0 Γ σ H own k D hd r hf l => hf.elim⟩
/-- return e -/
def sRet (f : Rho → WD D) : FS := fun Γ k => f (full Γ) k.rt k.ex
theorem ds_ret (h : DE O X E e f) : DS O X E (.Return (some e) pos) (sRet f) := by
  obtain ⟨t, h1, h2⟩ := h
  exact ⟨_, ps_ret h1, fun H0 P0 Γ σ H own k D hd r hf l => h2 P0 _ σ H _ _ _ (hd.same r.same) (r.full hd) hf (fun v d H' s h q => l.rt v d H' (r.same.trans s) h q) (l.exH r)⟩
def sRetN : FS := fun Γ k => k.rt .none
theorem ds_retN : DS O X E (.Return none pos) sRetN := ⟨_, ps_retN, fun H0 P0 Γ σ H own k D hd r hf l => l.rt _ _ _ r.same .non hf⟩
/-- x = e: e looks at no list of one's own -/
def sSet (i : Nat) (f : Rho → WD D) : FS := fun Γ k => f (clean Γ) (fun d => k.nx (Γ.set i (some (.val d)))) k.ex
theorem ds_set (i : Nat) {x : Str} {pos' : Pos} (hN : X.N.Nodup) (h : DE O X E e f) (hi : X.N[i]? = some x := by rfl) (hx : Loc X.env.scope x := by first | exact Or.inl rfl | exact Or.inr rfl) (hs : swapsWith e (some (.Name x pos')) pos.line X.env = pure false := by rfl)
    (hf : X.fn x = true ∨ X.env.scope.names.lookup x = some .local := by first | exact .inl rfl | exact .inr rfl | assumption) : DS O X E (.Assign [.Name x pos'] e pos) (sSet i f) := by
  obtain ⟨t, h1, h2⟩ := h
  exact ⟨_, ps_set (i := i) hN hi hx h1 hs hf, fun H0 P0 Γ σ H own k D hd r hf l => h2 _ _ σ H _ _ _ (r.dom hd) r.rs hf (fun v d H' s h q => l.nx _ _ _ _ ((r.step s).set h) q) (l.exH r)⟩
/-- x = e: e is plain all through -/
def sSetP (i : Nat) (f : Rho → WD D) : FS := fun Γ k => f (full Γ) (fun d => pureD d = true ∧ k.nx (Γ.set i (some (.val d)))) k.ex
theorem ds_setP (i : Nat) {x : Str} {pos' : Pos} (hN : X.N.Nodup) (h : DE O X E e f) (hi : X.N[i]? = some x := by rfl) (hx : Loc X.env.scope x := by first | exact Or.inl rfl | exact Or.inr rfl) (hs : swapsWith e (some (.Name x pos')) pos.line X.env = pure false := by rfl)
    (hf : X.fn x = true ∨ X.env.scope.names.lookup x = some .local := by first | exact .inl rfl | exact .inr rfl | assumption) : DS O X E (.Assign [.Name x pos'] e pos) (sSetP i f) := by
  obtain ⟨t, h1, h2⟩ := h
  exact ⟨_, ps_set (i := i) hN hi hx h1 hs hf, fun H0 P0 Γ σ H own k D hd r hf l => h2 P0 _ σ H _ _ _ (hd.same r.same) (r.full hd) hf (fun v d H' s h q => l.nx _ _ _ _ ((r.step s).set (h.pure q.1)) q.2) (l.exH r)⟩
/-- x = a new list -/
def sSetF (i : Nat) (f : Rho → WD (List D)) : FS := fun Γ k => f (clean Γ) (fun xs => k.nx (Γ.set i (some (.own (.lst xs))))) k.ex
theorem own_new (r : Rg O K H0 P0 Γ σ H own) (hd : Dom H0 P0) {i : Nat} {p : Addr} {c : OwnC} (s : Same H H') (n : Nn H p) (hv : OwnOk O K H' (fun a => Pw P0 own a ∨ a = p) p c) :
    Rg O K H0 P0 (Γ.set i (some (.own c))) (σ.set i (some (.ref p))) H' (ownSet own i p) := by
  have r' := r.step s
  have ps : ∀ a, (Pw P0 own a ∨ a = p) → Pw P0 own a ∨ Nn H a := fun a z => z.imp id fun q => by rw [q]; exact n
  refine r'.setOwn (r.same.free n) (fun j z => ?_) (fun j d e1 => ?_) (fun j ys e1 => ?_) hv
  · obtain ⟨_, ws, z2, m⟩ := r.fresh j p z
    exact no_mb m (n _ z2)
  · obtain ⟨v, e2, h2⟩ := r.rs.get j d e1
    exact ⟨v, e2, h2.kf ps (.of s) (r.dom hd)⟩
  · obtain ⟨q, e2, e3, e4⟩ := r.ow j ys e1
    exact ⟨q, e2, e3, e4.to (fun h => h.kf ps (.of s) (r.dom hd)) fun o e m => s.all _ _ e (no_mb m)⟩
theorem ds_setF (i : Nat) {x : Str} {pos' : Pos} {f : Rho → WD (List D)} (hN : X.N.Nodup) (h : DF O X E e f) (hi : X.N[i]? = some x := by rfl) (hx : Loc X.env.scope x := by first | exact Or.inl rfl | exact Or.inr rfl) (hs : swapsWith e (some (.Name x pos')) pos.line X.env = pure false := by rfl)
    (hf : X.fn x = true ∨ X.env.scope.names.lookup x = some .local := by first | exact .inl rfl | exact .inr rfl | assumption) : DS O X E (.Assign [.Name x pos'] e pos) (sSetF i f) := by
  obtain ⟨t, h1, h2⟩ := h
  exact ⟨_, ps_set (i := i) hN hi hx h1 hs hf, fun H0 P0 Γ σ H own k D hd r hf l => h2 _ _ σ H _ _ _ (r.dom hd) r.rs hf (fun p vs ds H' s n e h q => l.nx _ _ _ _ (own_new (c := .lst ds) r hd s n ⟨vs, e, h⟩) q) (l.exH r)⟩
def sSetFP (i : Nat) (f : Rho → WD (List D)) : FS := fun Γ k => f (full Γ) (fun xs => pureD.pureAll xs = true ∧ k.nx (Γ.set i (some (.own (.lst xs))))) k.ex
theorem ds_setFP (i : Nat) {x : Str} {pos' : Pos} {f : Rho → WD (List D)} (hN : X.N.Nodup) (h : DF O X E e f) (hi : X.N[i]? = some x := by rfl) (hx : Loc X.env.scope x := by first | exact Or.inl rfl | exact Or.inr rfl) (hs : swapsWith e (some (.Name x pos')) pos.line X.env = pure false := by rfl)
    (hf : X.fn x = true ∨ X.env.scope.names.lookup x = some .local := by first | exact .inl rfl | exact .inr rfl | assumption) : DS O X E (.Assign [.Name x pos'] e pos) (sSetFP i f) := by
  obtain ⟨t, h1, h2⟩ := h
  exact ⟨_, ps_set (i := i) hN hi hx h1 hs hf, fun H0 P0 Γ σ H own k D hd r hf l => h2 P0 _ σ H _ _ _ (hd.same r.same) (r.full hd) hf (fun p vs ds H' s n e h q => l.nx _ _ _ _ (own_new (c := .lst ds) r hd s n ⟨vs, e, h.pure q.1⟩) q.2) (l.exH r)⟩
section
variable {elt : Expr} {gs : List Comprehension} {scope : Scope} {fl : Rho → WD (List D)} {y : Str} {py lpos spos : Pos}
/-- x = [..], x a local that no block looks at -/
theorem ds_setLcF (i : Nat) (h : DLc O X E elt gs scope fl) (hy : X.N[i]? = some y := by rfl) (hl : X.env.scope.names.lookup y = some .local := by rfl) (hk : X.env.scope.kind = .function := by rfl) (hp : (py.line == lpos.line) = true := by rfl)
    (ha : (scope.names.any fun (n, k) => n == y && (k == .local || k == .cell)) = false := by decide +kernel) : DS O X E (.Assign [.Name y py] (.ListComp elt gs scope lpos) spos) (sSetF i fl) := by
  obtain ⟨t, _, h2, h3⟩ := h
  exact ⟨_, h2 i y py lpos spos hy hl (sw_true hk hl hp ha), fun H0 P0 Γ σ H own k D hd r hf l => h3 _ _ σ H _ _ _ (r.dom hd) r.rs hf (fun p vs ds H' s n e h q => l.nx _ _ _ _ (own_new (c := .lst ds) r hd s n ⟨vs, e, h⟩) q) (l.exH r)⟩
theorem ds_setLcFP (i : Nat) (h : DLc O X E elt gs scope fl) (hy : X.N[i]? = some y := by rfl) (hl : X.env.scope.names.lookup y = some .local := by rfl) (hk : X.env.scope.kind = .function := by rfl) (hp : (py.line == lpos.line) = true := by rfl)
    (ha : (scope.names.any fun (n, k) => n == y && (k == .local || k == .cell)) = false := by decide +kernel) : DS O X E (.Assign [.Name y py] (.ListComp elt gs scope lpos) spos) (sSetFP i fl) := by
  obtain ⟨t, _, h2, h3⟩ := h
  exact ⟨_, h2 i y py lpos spos hy hl (sw_true hk hl hp ha), fun H0 P0 Γ σ H own k D hd r hf l => h3 P0 _ σ H _ _ _ (hd.same r.same) (r.full hd) hf (fun p vs ds H' s n e h q => l.nx _ _ _ _ (own_new (c := .lst ds) r hd s n ⟨vs, e, h.pure q.1⟩) q.2) (l.exH r)⟩
theorem ds_setLc (i : Nat) (h : DLc O X E elt gs scope fl) (hy : X.N[i]? = some y := by rfl) (hl : X.env.scope.names.lookup y = some .local := by rfl) (hk : X.env.scope.kind = .function := by rfl) (hp : (py.line == lpos.line) = true := by rfl)
    (ha : (scope.names.any fun (n, k) => n == y && (k == .local || k == .cell)) = false := by decide +kernel) : DS O X E (.Assign [.Name y py] (.ListComp elt gs scope lpos) spos) (sSet i (eOfF fl)) := by
  obtain ⟨t, _, h2, h3⟩ := h
  exact ⟨_, h2 i y py lpos spos hy hl (sw_true hk hl hp ha), fun H0 P0 Γ σ H own k D hd r hf l => h3 _ _ σ H _ _ _ (r.dom hd) r.rs hf (fun p vs ds H' s n e h q => l.nx _ _ _ _ ((r.step s).set (.lst e ((r.dom hd).new n) (h.less fun _ z => .inl z))) q) (l.exH r)⟩
end
/-- a target of several names -/
def sTgt (T : Tg) (f : Rho → WD D) : FS := fun Γ k => f (clean Γ) (fun d => orStuck (bindT T d) fun l => k.nx (setV Γ l)) k.ex
theorem ds_tgt {tg : Expr} {T : Tg} (h : DE O X E e f) (hg : DG O X tg T) (hs : swapsWithSole [tg] e pos.line X.env = pure false := by rfl) (hw : swappedStores [tg] e X.env = pure none := by rfl) (h1 : (assignEach [tg] X.env).map (·.2) = [assign tg X.env] := by rfl) : DS O X E (.Assign [tg] e pos) (sTgt T f) := by
  obtain ⟨t, a1, a2⟩ := h
  obtain ⟨g, b1, b2⟩ := hg
  refine ⟨_, ps_asg a1 b1 hs hw h1, fun H0 P0 Γ σ H own k D hd r hf l => a2 _ _ σ H _ _ _ (r.dom hd) r.rs hf (fun v d H' s h q => ?_) (l.exH r)⟩
  obtain ⟨lb, e1, q⟩ := of_orStuck q
  exact b2 _ σ H' v d lb _ h e1 fun a ha => l.nx _ _ _ _ (Rg.many ha (r.step s)) q
def sTgtP (T : Tg) (f : Rho → WD D) : FS := fun Γ k => f (full Γ) (fun d => pureD d = true ∧ orStuck (bindT T d) fun l => k.nx (setV Γ l)) k.ex
theorem ds_tgtP {tg : Expr} {T : Tg} (h : DE O X E e f) (hg : DG O X tg T) (hs : swapsWithSole [tg] e pos.line X.env = pure false := by rfl) (hw : swappedStores [tg] e X.env = pure none := by rfl) (h1 : (assignEach [tg] X.env).map (·.2) = [assign tg X.env] := by rfl) : DS O X E (.Assign [tg] e pos) (sTgtP T f) := by
  obtain ⟨t, a1, a2⟩ := h
  obtain ⟨g, b1, b2⟩ := hg
  refine ⟨_, ps_asg a1 b1 hs hw h1, fun H0 P0 Γ σ H own k D hd r hf l => a2 P0 _ σ H _ _ _ (hd.same r.same) (r.full hd) hf (fun v d H' s h q => ?_) (l.exH r)⟩
  obtain ⟨lb, e1, q2⟩ := of_orStuck q.2
  exact b2 _ σ H' v d lb _ (h.pure q.1) e1 fun a ha => l.nx _ _ _ _ (Rg.many ha (r.step s)) q2
/-- a, b = x, y -/
def sPar (i j : Nat) (f : Rho → WD (List D)) : FS := fun Γ k => f (clean Γ) (fun ds => match ds with
  | [d, e] => k.nx ((Γ.set i (some (.val d))).set j (some (.val e)))
  | _ => False) k.ex
theorem ds_par {i j : Nat} {x y : Str} {f : Rho → WD (List D)} {px py pt : Pos} {kt k2 pt2} (hc : X.calm = true) (hN : X.N.Nodup) (ha : DA O X E [a, b] f) (hw : swappedStores [.Tuple [.Name x px, .Name y py] kt pt] (.Tuple [a, b] k2 pt2) X.env = pure (some [x, y]))
    (hi : X.N[i]? = some x := by rfl) (hj : X.N[j]? = some y := by rfl) (hij : i ≠ j := by decide)
    (hx : X.env.scope.names.lookup x = some .local := by rfl) (hy : X.env.scope.names.lookup y = some .local := by rfl)
    (hs : swapsWithSole [.Tuple [.Name x px, .Name y py] kt pt] (.Tuple [a, b] k2 pt2) pos.line X.env = pure false := by rfl) :
    DS O X E (.Assign [.Tuple [.Name x px, .Name y py] kt pt] (.Tuple [a, b] k2 pt2) pos) (sPar i j f) := by
  obtain ⟨t, a1, a2⟩ := ha
  refine ⟨_, ps_par hc hN hi hj hij hx hy a1 hw hs, fun H0 P0 Γ σ H own k D hd r hf l => a2 _ _ σ H _ _ _ (r.dom hd) r.rs hf (fun vs ds H' s h _ q => ?_) (l.exH r)⟩
  cases h with
  | nil => exact q.elim
  | cons h1 h =>
    cases h with
    | nil => exact q.elim
    | cons h2 h =>
      cases h with
      | nil => exact ⟨_, _, rfl, l.nx _ _ _ _ (((r.step s).set h1).set h2) q⟩
      | cons _ _ => exact q.elim
/-- e -/
def sDrop (f : Rho → WD D) : FS := fun Γ k => f (full Γ) (fun _ => k.nx Γ) k.ex
theorem ds_expr (h : DE O X E e f) (hs : swapsWith e none pos.line X.env = pure false := by rfl) : DS O X E (.Expr e pos) (sDrop f) := by
  obtain ⟨t, h1, h2⟩ := h
  exact ⟨_, ps_expr h1 hs, fun H0 P0 Γ σ H own k D hd r hf l => h2 P0 _ σ H _ _ _ (hd.same r.same) (r.full hd) hf (fun v d H' s h q => l.nx _ _ _ _ (r.step s) q) (l.exH r)⟩
/-- if -/
def sIf (c : Rho → WD Bool) (F G : FS) : FS := fun Γ k => c (full Γ) (fun b => if b = true then F Γ k else G Γ k) k.ex
theorem ds_if {c : Expr} {fc : Rho → WD Bool} {sa sb : List Stmt} (h : DT O X E c fc) (ha : DSs O X E sa F) (hb : DSs O X E sb G) : DS O X E (.If c sa sb pos) (sIf fc F G) := by
  obtain ⟨t, h1, h2⟩ := h
  obtain ⟨ta, a1, a2⟩ := ha
  obtain ⟨tb, b1, b2⟩ := hb
  refine ⟨_, ps_if h1 a1 b1, fun H0 P0 Γ σ H own k D hd r hf l => h2 P0 _ σ H _ _ _ (hd.same r.same) (r.full hd) hf (fun b H' s q => ?_) (l.exH r)⟩
  cases b with
  | true => exact a2 H0 P0 Γ σ H' own k D hd (r.step s) q l
  | false => exact b2 H0 P0 Γ σ H' own k D hd (r.step s) q l
/-- x += e, whole numbers -/
def sAug (i : Nat) (g : Int → Int → Int) (f : Rho → WD D) : FS := fun Γ k => match (full Γ)[i]? with
  | some (some (.int a)) => f (full Γ) (fun d => match d with
    | .int b => k.nx (Γ.set i (some (.val (.int (g a b)))))
    | _ => False) k.ex
  | _ => False
theorem ds_aug (i : Nat) {x : Str} {op : Operator} {g : Int → Int → Int} {pos' : Pos} (hN : X.N.Nodup) (h : DE O X E e f) (ho : PIp X op (ipI g)) (hi : X.N[i]? = some x := by rfl) (hx : Loc X.env.scope x := by first | exact Or.inl rfl | exact Or.inr rfl)
    (hf : X.fn x = true ∨ X.env.scope.names.lookup x = some .local := by first | exact .inl rfl | exact .inr rfl | assumption) : DS O X E (.AugAssign (.Name x pos') op e pos) (sAug i g f) := by
  obtain ⟨t, h1, h2⟩ := h
  refine ⟨_, ps_aug (i := i) hN hi hx h1 ho hf, fun H0 P0 Γ σ H own k D hd r hf l => ?_⟩
  unfold sAug at hf
  split at hf
  · rename_i a e
    obtain ⟨v, e1, hv⟩ := (r.full hd).get i _ e
    cases hv
    refine ⟨_, e1, h2 P0 _ σ H _ _ _ (hd.same r.same) (r.full hd) hf (fun v d H' s h q => ?_) (l.exH r)⟩
    cases h with
    | int b => exact ⟨a, b, rfl, rfl, l.nx _ _ _ _ ((r.step s).set (.int _)) q⟩
    | _ => exact q.elim
  · exact hf.elim
/-! ### for -/
def forLoop (T : Tg) (F : FS) (k : KS) : List D → Env → Prop
  | [], Γ => k.nx Γ
  | x :: xs, Γ => orStuck (bindT T x) fun l => F (setV Γ l) { k with nx := forLoop T F k xs, ct := forLoop T F k xs, bk := k.nx }
def sFor (fi : Rho → WD (List D)) (T : Tg) (F : FS) : FS := fun Γ k => fi (clean Γ) (fun xs => forLoop T F k xs Γ) k.ex
/-- what is not one's own -/
noncomputable def froz (own : Nat → Option Addr) (H : Hp) : Hp := fun a => @ite _ (∃ i, own i = some a) (Classical.propDecidable _) none (H a)
theorem froz_of {a : Addr} {o : HO} (e : H a = some o) (n : ¬ ∃ i, own i = some a) : froz own H a = some o := by
  unfold froz
  rw [if_neg n]
  exact e
theorem of_froz {a : Addr} {o : HO} (e : froz own H a = some o) : H a = some o ∧ ¬ ∃ i, own i = some a := by
  unfold froz at e
  by_cases h : ∃ i, own i = some a
  · rw [if_pos h] at e
    cases e
  · rw [if_neg h] at e
    exact ⟨e, h⟩
theorem froz_none {a : Addr} (e : Nn (froz own H) a) : (∃ i, own i = some a) ∨ Nn H a := by
  by_cases h : ∃ i, own i = some a
  · exact .inl h
  · exact .inr fun o q => e o (froz_of q h)
theorem Rg.froz0 (r : Rg O K H0 P0 Γ σ H own) : Same H0 (froz own H) := by
  refine ⟨fun a o e n => froz_of (r.same.all a o e n) fun ⟨i, z⟩ => ?_, fun t a e => ?_⟩
  · exact n ((r.fresh i a z).1 _ e)
  · have no : ∀ {b : Addr} {u : HO}, H b = some u → ¬ Mb u → ¬ ∃ i, own i = some b := fun {b u} eb nu ⟨i, z⟩ => by
      obtain ⟨_, o, e2, m⟩ := r.fresh i b z
      rw [eb] at e2
      cases e2
      exact nu m
    obtain ⟨ps, h1, h2, h3⟩ := r.same.tab t a e
    refine ⟨ps, froz_of h1 (no h1 fun z => no_mb z ⟨_, rfl⟩), h2, fun pos cv hc => ?_⟩
    obtain ⟨c, e1, e2⟩ := h3 pos cv hc
    exact ⟨c, e1, froz_of e2 (no e2 fun z => by rcases z with ⟨_, z⟩ | ⟨_, z⟩ <;> cases z)⟩
/-- seen from what is not one's own -/
theorem Rg.deep (r : Rg O K H0 P0 Γ σ H own) : Rg O K (froz own H) P0 Γ σ H own :=
  ⟨.of fun a o e => (of_froz e).1, r.inj, fun i a e => ⟨fun o q => absurd ⟨i, e⟩ (of_froz q).2, (r.fresh i a e).2⟩, r.rs, r.ow⟩
theorem Rg.back {H1 : Hp} {own1 : Nat → Option Addr} (s : Same H0 H1) (r : Rg O K H1 P0 Γ σ H own1) : Rg O K H0 P0 Γ σ H own1 :=
  ⟨s.trans r.same, r.inj, fun i a e => ⟨s.free (r.fresh i a e).1, (r.fresh i a e).2⟩, r.rs, r.ow⟩
theorem Rg.dom0 (r : Rg O K H0 P0 Γ σ H own) (hd : Dom H0 P0) : Dom (froz own H) P0 := hd.same r.froz0
theorem ds_for {tg iter : Expr} {body : List Stmt} {fi : Rho → WD (List D)} {T : Tg} (hp : PassesOwn (model X.prog X.w) X.A X.env X.xe) (hc : X.calm = true) (hi : DI O X E tg iter fi) (hg : DG O X tg T) (hb : DSs O X E body F)
    (hs : ∀ x, foldedSetIterable iter X.env x = pure x := by intro _; rfl) : DS O X E (.For tg iter body [] pos) (sFor fi T F) := by
  obtain ⟨wi, i1, i2⟩ := hi
  obtain ⟨g, g1, g2⟩ := hg
  obtain ⟨tb, b1, b2⟩ := hb
  refine ⟨_, ps_for hp hc i1 g1 b1 hs, fun H0 P0 Γ σ H own k D hd r hf l => i2 _ _ σ H _ _ _ (r.dom hd) r.rs hf (fun J xs H1 s1 dv q => ?_) (l.exH r)⟩
  have r1 := r.step s1
  have s01 := r1.froz0
  have hd1 := r1.dom0 hd
  refine ⟨fun i m σ2 H2 => m = xs.length - i ∧ i ≤ xs.length ∧ ∃ Γ2 own2, Rg O X.K (froz own H1) P0 Γ2 σ2 H2 own2 ∧ forLoop T F k (xs.drop i) Γ2,
    ⟨xs.length, by simp, Nat.zero_le _, Γ, own, r1.deep, q⟩, ?_⟩
  rintro i m σ2 H2 ⟨rfl, hi, Γ2, own2, r2, lp⟩
  have pp : ∀ a, Pw P0 own a → Pw P0 own a ∨ Pw P0 own2 a := fun a z => .inl z
  have hp : ∀ a, (Pw P0 own a ∨ Pw P0 own2 a) → Pw P0 own a ∨ Nn H1 a := fun a z => by
    rcases z with z | z | ⟨j, z⟩
    · exact .inl z
    · exact .inl (.inl z)
    · rcases froz_none (r2.fresh j a z).1 with w | w
      · exact .inl (.inr w)
      · exact .inr w
  have kf : Kf (fun a => Pw P0 own a ∨ Pw P0 own2 a) H1 H2 := fun a o e n s => r2.same.all a o (froz_of e fun z => n (.inl (.inr z))) s
  have dr := dv _ H2 pp hp kf
  by_cases hlt : i < xs.length
  · refine .inr ⟨dr.go i hlt, fun σ' H' => ∃ Γ' own', Rg O X.K (froz own H1) P0 Γ' σ' H' own' ∧ forLoop T F k (xs.drop (i + 1)) Γ', fun σ' H' h => ⟨xs.length - (i + 1), by omega, rfl, hlt, h⟩, fun x H3 y => ?_⟩
    obtain ⟨d, ed⟩ := get_lt hlt
    obtain ⟨s3, hx⟩ := dr.yld i x H3 d y ed
    obtain ⟨hi', ed'⟩ := List.getElem?_eq_some_iff.mp ed
    rw [List.drop_eq_getElem_cons hi', ed'] at lp
    obtain ⟨lb, eb, q2⟩ := of_orStuck lp
    refine g2 (Pw P0 own2) σ2 H3 x d lb _ (hx.less fun a z => .inr z) eb fun a ha => b2 _ P0 _ _ H3 own2 _ _ hd1 (Rg.many ha (r2.step s3)) q2 ?_
    exact ⟨fun Γ' σ' H' own' r' q' => ⟨Γ', own', r', q'⟩, fun v d H' s h q' => l.rt v d H' (s01.trans s) h q', fun Γ' σ' H' own' r' q' => l.nx _ _ _ _ (r'.back s01) q', fun Γ' σ' H' own' r' q' => ⟨Γ', own', r', q'⟩, l.ex.same s01⟩
  · have e : i = xs.length := by omega
    subst e
    rw [List.drop_length] at lp
    exact .inl ⟨dr.stop _ (Nat.le_refl _), l.nx _ _ _ _ (r2.back s01) lp⟩
/-! ### while -/
def whLoop (c : Rho → WD Bool) (F : FS) (k : KS) : Nat → Env → Prop
  | 0, _ => False
  | n + 1, Γ => c (full Γ) (fun b => if b = true then F Γ { k with nx := whLoop c F k n, ct := whLoop c F k n, bk := k.nx } else k.nx Γ) k.ex
def sWhile (c : Rho → WD Bool) (F : FS) : FS := fun Γ k => ∃ n, whLoop c F k n Γ
theorem ds_while {c : Expr} {fc : Rho → WD Bool} {body : List Stmt} (hp : PassesOwn (model X.prog X.w) X.A X.env X.xe) (hc : DT O X E c fc) (hb : DSs O X E body F) : DS O X E (.While c body [] pos) (sWhile fc F) := by
  obtain ⟨t, h1, h2⟩ := hc
  obtain ⟨tb, b1, b2⟩ := hb
  refine ⟨_, ps_while hp h1 b1, fun H0 P0 Γ σ H own k D hd r hf l => ?_⟩
  obtain ⟨n, hf⟩ := hf
  refine ⟨fun m σ2 H2 => ∃ Γ2 own2, Rg O X.K H0 P0 Γ2 σ2 H2 own2 ∧ whLoop fc F k m Γ2, ⟨n, Γ, own, r, hf⟩, ?_⟩
  rintro m σ2 H2 ⟨Γ2, own2, r2, lp⟩
  cases m with
  | zero => exact lp.elim
  | succ m =>
    refine h2 P0 _ σ2 H2 _ _ _ (hd.same r2.same) (r2.full hd) lp (fun b H3 s3 q3 => ?_) (l.exH r2)
    cases b with
    | true =>
      refine ⟨fun σ' H' => ∃ Γ' own', Rg O X.K H0 P0 Γ' σ' H' own' ∧ whLoop fc F k m Γ', fun σ' H' h => ⟨m, Nat.lt_succ_self m, h⟩, b2 H0 P0 Γ2 σ2 H3 own2 _ _ hd (r2.step s3) q3 ?_⟩
      exact ⟨fun Γ' σ' H' own' r' q' => ⟨Γ', own', r', q'⟩, l.rt, l.nx, fun Γ' σ' H' own' r' q' => ⟨Γ', own', r', q'⟩, l.ex⟩
    | false => exact l.nx _ _ _ _ (r2.step s3) q3
/-! ### lists of one's own -/
theorem Rg.grow (r : Rg O K H0 P0 Γ σ H own) {i : Nat} {p : Addr} {o' : HO} {c c' : OwnC} (e : Γ[i]? = some (some (.own c))) (eo : own i = some p) (es : σ[i]? = some (some (.ref p))) (mo : Mb o')
    (hc : (∀ {vs : List V} {ds : List D}, DvAll O K H (Pw P0 own) vs ds → DvAll O K (upd H p o') (Pw P0 own) vs ds) → OwnOk O K (upd H p o') (Pw P0 own) p c') : Rg O K H0 P0 (Γ.set i (some (.own c'))) σ (upd H p o') own := by
  obtain ⟨hn, ws, ep, mw⟩ := r.fresh i p eo
  have nl : Nl H (upd H p o') := fun a o ea m _ => by
    have : a ≠ p := fun z => by
      subst z
      rw [ep] at ea
      cases ea
      exact m mw
    rw [upd_ne this]
    exact ea
  have ls : ∀ a o, H a = some o → Mb o → ¬ Pw P0 own a → upd H p o' a = some o := fun a o ea m n => by
    have : a ≠ p := fun z => n (.inr ⟨i, by rw [z]; exact eo⟩)
    rw [upd_ne this]
    exact ea
  have kp : ∀ {v : V} {d : D}, Dv O K H (Pw P0 own) v d → Dv O K (upd H p o') (Pw P0 own) v d := fun h => h.keep nl ls fun _ _ _ _ q => q
  have kpA : ∀ {v : List V} {d : List D}, DvAll O K H (Pw P0 own) v d → DvAll O K (upd H p o') (Pw P0 own) v d := fun h => h.keep nl ls fun _ _ _ _ q => q
  have hil : i < Γ.length := (List.getElem?_eq_some_iff.mp e).1
  refine ⟨r.same.upd hn ep mw, r.inj, fun j a ea => ?_, ⟨by rw [r.rs.len]; simp [clean], fun j d ej => ?_⟩, fun j zs ej => ?_⟩
  · obtain ⟨h1, us, h2, m2⟩ := r.fresh j a ea
    by_cases hp : a = p
    · subst hp
      exact ⟨h1, o', upd_same, mo⟩
    · exact ⟨h1, us, by rw [upd_ne hp]; exact h2, m2⟩
  · unfold clean at ej
    rw [List.map_set] at ej
    by_cases hj : i = j
    · subst hj
      rw [List.getElem?_set_self (by simpa using hil)] at ej
      cases ej
    · rw [List.getElem?_set_ne hj] at ej
      obtain ⟨v, e2, h2⟩ := r.rs.get j d ej
      exact ⟨v, e2, kp h2⟩
  · by_cases hj : i = j
    · subst hj
      rw [List.getElem?_set_self hil] at ej
      cases ej
      exact ⟨p, eo, es, hc kpA⟩
    · rw [List.getElem?_set_ne hj] at ej
      obtain ⟨q, e2, e3, e4⟩ := r.ow j zs ej
      have : q ≠ p := fun z => hj (r.inj i j p eo (by rw [← z]; exact e2))
      exact ⟨q, e2, e3, e4.to kpA fun o e _ => by rw [upd_ne this]; exact e⟩
/-- x.append(e) -/
def ownAt (Γ : Env) (i : Nat) (Q : List D → Prop) : Prop := match Γ[i]? with
  | some (some (.own (.lst xs))) => Q xs
  | _ => False
theorem of_ownAt {i : Nat} {Q : List D → Prop} (h : ownAt Γ i Q) : ∃ xs, Γ[i]? = some (some (.own (.lst xs))) ∧ Q xs := by
  unfold ownAt at h
  split at h
  · exact ⟨_, by assumption, h⟩
  · exact h.elim
def sApp (i : Nat) (f : Rho → WD D) : FS := fun Γ k => ownAt Γ i fun xs => f (clean Γ) (fun d => xs.length < 1000000 ∧ k.nx (Γ.set i (some (.own (.lst (xs ++ [d])))))) k.ex
def sAppP (i : Nat) (f : Rho → WD D) : FS := fun Γ k => ownAt Γ i fun xs => f (full Γ) (fun d => pureD d = true ∧ xs.length < 1000000 ∧ k.nx (Γ.set i (some (.own (.lst (xs ++ [d])))))) k.ex
def sExt (i : Nat) (f : Rho → WD D) : FS := fun Γ k => ownAt Γ i fun xs => f (clean Γ) (fun d => match d with
  | .list ys => xs.length + ys.length ≤ 1000000 ∧ k.nx (Γ.set i (some (.own (.lst (xs ++ ys)))))
  | _ => False) k.ex
def sExtP (i : Nat) (f : Rho → WD D) : FS := fun Γ k => ownAt Γ i fun xs => f (full Γ) (fun d => match d with
  | .list ys => pureD.pureAll ys = true ∧ xs.length + ys.length ≤ 1000000 ∧ k.nx (Γ.set i (some (.own (.lst (xs ++ ys)))))
  | _ => False) k.ex
section
variable {apos cpos npos : Pos} {x : Str}
theorem ds_app (i : Nat) (h : DE O X E e f) (hN : X.N[i]? = some x := by rfl) (hv : Vis X.env.scope x := by first | exact Or.inl rfl | exact Or.inr (Or.inl rfl) | exact Or.inr (Or.inr rfl)) (hdd : (x == ("__debug__" : Str)) = false := by decide) (hcd : (x == ("__classdict__" : Str)) = false := by decide)
    (hse : starEach [e] X.env = (false, eval e X.env) :: starEach [] X.env := by rfl)
    (hbase : attributeBase (.Name x npos) "append" X.env (eval (.Name x npos) X.env) = eval (.Name x npos) X.env := by rfl)
    (hfew : ((backTo cpos (starEach [e] X.env)).all (fun x => !x.1) && (backToKw cpos (keywordEach [] X.env)).all (fun x => x.1.isSome) && decide ([e].length + ([] : List Keyword).length + (if ([] : List Keyword).isEmpty then 0 else 1) < 30)) = true := by rfl)
    (hline : (apos.endLine == cpos.line) = true := by rfl) (hs : swapsWith (.Call (.Attribute (.Name x npos) "append" apos) [e] [] cpos) none pos.line X.env = pure false := by rfl) :
    DS O X E (.Expr (.Call (.Attribute (.Name x npos) "append" apos) [e] [] cpos) pos) (sApp i f) := by
  obtain ⟨t, h1, h2⟩ := h
  have pA : PA X [e] (tCons t tNil) := pa_cons h1 pa_nil hse
  refine ⟨_, ps_expr (pe_bm PySem.F.plainAttrs_list PySem.F.slot_list_append PySem.F.type_list_append mt_append (pe_var hN hv hdd hcd) pA hbase hfew hline hse) hs, fun H0 P0 Γ σ H own k D hd r hf l => ?_⟩
  obtain ⟨xs, eg, hf⟩ := of_ownAt hf
  obtain ⟨p, eo, es, vs, ep, hv⟩ := r.ow i (.lst xs) eg
  refine ⟨.ref p, es, .inl ⟨rfl, vs, .inl (.inl ep)⟩, h2 _ _ σ H _ _ _ (r.dom hd) r.rs hf (fun v d H' s h q => ?_) (l.exH r)⟩
  exact ⟨p, vs, v, rfl, rfl, s.all _ _ ep no_lst, by rw [hv.length]; exact Nat.lt_trans q.1 (by decide), l.nx _ _ _ _ ((r.step s).grow (c' := .lst _) eg eo es (.inl ⟨_, rfl⟩) fun f => ⟨_, upd_same, f ((hv.same s).append (.cons h .nil))⟩) q.2⟩
theorem ds_appP (i : Nat) (h : DE O X E e f) (hN : X.N[i]? = some x := by rfl) (hv : Vis X.env.scope x := by first | exact Or.inl rfl | exact Or.inr (Or.inl rfl) | exact Or.inr (Or.inr rfl)) (hdd : (x == ("__debug__" : Str)) = false := by decide) (hcd : (x == ("__classdict__" : Str)) = false := by decide)
    (hse : starEach [e] X.env = (false, eval e X.env) :: starEach [] X.env := by rfl)
    (hbase : attributeBase (.Name x npos) "append" X.env (eval (.Name x npos) X.env) = eval (.Name x npos) X.env := by rfl)
    (hfew : ((backTo cpos (starEach [e] X.env)).all (fun x => !x.1) && (backToKw cpos (keywordEach [] X.env)).all (fun x => x.1.isSome) && decide ([e].length + ([] : List Keyword).length + (if ([] : List Keyword).isEmpty then 0 else 1) < 30)) = true := by rfl)
    (hline : (apos.endLine == cpos.line) = true := by rfl) (hs : swapsWith (.Call (.Attribute (.Name x npos) "append" apos) [e] [] cpos) none pos.line X.env = pure false := by rfl) :
    DS O X E (.Expr (.Call (.Attribute (.Name x npos) "append" apos) [e] [] cpos) pos) (sAppP i f) := by
  obtain ⟨t, h1, h2⟩ := h
  have pA : PA X [e] (tCons t tNil) := pa_cons h1 pa_nil hse
  refine ⟨_, ps_expr (pe_bm PySem.F.plainAttrs_list PySem.F.slot_list_append PySem.F.type_list_append mt_append (pe_var hN hv hdd hcd) pA hbase hfew hline hse) hs, fun H0 P0 Γ σ H own k D hd r hf l => ?_⟩
  obtain ⟨xs, eg, hf⟩ := of_ownAt hf
  obtain ⟨p, eo, es, vs, ep, hv⟩ := r.ow i (.lst xs) eg
  refine ⟨.ref p, es, .inl ⟨rfl, vs, .inl (.inl ep)⟩, h2 P0 _ σ H _ _ _ (hd.same r.same) (r.full hd) hf (fun v d H' s h q => ?_) (l.exH r)⟩
  exact ⟨p, vs, v, rfl, rfl, s.all _ _ ep no_lst, by rw [hv.length]; exact Nat.lt_trans q.2.1 (by decide), l.nx _ _ _ _ ((r.step s).grow (c' := .lst _) eg eo es (.inl ⟨_, rfl⟩) fun f => ⟨_, upd_same, f ((hv.same s).append (.cons (h.pure q.1) .nil))⟩) q.2.2⟩
theorem ds_ext (i : Nat) (h : DE O X E e f) (hN : X.N[i]? = some x := by rfl) (hv : Vis X.env.scope x := by first | exact Or.inl rfl | exact Or.inr (Or.inl rfl) | exact Or.inr (Or.inr rfl)) (hdd : (x == ("__debug__" : Str)) = false := by decide) (hcd : (x == ("__classdict__" : Str)) = false := by decide)
    (hse : starEach [e] X.env = (false, eval e X.env) :: starEach [] X.env := by rfl)
    (hbase : attributeBase (.Name x npos) "extend" X.env (eval (.Name x npos) X.env) = eval (.Name x npos) X.env := by rfl)
    (hfew : ((backTo cpos (starEach [e] X.env)).all (fun x => !x.1) && (backToKw cpos (keywordEach [] X.env)).all (fun x => x.1.isSome) && decide ([e].length + ([] : List Keyword).length + (if ([] : List Keyword).isEmpty then 0 else 1) < 30)) = true := by rfl)
    (hline : (apos.endLine == cpos.line) = true := by rfl) (hs : swapsWith (.Call (.Attribute (.Name x npos) "extend" apos) [e] [] cpos) none pos.line X.env = pure false := by rfl) :
    DS O X E (.Expr (.Call (.Attribute (.Name x npos) "extend" apos) [e] [] cpos) pos) (sExt i f) := by
  obtain ⟨t, h1, h2⟩ := h
  have pA : PA X [e] (tCons t tNil) := pa_cons h1 pa_nil hse
  refine ⟨_, ps_expr (pe_bm PySem.F.plainAttrs_list PySem.F.slot_list_extend PySem.F.type_list_extend mt_extend (pe_var hN hv hdd hcd) pA hbase hfew hline hse) hs, fun H0 P0 Γ σ H own k D hd r hf l => ?_⟩
  obtain ⟨xs, eg, hf⟩ := of_ownAt hf
  obtain ⟨p, eo, es, vs, ep, hv⟩ := r.ow i (.lst xs) eg
  refine ⟨.ref p, es, .inl ⟨rfl, vs, .inl (.inl ep)⟩, h2 _ _ σ H _ _ _ (r.dom hd) r.rs hf (fun v d H' s h q => ?_) (l.exH r)⟩
  cases h with
  | lst e1 n1 r1 =>
    rename_i b ws ys
    refine ⟨p, _, vs, _, rfl, rfl, s.all _ _ ep no_lst, e1, ?_, l.nx _ _ _ _ ((r.step s).grow (c' := .lst _) eg eo es (.inl ⟨_, rfl⟩) fun f => ⟨_, upd_same, f ((hv.same s).append r1)⟩) q.2⟩
    rw [hv.length, r1.length]
    exact Nat.le_trans q.1 (by decide)
  | _ => exact q.elim
theorem ds_extP (i : Nat) (h : DE O X E e f) (hN : X.N[i]? = some x := by rfl) (hv : Vis X.env.scope x := by first | exact Or.inl rfl | exact Or.inr (Or.inl rfl) | exact Or.inr (Or.inr rfl)) (hdd : (x == ("__debug__" : Str)) = false := by decide) (hcd : (x == ("__classdict__" : Str)) = false := by decide)
    (hse : starEach [e] X.env = (false, eval e X.env) :: starEach [] X.env := by rfl)
    (hbase : attributeBase (.Name x npos) "extend" X.env (eval (.Name x npos) X.env) = eval (.Name x npos) X.env := by rfl)
    (hfew : ((backTo cpos (starEach [e] X.env)).all (fun x => !x.1) && (backToKw cpos (keywordEach [] X.env)).all (fun x => x.1.isSome) && decide ([e].length + ([] : List Keyword).length + (if ([] : List Keyword).isEmpty then 0 else 1) < 30)) = true := by rfl)
    (hline : (apos.endLine == cpos.line) = true := by rfl) (hs : swapsWith (.Call (.Attribute (.Name x npos) "extend" apos) [e] [] cpos) none pos.line X.env = pure false := by rfl) :
    DS O X E (.Expr (.Call (.Attribute (.Name x npos) "extend" apos) [e] [] cpos) pos) (sExtP i f) := by
  obtain ⟨t, h1, h2⟩ := h
  have pA : PA X [e] (tCons t tNil) := pa_cons h1 pa_nil hse
  refine ⟨_, ps_expr (pe_bm PySem.F.plainAttrs_list PySem.F.slot_list_extend PySem.F.type_list_extend mt_extend (pe_var hN hv hdd hcd) pA hbase hfew hline hse) hs, fun H0 P0 Γ σ H own k D hd r hf l => ?_⟩
  obtain ⟨xs, eg, hf⟩ := of_ownAt hf
  obtain ⟨p, eo, es, vs, ep, hv⟩ := r.ow i (.lst xs) eg
  refine ⟨.ref p, es, .inl ⟨rfl, vs, .inl (.inl ep)⟩, h2 P0 _ σ H _ _ _ (hd.same r.same) (r.full hd) hf (fun v d H' s h q => ?_) (l.exH r)⟩
  cases h with
  | lst e1 n1 r1 =>
    rename_i b ws ys
    refine ⟨p, _, vs, _, rfl, rfl, s.all _ _ ep no_lst, e1, ?_, l.nx _ _ _ _ ((r.step s).grow (c' := .lst _) eg eo es (.inl ⟨_, rfl⟩) fun f => ⟨_, upd_same, f ((hv.same s).append (r1.pure q.1))⟩) q.2.2⟩
    rw [hv.length, r1.length]
    exact Nat.le_trans q.2.1 (by decide)
  | _ => exact q.elim
end
/-- a list of one's own is one's own no longer -/
def frz (i : Nat) (Γ : Env) : Env := Γ.modify i fun o => match o with
  | some (.own c) => some (.val (dataOf c))
  | o => o
def sFrz (i : Nat) (F : FS) : FS := fun Γ k => F (frz i Γ) k
def ownDel (own : Nat → Option Addr) (i : Nat) : Nat → Option Addr := fun j => if j = i then none else own j
theorem ownDel_self (own : Nat → Option Addr) (i : Nat) : ownDel own i i = none := if_pos rfl
theorem ownDel_ne {own : Nat → Option Addr} {i j : Nat} (h : j ≠ i) : ownDel own i j = own j := if_neg h
theorem Rg.frz (r : Rg O K H0 P0 Γ σ H own) (hd : Dom H0 P0) (i : Nat) : Rg O K H0 P0 (DL.frz i Γ) σ H (ownDel own i) := by
  have sub : ∀ a, Pw P0 (ownDel own i) a → Pw P0 own a := fun a z => by
    rcases z with z | ⟨j, z⟩
    · exact .inl z
    · by_cases hj : j = i
      · subst hj
        rw [ownDel_self] at z
        cases z
      · rw [ownDel_ne hj] at z
        exact .inr ⟨j, z⟩
  have ge : ∀ j, (DL.frz i Γ)[j]? = if i = j then (Γ[j]?).map (fun o => match o with | some (.own c) => some (.val (dataOf c)) | o => o) else Γ[j]? := fun j => by
    unfold DL.frz
    rw [List.getElem?_modify]
    by_cases hj : i = j
    · simp only [hj, if_true]
      rfl
    · simp [hj]
  refine ⟨r.same, fun j k a e1 e2 => ?_, fun j a e1 => ?_, ⟨by rw [r.rs.len]; simp [clean, DL.frz], fun j d e1 => ?_⟩, fun j ys e1 => ?_⟩
  · by_cases hj : j = i
    · subst hj
      rw [ownDel_self] at e1
      cases e1
    · rw [ownDel_ne hj] at e1
      by_cases hk : k = i
      · subst hk
        rw [ownDel_self] at e2
        cases e2
      · rw [ownDel_ne hk] at e2
        exact r.inj j k a e1 e2
  · by_cases hj : j = i
    · subst hj
      rw [ownDel_self] at e1
      cases e1
    · rw [ownDel_ne hj] at e1
      exact r.fresh j a e1
  · unfold clean at e1
    rw [List.getElem?_map, ge] at e1
    by_cases hj : i = j
    · subst hj
      rw [if_pos rfl] at e1
      cases q : Γ[i]? with
      | none =>
        rw [q] at e1
        cases e1
      | some o =>
        rw [q] at e1
        cases o with
        | none => cases e1
        | some t =>
          cases t with
          | val d' =>
            obtain ⟨v, e2, h2⟩ := r.rs.get i d (by unfold clean; rw [List.getElem?_map, q]; exact e1)
            exact ⟨v, e2, h2.less sub⟩
          | own c =>
            cases e1
            obtain ⟨p, eo, es, hv⟩ := r.ow i c q
            refine ⟨.ref p, es, (hv.less sub).dv fun z => ?_⟩
            rcases z with z | ⟨j, z⟩
            · obtain ⟨o, eo', m⟩ := hd.has p z
              exact no_mb m ((r.fresh i p eo).1 _ eo')
            · by_cases hj : j = i
              · subst hj
                rw [ownDel_self] at z
                cases z
              · rw [ownDel_ne hj] at z
                exact hj (r.inj j i p z eo)
    · rw [if_neg hj] at e1
      obtain ⟨v, e2, h2⟩ := r.rs.get j d (by unfold clean; rw [List.getElem?_map]; exact e1)
      exact ⟨v, e2, h2.less sub⟩
  · rw [ge] at e1
    by_cases hj : i = j
    · subst hj
      rw [if_pos rfl] at e1
      cases q : Γ[i]? with
      | none =>
        rw [q] at e1
        cases e1
      | some o =>
        rw [q] at e1
        cases o with
        | none => cases e1
        | some t => cases t <;> cases e1
    · rw [if_neg hj] at e1
      obtain ⟨p, eo, es, hv⟩ := r.ow j ys e1
      exact ⟨p, by rw [ownDel_ne (fun z => hj z.symm)]; exact eo, es, hv.less sub⟩
theorem dss_frz (i : Nat) {sts : List Stmt} (h : DSs O X E sts F) : DSs O X E sts (sFrz i F) := by
  obtain ⟨t, h1, h2⟩ := h
  exact ⟨t, h1, fun H0 P0 Γ σ H own k D hd r hf l => h2 H0 P0 _ σ H _ k D hd (r.frz hd i) hf l⟩
/-! ### a def -/
def startE (n : Nat) (ds : List D) : Env := ds.map (fun d => some (.val d)) ++ List.replicate (n - ds.length) none
def fnD (n : Nat) (F : FS) : List D → WD D := fun ds Q Ed => F (startE n ds) { nx := fun _ => Q .none, rt := Q, ex := Ed }
def fn0 (n : Nat) (F : FS) : List D → WD D := fun ds Q E => F (startE n ds) { nx := fun _ => Q .none, rt := Q, ex := E }
theorem start_rg {N : List Str} {vs : List V} {ds : List D} {P : Addr → Prop} (h : DvAll O K H P vs ds) : Rg O K H P (startE N.length ds) (start N vs) H (fun _ => none) := by
  have hl := h.length
  refine ⟨Same.refl H, fun _ _ _ e => (nomatch e), fun _ _ e => (nomatch e), ⟨by simp [L2.start, startE, clean, hl], fun i d e => ?_⟩, fun i xs e => ?_⟩
  · unfold clean startE at e
    rw [List.getElem?_map] at e
    by_cases hi : i < ds.length
    · rw [List.getElem?_append_left (by simpa using hi), List.getElem?_map] at e
      cases q : ds[i]? with
      | none =>
        rw [q] at e
        cases e
      | some d' =>
        rw [q] at e
        cases e
        obtain ⟨v, e1, h1⟩ := h.get q
        refine ⟨v, ?_, h1.less fun a z => ?_⟩
        · unfold L2.start
          rw [List.getElem?_append_left (by simpa [hl] using hi), List.getElem?_map, e1]
          rfl
        · rcases z with z | ⟨_, z⟩
          · exact z
          · cases z
    · rw [List.getElem?_append_right (by simpa using hi), List.getElem?_replicate] at e
      split at e <;> cases e
  · unfold startE at e
    by_cases hi : i < ds.length
    · rw [List.getElem?_append_left (by simpa using hi), List.getElem?_map] at e
      cases q : ds[i]? with
      | none =>
        rw [q] at e
        cases e
      | some d' =>
        rw [q] at e
        cases e
    · rw [List.getElem?_append_right (by simpa using hi), List.getElem?_replicate] at e
      split at e <;> cases e
end
end DL

namespace DL
open PySem PySem.Spec L2
/-- the air of a context: what is raised in it is wished for by E -/
structure Air (X : Cx) (E : XK) : Prop where
  pass : Passes (L2.CX X.prog X.w) X E
  own : PassesOwn (model X.prog X.w) X.A X.env X.xe
  takes : Takes X (fun cls d _ H => E cls d H)
theorem Air.nox {X : Cx} : Air X.nox E0 := ⟨passL, PassesOwn.never, takes0⟩
theorem air_cx {P : Program} {w : World} {K : PySem.W.Frag} {mg : Str → Option Value} {base : Heap} {N : List Str} {x : Str} {sc : Scope} {f : Addr} {cdv : Value} {A : Around} {outer : List PySem.Env} {s : Shared} {H : Hp} {E : XK} : Air (cxOf (L2.CX P w) P w K mg base N x sc f cdv A outer s H E) E := by
  have tk : Takes (cxOf (L2.CX P w) P w K mg base N x sc f cdv A outer s H E) (fun cls d _ H => E cls d H) := takes_of (E := E) rfl rfl rfl rfl
  exact ⟨passes_call tk fun _ _ _ _ h => h, passes_of (K := fun e s'' => L2.CX P w outer H s E e s'') rfl, tk⟩
/-- a def of the program, called by its name -/
structure Cal [Nm] (O : Ob) (P : Program) (w : World) (K : PySem.W.Frag) (mg : Str → Option Value) (base : Heap) (x : Str) (k : Nat) (ps : List Str) (F : List D → WD D) : Prop where
  ex : ∃ (f : Addr) (fd : FuncData), mg x = some (.ref f) ∧ PySem.W.keepIn K (.ref f) = true ∧ Binds K fd ps [] ∧ FnOk P w K mg base (L2.CX P w) k f fd ps (spD O K mg F ps.length) ∧ ∃ oc od osl, K.lookup f = some ⟨oc, od, .func fd, osl⟩
theorem fun_lk {K : PySem.W.Frag} {x q : Str} {params : Arguments} {body : List Stmt} {scope : Scope} {dvs : List V} {kws : List (Str × V)} {f : Addr} {fd : FuncData} (F : FunD K x q params body scope dvs kws f fd) : ∃ oc od osl, K.lookup f = some ⟨oc, od, .func fd, osl⟩ := by
  obtain ⟨oc, od, dV, kV, doc, pm, an, cdv, ct, osl, e, lk, _⟩ := F.ex
  exact ⟨oc, od, osl, lk⟩
abbrev FnT (K : PySem.W.Frag) (mg : Str → Option Value) (x : Str) (st : Stmt) : Prop := ∃ (f : Addr) (fd : FuncData), mg x = some (.ref f) ∧ FunD K x x (defArgs st) (defBody st) (defScope st) [] [] f fd
def Bn (x : Str) (st : Stmt) (ps : List Str) : Prop := ∀ (kV doc pm : Value) (an : Option Addr) (cdv ct : Value) (us : List Value), us.length = ps.length → bindArgs (PySem.W.fnOf x x (defArgs st) (defBody st) (defScope st) .none kV doc pm an cdv ct) ⟨us, []⟩ = pure (ps.zip us)
section
variable [Nm] {O : Ob} {P : Program} {w : World} {K : PySem.W.Frag} {mg : Str → Option Value} {base : Heap} {X : Cx} {E : XK}
theorem cal_of {x : Str} {st : Stmt} {N ps : List Str} {k : Nat} {F : FS} (h : FnT K mg x st) (S : FnScope N ps (defScope st)) (hb : Bn x st ps)
    (hbody : ∀ (f : Addr) (cdv : Value) (A : Around) (outer : List PySem.Env) (s : Shared) (H : Hp) (E : XK), Room k (A.deeper (PyProof.Rows.envOfC x (defScope st) s.heap.objs.size f cdv)) → Air (cxOf (L2.CX P w) P w K mg base N x (defScope st) f cdv A outer s H E) E → DSs O (cxOf (L2.CX P w) P w K mg base N x (defScope st) f cdv A outer s H E) E (defBody st) F) :
    Cal O P w K mg base x (k + 1) ps (fn0 N.length F) := by
  obtain ⟨f, fd, hm, hF⟩ := h
  refine ⟨f, fd, hm, hF.kp, hF.bindsN hb, ?_, fun_lk hF⟩
  refine hF.ok S (fun vs H Q E h => ?_) (fun cdv A outer s H vs Q E hr h => ?_)
  · obtain ⟨P, ds, Qd, Ed, _, h1, h2, _⟩ := h
    rw [h1.length, h2]
  · obtain ⟨P', ds, Qd, Ed, hd, h1, h2, hf, hQ, hE⟩ := h
    obtain ⟨t, t1, t2⟩ := hbody f cdv A outer s H E hr air_cx
    exact ⟨t, t1, t2 H P' _ _ H _ { nx := fun _ => Qd .none, rt := Qd, ex := Ed } _ hd (start_rg h1) hf ⟨fun Γ σ H' own r q => hQ _ _ H' r.same .non q, fun v d H' s h q => hQ v d H' s h q, fun _ _ _ _ _ q => q.elim, fun _ _ _ _ _ q => q.elim, hE⟩⟩
theorem Cal.mono {x : Str} {j k : Nat} {ps : List Str} {F : List D → WD D} (h : Cal O P w K mg base x j ps F) (hj : j ≤ k) : Cal O P w K mg base x k ps F := by
  obtain ⟨f, fd, a, b, c, d, l⟩ := h
  exact ⟨f, fd, a, b, c, d.mono hj, l⟩
/-- the table of a def in which lambdas stand -/
def TabF (K : PySem.W.Frag) (mg : Str → Option Value) (base : Heap) (x : Str) : Prop := ∀ (f : Addr) (oc : Value) (od : Option Addr) (fd : FuncData) (osl : Array (Option Value)), mg x = some (.ref f) → K.lookup f = some ⟨oc, od, .func fd, osl⟩ → ∃ c Q, fd.code = .ref c ∧ LamX.TabB base mg c Q ∧ (Q, x ++ ".<locals>." ++ "<lambda>") ∈ Nm.tabs
def TabC (mg : Str → Option Value) (base : Heap) (x : Str) (cdv : Value) : Prop := ∃ c Q, cdv = .ref c ∧ LamX.TabB base mg c Q ∧ (Q, x ++ ".<locals>." ++ "<lambda>") ∈ Nm.tabs
theorem okC {x qual : Str} {params : Arguments} {body : List Stmt} {scope : Scope} {dvs : List V} {kws : List (Str × V)} {f : Addr} {fd : FuncData} {CX : CXT} {N ps : List Str} {k : Nat} {sp : Sp} (F : FunD K x qual params body scope dvs kws f fd) (S : FnScope N ps scope) (len : ∀ vs H Q E, sp vs H Q E → vs.length = ps.length)
    (hbody : ∀ (oc : Value) (od : Option Addr) (osl : Array (Option Value)) (cdv : Value) (A : Around) (outer : List PySem.Env) (s : Shared) (H : Hp) (vs : List V) (Q : VK) (E : XK), K.lookup f = some ⟨oc, od, .func fd, osl⟩ → fd.code = cdv → Room k (A.deeper (PyProof.Rows.envOfC qual scope s.heap.objs.size f cdv)) → sp vs H Q E →
      ∃ t, PSs (cxOf CX P w K mg base N qual scope f cdv A outer s H E) body t ∧ t { nx := fun _ H' => Q .non H', rt := Q } (L2.start N vs) H) : FnOk P w K mg base CX (k + 1) f fd ps sp := by
  obtain ⟨oc, od, dV, kV, doc, pm, an, cdv, ct, osl, rfl, lk, hcd, _, _⟩ := F.ex
  exact fn_of lk hcd S len fun A outer s H vs Q E hr hsp => hbody oc od osl cdv A outer s H vs Q E lk rfl hr hsp
theorem cal_ofT {x : Str} {st : Stmt} {N ps : List Str} {k : Nat} {F : FS} (tb : TabF K mg base x) (h : FnT K mg x st) (S : FnScope N ps (defScope st)) (hb : Bn x st ps)
    (hbody : ∀ (f : Addr) (cdv : Value) (A : Around) (outer : List PySem.Env) (s : Shared) (H : Hp) (E : XK), Room k (A.deeper (PyProof.Rows.envOfC x (defScope st) s.heap.objs.size f cdv)) → TabC mg base x cdv → Air (cxOf (L2.CX P w) P w K mg base N x (defScope st) f cdv A outer s H E) E → DSs O (cxOf (L2.CX P w) P w K mg base N x (defScope st) f cdv A outer s H E) E (defBody st) F) :
    Cal O P w K mg base x (k + 1) ps (fn0 N.length F) := by
  obtain ⟨f, fd, hm, hF⟩ := h
  refine ⟨f, fd, hm, hF.kp, hF.bindsN hb, ?_, fun_lk hF⟩
  refine okC hF S (fun vs H Q E h => ?_) (fun oc od osl cdv A outer s H vs Q E lk ec hr h => ?_)
  · obtain ⟨P, ds, Qd, Ed, _, h1, h2, _⟩ := h
    rw [h1.length, h2]
  · obtain ⟨P', ds, Qd, Ed, hd, h1, h2, hf, hQ, hE⟩ := h
    obtain ⟨c, Q1, e1, tB, m1⟩ := tb f oc od fd osl hm lk
    obtain ⟨t, t1, t2⟩ := hbody f cdv A outer s H E hr ⟨c, Q1, ec.symm.trans e1, tB, m1⟩ air_cx
    exact ⟨t, t1, t2 H P' _ _ H _ { nx := fun _ => Qd .none, rt := Qd, ex := Ed } _ hd (start_rg h1) hf ⟨fun Γ σ H' own r q => hQ _ _ H' r.same .non q, fun v d H' s h q => hQ v d H' s h q, fun _ _ _ _ _ q => q.elim, fun _ _ _ _ _ q => q.elim, hE⟩⟩
/-- a call by name -/
theorem de_fn {x : Str} {k : Nat} {ps : List Str} {F : List D → WD D} {e : Expr} {es : List Expr} {fa : Rho → WD (List D)} {p pos : Pos} (C : Cal O X.prog X.w X.K X.mg X.base x k ps F) {j : Nat} (hr : Room j X.A) (hx : Passes (L2.CX X.prog X.w) X E) (ha : DA O X E (e :: es) fa) (hk : k ≤ j := by decide) (hg : Gl X x := by rfl) (hl : ps.length = (e :: es).length := by rfl)
    (hdb : (x == ("__debug__" : Str)) = false := by decide) (he : starEach (e :: es) X.env = (false, eval e X.env) :: starEach es X.env := by rfl) (hpl : (backTo pos (starEach es X.env)).any (·.1) = false := by rfl) :
    DE O X E (.Call (.Name x p) (e :: es) [] pos) (eCb F fa) := by
  obtain ⟨f, fd, a, b, c, d, _⟩ := C
  exact de_call d (hr.mono hk) hg a b c hx ha hl hdb he hpl
/-- f() -/
theorem de_fn0 {x : Str} {k : Nat} {F : List D → WD D} {p pos : Pos} (C : Cal O X.prog X.w X.K X.mg X.base x k [] F) {j : Nat} (hr : Room j X.A) (hx : Passes (L2.CX X.prog X.w) X E) (hk : k ≤ j := by decide) (hg : Gl X x := by rfl) (hdb : (x == ("__debug__" : Str)) = false := by decide) :
    DE O X E (.Call (.Name x p) [] [] pos) (fun _ Q Ed => F [] Q Ed) := by
  obtain ⟨f, fd, a, b, c, d, _⟩ := C
  refine ⟨_, pe_call0 d (hr.mono hk) hg a b c (.nil : Vals [] []) hx hdb, fun P ρ σ H Qd Ed Q hd hr hf hQ hE => ?_⟩
  exact ⟨P, [], Qd, Ed, hd, .nil, rfl, hf, hQ, fun c a H' s m z => hE c a H' s m z⟩
theorem u65 {k : Nat} {A : Around} (r : Room k A) : A.units + 65 < cLine := by
  have := r.un
  omega
theorem dt_chain {a b c : Expr} {fa fb fc : Rho → WD D} {pos : Pos} {op op' : CmpOp} {r r' : R2} {g g' : D → D → WD D} (ho : OpR X (compareOp op) r) (ho' : OpR X (compareOp op') r') (hg : OpD O X r g) (hg' : OpD O X r' g') (ha : DE O X E a fa) (hb : DE O X E b fb) (hc : DE O X E c fc)
    (hm : lastMarks [op, op'] [b, c] = false := by with_unfolding_all rfl) : DT O X E (.Compare a [op, op'] [b, c] pos) (tB1 (eChain g g' fa fb fc)) := by
  obtain ⟨ta, a1, a2⟩ := ha
  obtain ⟨tb, b1, b2⟩ := hb
  obtain ⟨tc, c1, c2⟩ := hc
  refine ⟨_, pt_chain ho ho' a1 b1 c1 hm, fun P ρ σ H Qd Ed Q hd hr hf hQ hE => a2 P ρ σ H _ Ed _ hd hr hf (fun x d H1 s1 h1 q1 => b2 P ρ σ H1 _ Ed _ (hd.same s1) (hr.same s1) q1 (fun y e H2 s2 h2 q2 =>
    hg P H2 x y d e _ Ed _ ((hd.same s1).same s2) (h1.same s2) h2 q2 fun z k H3 s3 h3 q3 => ?_) (hE.same s1)) hE⟩
  obtain ⟨k, e, q⟩ := bool_of h3 q3
  refine ⟨k, e, ?_⟩
  cases k with
  | true => exact c2 P ρ σ H3 _ Ed _ (((hd.same s1).same s2).same s3) (((hr.same s1).same s2).same s3) q (fun w d' H4 s4 h4 q4 => hg' P H4 y w _ d' _ Ed _ ((((hd.same s1).same s2).same s3).same s4) ((h2.same s3).same s4) h4 q4
      fun v d'' H5 s5 h5 q5 => by
        obtain ⟨b, eb, qb⟩ := bool_of h5 q5
        exact ⟨b, eb, hQ b H5 ((((s1.trans s2).trans s3).trans s4).trans s5) qb⟩) (((hE.same s1).same s2).same s3)
  | false => exact ⟨false, rfl, hQ _ H3 ((s1.trans s2).trans s3) q⟩
/-- a constant: a tuple of words or numbers -/
theorem dv_words {H : Hp} {Pr : Addr → Prop} {ws : List Str} (h : ∀ w ∈ ws, PyData.strOk w = true) : DvAll O K H Pr (ws.map V.str) (ws.map PyData.str) := by
  induction ws with
  | nil => exact .nil
  | cons x r ih => exact .cons (.str x (h x List.mem_cons_self)) (ih fun w hw => h w (List.mem_cons_of_mem _ hw))
end
end DL

namespace DL
open PySem PySem.Spec L2
/-! ### dicts with texts and whole numbers as keys -/
def keyOf : D → Option Key
  | .int i => some (.inl i)
  | .str x => some (.inr x)
  | _ => none
theorem keyOf_kD (k : Key) : keyOf (kD k) = some k := by cases k <;> rfl
def lookG {β : Type} (l : List (Key × β)) (k : Key) : Option β := (l.find? fun kv => decide (kv.1 = k)).map (·.2)
def putG {β : Type} (l : List (Key × β)) (k : Key) (v : β) : List (Key × β) := if (l.any fun kv => decide (kv.1 = k)) = true then l.map (fun kv => if kv.1 = k then (kv.1, v) else kv) else l ++ [(k, v)]
def mergeG {β : Type} (l more : List (Key × β)) : List (Key × β) := more.foldl (fun acc kv => putG acc kv.1 kv.2) l
theorem putG_V (l : List (Key × V)) (k : Key) (v : V) : putG l k v = putK l k v := rfl
theorem mergeG_V (l more : List (Key × V)) : mergeG l more = mergeK l more := rfl
section
variable [Nm] {O : Ob} {X : Cx} {E : XK} {K : PySem.W.Frag} {H H' : Hp} {P : Addr → Prop}
/-- the same keys, values for data -/
inductive Kds (O : Ob) (K : PySem.W.Frag) (H : Hp) (P : Addr → Prop) : List (Key × V) → List (Key × D) → Prop
  | nil : Kds O K H P [] []
  | cons {k : Key} {v : V} {d : D} {a : List (Key × V)} {b : List (Key × D)} : Dv O K H P v d → Kds O K H P a b → Kds O K H P ((k, v) :: a) ((k, d) :: b)
theorem Kds.of : ∀ {a : List (Key × V)} {b : List (Key × D)}, a.map (·.1) = b.map (·.1) → DvAll O K H P (a.map (·.2)) (b.map (·.2)) → Kds O K H P a b
  | [], [], _, _ => .nil
  | [], _ :: _, e, _ => by cases e
  | _ :: _, [], e, _ => by cases e
  | (k, v) :: a, (k', d) :: b, e, h => by
    injection e with e1 e2
    cases e1
    cases h with
    | cons h1 h2 => exact .cons h1 (Kds.of e2 h2)
theorem Kds.to : ∀ {a : List (Key × V)} {b : List (Key × D)}, Kds O K H P a b → a.map (·.1) = b.map (·.1) ∧ DvAll O K H P (a.map (·.2)) (b.map (·.2))
  | _, _, .nil => ⟨rfl, .nil⟩
  | _, _, .cons h r => ⟨by simp [r.to.1], .cons h r.to.2⟩
theorem Kds.mapD {P' : Addr → Prop} (f : ∀ {v d}, Dv O K H P v d → Dv O K H' P' v d) : ∀ {a : List (Key × V)} {b : List (Key × D)}, Kds O K H P a b → Kds O K H' P' a b
  | _, _, .nil => .nil
  | _, _, .cons h r => .cons (f h) (r.mapD f)
theorem Kds.same {a : List (Key × V)} {b : List (Key × D)} (h : Kds O K H P a b) (s : Same H H') : Kds O K H' P a b := h.mapD fun r => r.same s
theorem Kds.length : ∀ {a : List (Key × V)} {b : List (Key × D)}, Kds O K H P a b → a.length = b.length
  | _, _, .nil => rfl
  | _, _, .cons _ r => congrArg (· + 1) r.length
theorem Kds.look {k : Key} : ∀ {a : List (Key × V)} {b : List (Key × D)} {d : D}, Kds O K H P a b → lookG b k = some d → ∃ v, valV a k = some v ∧ Dv O K H P v d
  | _, _, _, .nil, e => by cases e
  | (j, v) :: a, (_, d') :: b, d, .cons h r, e => by
    by_cases q : j = k
    · subst q
      have e1 : lookG ((j, d') :: b) j = some d' := by simp [lookG, List.find?_cons]
      rw [e1] at e
      cases e
      exact ⟨v, valV_pos rfl, h⟩
    · have e1 : lookG ((j, d') :: b) k = lookG b k := by simp [lookG, List.find?_cons, q]
      rw [e1] at e
      obtain ⟨w, e2, h2⟩ := r.look e
      exact ⟨w, by rw [valV_neg (p := (j, v)) q]; exact e2, h2⟩
theorem Kds.none {k : Key} : ∀ {a : List (Key × V)} {b : List (Key × D)}, Kds O K H P a b → lookG b k = none → valV a k = none
  | _, _, .nil, _ => rfl
  | (j, v) :: a, (_, d') :: b, .cons h r, e => by
    by_cases q : j = k
    · subst q
      simp [lookG, List.find?_cons] at e
    · have e1 : lookG ((j, d') :: b) k = lookG b k := by simp [lookG, List.find?_cons, q]
      rw [e1] at e
      rw [valV_neg (p := (j, v)) q]
      exact r.none e
theorem Kds.any {k : Key} : ∀ {a : List (Key × V)} {b : List (Key × D)}, Kds O K H P a b → (a.any fun kv => decide (kv.1 = k)) = (b.any fun kv => decide (kv.1 = k))
  | _, _, .nil => rfl
  | _, _, .cons _ r => by rw [List.any_cons, List.any_cons, r.any]
theorem Kds.mapPut {k : Key} {w : V} {e : D} (hw : Dv O K H P w e) : ∀ {a : List (Key × V)} {b : List (Key × D)}, Kds O K H P a b → Kds O K H P (a.map fun kv => if kv.1 = k then (kv.1, w) else kv) (b.map fun kv => if kv.1 = k then (kv.1, e) else kv)
  | _, _, .nil => .nil
  | (j, v) :: a, (_, d) :: b, .cons h r => by
    rw [List.map_cons, List.map_cons]
    by_cases q : j = k
    · rw [if_pos q, if_pos q]
      exact .cons hw (r.mapPut hw)
    · rw [if_neg q, if_neg q]
      exact .cons h (r.mapPut hw)
theorem Kds.append : ∀ {a a' : List (Key × V)} {b b' : List (Key × D)}, Kds O K H P a b → Kds O K H P a' b' → Kds O K H P (a ++ a') (b ++ b')
  | _, _, _, _, .nil, h => h
  | _, _, _, _, .cons h r, k => .cons h (r.append k)
theorem Kds.put {k : Key} {w : V} {e : D} {a : List (Key × V)} {b : List (Key × D)} (h : Kds O K H P a b) (hw : Dv O K H P w e) : Kds O K H P (putG a k w) (putG b k e) := by
  unfold putG
  rw [h.any]
  split
  · exact h.mapPut hw
  · exact h.append (.cons hw .nil)
theorem Kds.merge : ∀ {m : List (Key × V)} {n : List (Key × D)} {a : List (Key × V)} {b : List (Key × D)}, Kds O K H P m n → Kds O K H P a b → Kds O K H P (mergeG a m) (mergeG b n)
  | _, _, _, _, .nil, h => h
  | (k, v) :: m, (_, d) :: n, a, b, .cons h r, q => by
    have := Kds.merge (a := putG a k v) (b := putG b k d) r (q.put h)
    exact this
/-- d[k] -/
def dlook (l : List (D × D)) (k : Key) : Option D := (l.find? fun p => decide (keyOf p.1 = some k)).map (·.2)
theorem dlook_E (ds : List (Key × D)) (k : Key) : dlook (ds.map fun p => (kD p.1, p.2)) k = lookG ds k := by
  induction ds with
  | nil => rfl
  | cons p r ih =>
    unfold dlook lookG at *
    rw [List.map_cons, List.find?_cons, List.find?_cons]
    simp only [keyOf_kD, Option.some.injEq]
    by_cases q : p.1 = k
    · simp [q]
    · simp only [q, decide_false]
      exact ih
theorem dlook_Z (ds : List (Key × D)) (k : Key) : dlook ((.bool true, .none) :: ds.map fun p => (kD p.1, p.2)) k = lookG ds k := by
  rw [← dlook_E]
  unfold dlook
  rw [List.find?_cons_of_neg (by simp [keyOf])]
def dgetD : D → D → WD D
  | .dict l, k => fun Q _ => orStuck (keyOf k) fun k => orStuck (dlook l k) Q
  | _, _ => fun _ _ => False
theorem keyOf_ok {v : V} {d : D} {k : Key} (h : Dv O K H P v d) (e : keyOf d = some k) : v = kV k := by
  cases h with
  | int i => cases e; rfl
  | str x _ => cases e; rfl
  | dct => simp [dictE, keyOf] at e
  | dcz => simp [dictZ, keyOf] at e
  | _ => cases e
/-- no object of one's own stands for data with keys -/
structure NoObj (O : Ob) : Prop where
  no : ∀ {K H v ds}, O.ro K H v ds → ∀ p ∈ ds, keyOf p.1 = none
  nz : ∀ {K H v ds}, ¬ O.ro K H v ((.bool true, .none) :: ds)
theorem no_look {l : List (D × D)} {k : Key} (h : ∀ p ∈ l, keyOf p.1 = none) : dlook l k = none := by
  unfold dlook
  rw [List.find?_eq_none.mpr fun p hp => by simp [h p hp]]
  rfl
theorem de_dget {a b : Expr} {fa fb : Rho → WD D} {pos : Pos} (hO : NoObj O) (hu : X.A.units + 65 < cLine) (ha : DE O X E a fa) (hb : DE O X E b fb) (hs : NoSl b) : DE O X E (.Subscript a b pos) (eOp dgetD fa fb) := by
  obtain ⟨ta, a1, a2⟩ := ha
  obtain ⟨tb, b1, b2⟩ := hb
  refine ⟨_, pe_dget (by omega) a1 b1 hs, fun P ρ σ H Qd Ed Q hd hr hf hQ hE => a2 P ρ σ H _ Ed _ hd hr hf (fun x d H1 s1 h1 q1 => b2 P ρ σ H1 _ Ed _ (hd.same s1) (hr.same s1) q1 (fun y e H2 s2 h2 q2 => ?_) (hE.same s1)) hE⟩
  have h1 := h1.same s2
  cases h1 with
  | dct e1 n1 k1 r1 =>
    obtain ⟨k, ek, q⟩ := of_orStuck q2
    obtain ⟨d, ed, q⟩ := of_orStuck q
    rw [dlook_E] at ed
    obtain ⟨v, ev, hv⟩ := (Kds.of k1 r1).look ed
    have := keyOf_ok h2 ek
    subst this
    exact ⟨_, v, rfl, .inl ⟨_, k, .inl e1, rfl, ev.symm⟩, hQ v d H2 (s1.trans s2) hv q⟩
  | dcz e1 k1 r1 =>
    obtain ⟨k, ek, q⟩ := of_orStuck q2
    obtain ⟨d, ed, q⟩ := of_orStuck q
    rw [dlook_Z] at ed
    obtain ⟨v, ev, hv⟩ := (Kds.of k1 r1).look ed
    have := keyOf_ok h2 ek
    subst this
    exact ⟨_, v, rfl, .inl ⟨_, k, .inr ⟨_, e1⟩, rfl, ev.symm⟩, hQ v d H2 (s1.trans s2) hv q⟩
  | obj h =>
    obtain ⟨k, ek, q⟩ := of_orStuck q2
    obtain ⟨d, ed, q⟩ := of_orStuck q
    rw [no_look (hO.no h)] at ed
    cases ed
  | _ => exact q2.elim
/-- {k: v, ..} -/
def DPs (O : Ob) (X : Cx) (E : XK) (pos : Pos) (ks : List (Option Expr)) (vs : List Expr) (f : Rho → WD (List (Key × D))) : Prop := ∃ t, PPs X pos ks vs t ∧ ∀ (P : Addr → Prop) (ρ : Rho) (σ : L2.St) (H : Hp) (Qd : List (Key × D) → Prop) (Ed : Str → Prop) (Q : List (V × V) → Hp → Prop),
  Dom H P → Rs O X.K P ρ σ H → f ρ Qd Ed → (∀ l ds H', Same H H' → Kds O X.K H' P l ds → ds.length = vs.length → Qd ds → Q (l.map fun kv => (kV kv.1, kv.2)) H') → XOk X E H Ed → tPairs t σ H Q
def pNil : Rho → WD (List (Key × D)) := fun _ Q _ => Q []
def pCons (f g : Rho → WD D) (r : Rho → WD (List (Key × D))) : Rho → WD (List (Key × D)) := fun ρ Q Ed => f ρ (fun k => orStuck (keyOf k) fun k => g ρ (fun d => r ρ (fun ds => Q ((k, d) :: ds)) Ed) Ed) Ed
theorem dps_nil {pos : Pos} : DPs O X E pos [] [] pNil := ⟨_, pps_nil, fun P ρ σ H Qd Ed Q hd hr hf hQ hE => hQ [] [] H (Same.refl H) .nil rfl hf⟩
theorem dps_cons {pos : Pos} {k v : Expr} {ks : List (Option Expr)} {vs : List Expr} {f g : Rho → WD D} {r : Rho → WD (List (Key × D))} (hk : DE O X E k f) (hv : DE O X E v g) (hr : DPs O X E pos ks vs r) : DPs O X E pos (some k :: ks) (v :: vs) (pCons f g r) := by
  obtain ⟨tk, k1, k2⟩ := hk
  obtain ⟨tv, v1, v2⟩ := hv
  obtain ⟨t, t1, t2⟩ := hr
  refine ⟨_, pps_cons k1 v1 t1, fun P ρ σ H Qd Ed Q hd hr hf hQ hE => k2 P ρ σ H _ Ed _ hd hr hf (fun x d H1 s1 h1 q1 => ?_) hE⟩
  obtain ⟨kk, ek, q1⟩ := of_orStuck q1
  have := keyOf_ok h1 ek
  subst this
  refine v2 P ρ σ H1 _ Ed _ (hd.same s1) (hr.same s1) q1 (fun y e H2 s2 h2 q2 => t2 P ρ σ H2 _ Ed _ ((hd.same s1).same s2) ((hr.same s1).same s2) q2 (fun l ds H3 s3 h3 l3 q3 => ?_) ((hE.same s1).same s2)) (hE.same s1)
  exact hQ ((kk, y) :: l) _ H3 ((s1.trans s2).trans s3) (.cons (h2.same s3) h3) (congrArg (· + 1) l3) q3
/-- a new dict -/
def DD (O : Ob) (X : Cx) (E : XK) (e : Expr) (f : Rho → WD (List (Key × D))) : Prop := ∃ t, PE X e t ∧ ∀ (P : Addr → Prop) (ρ : Rho) (σ : L2.St) (H : Hp) (Qd : List (Key × D) → Prop) (Ed : Str → Prop) (Q : VK),
  Dom H P → Rs O X.K P ρ σ H → f ρ Qd Ed → (∀ p l ds H', Same H H' → Nn H p → H' p = some (.dK l) → Kds O X.K H' (fun a => P a ∨ a = p) l ds → Qd ds → Q (.ref p) H') → XOk X E H Ed → t σ H Q
def eOfD (f : Rho → WD (List (Key × D))) : Rho → WD D := fun ρ Q Ed => f ρ (fun ds => Q (dictE ds)) Ed
theorem DD.de {e : Expr} {f : Rho → WD (List (Key × D))} (h : DD O X E e f) : DE O X E e (eOfD f) := by
  obtain ⟨t, h1, h2⟩ := h
  exact ⟨t, h1, fun P ρ σ H Qd Ed Q hd hr hf hQ hE => h2 P ρ σ H _ Ed Q hd hr hf (fun p l ds H' s n e r q => hQ _ _ H' s (.dct e (hd.new n) r.to.1 ((r.mapD fun h => h.less fun _ z => .inl z).to.2)) q) hE⟩
def dDisp (f : Rho → WD (List (Key × D))) : Rho → WD (List (Key × D)) := fun ρ Q Ed => f ρ (fun ds => Q (mergeG [] ds)) Ed
theorem dd_disp {pos : Pos} {ks : List (Option Expr)} {vs : List Expr} {f : Rho → WD (List (Key × D))} (h : DPs O X E pos ks vs f) (hall : ks.all (·.isSome) = true := by rfl) (hl : ks.length = vs.length := by rfl) (h0 : ks ≠ [] := by exact fun z => nomatch z) (h15 : ks.length ≤ 15 := by decide) : DD O X E (.Dict ks vs pos) (dDisp f) := by
  obtain ⟨t, t1, t2⟩ := h
  refine ⟨_, pe_disp t1 hall hl h0 h15, fun P ρ σ H Qd Ed Q hd hr hf hQ hE => fun p np => ?_⟩
  have s0 : Same H (upd H p (.dK [])) := same_new np
  have hd0 : Dom (upd H p (.dK [])) (fun a => P a ∨ a = p) := ⟨fun a z => by
    rcases z with z | z
    · exact (hd.same s0).has a z
    · exact ⟨_, by rw [z]; exact upd_same, .inr ⟨_, rfl⟩⟩, (hd.same s0).tab⟩
  have hp : ∀ a, (P a ∨ a = p) → P a ∨ Nn H a := fun a z => z.imp id fun e => by rw [e]; exact nn np
  refine t2 (fun a => P a ∨ a = p) ρ σ _ _ Ed _ hd0 (hr.kf hp (.of s0) hd) hf (fun l ds H2 s2 h2 l2 q2 => ?_) (hE.same s0)
  have e2 : H2 p = some (.dK []) := s2.all _ _ upd_same no_dk
  refine ⟨e2, l, rfl, by rw [h2.length, l2, ← hl]; exact h15, ?_⟩
  have s02 : Same H (upd H2 p (.dK (mergeK [] l))) := (s0.trans s2).upd (nn np) e2 mb_dk
  refine hQ p _ (mergeG [] ds) _ s02 (nn np) upd_same ?_ q2
  have h3 := Kds.merge h2 (a := []) (b := []) .nil
  refine h3.mapD fun h => h.keep (fun a o e m _ => ?_) (fun a o e m n => ?_) fun _ _ _ _ q => q
  · have : a ≠ p := fun z => by
      subst z
      rw [e2] at e
      cases e
      exact m (.inr ⟨_, rfl⟩)
    rw [upd_ne this]
    exact e
  · have : a ≠ p := fun z => n (.inr z)
    rw [upd_ne this]
    exact e
def dNew : Rho → WD (List (Key × D)) := fun _ Q _ => Q []
theorem dd_new {pos : Pos} : DD O X E (.Dict [] [] pos) dNew := ⟨_, pe_dnewK, fun P ρ σ H Qd Ed Q hd hr hf hQ hE => fun p np => hQ p [] [] _ (same_new np) (nn np) upd_same .nil hf⟩
/-! ### a dict of one's own -/
variable {pos : Pos} {e : Expr}
def sSetD (i : Nat) (f : Rho → WD (List (Key × D))) : FS := fun Γ k => f (clean Γ) (fun ds => k.nx (Γ.set i (some (.own (.dct ds))))) k.ex
theorem ds_setD (i : Nat) {x : Str} {pos' : Pos} {f : Rho → WD (List (Key × D))} (hN : X.N.Nodup) (h : DD O X E e f) (hi : X.N[i]? = some x := by rfl) (hx : Loc X.env.scope x := by first | exact Or.inl rfl | exact Or.inr rfl) (hs : swapsWith e (some (.Name x pos')) pos.line X.env = pure false := by rfl)
    (hf : X.fn x = true ∨ X.env.scope.names.lookup x = some .local := by first | exact .inl rfl | exact .inr rfl | assumption) : DS O X E (.Assign [.Name x pos'] e pos) (sSetD i f) := by
  obtain ⟨t, h1, h2⟩ := h
  exact ⟨_, ps_set (i := i) hN hi hx h1 hs hf, fun H0 P0 Γ σ H own k D hd r hf l => h2 _ _ σ H _ _ _ (r.dom hd) r.rs hf (fun p vs ds H' s n e h q => l.nx _ _ _ _ (own_new (c := .dct ds) r hd s n ⟨vs, e, h.to.1, h.to.2⟩) q) (l.exH r)⟩
def ownDAt (Γ : Env) (i : Nat) (Q : List (Key × D) → Prop) : Prop := match Γ[i]? with
  | some (some (.own (.dct ds))) => Q ds
  | _ => False
theorem of_ownDAt {Γ : Env} {i : Nat} {Q : List (Key × D) → Prop} (h : ownDAt Γ i Q) : ∃ ds, Γ[i]? = some (some (.own (.dct ds))) ∧ Q ds := by
  unfold ownDAt at h
  split at h
  · exact ⟨_, by assumption, h⟩
  · exact h.elim
/-- d.update(e), e a new dict -/
def rUpd : V → List V → Hp → VK → Prop := fun x vs H Q => ∃ d b kvs more, x = .ref d ∧ vs = [.ref b] ∧ H d = some (.dK kvs) ∧ H b = some (.dK more) ∧ d ≠ b ∧ kvs.length + more.length ≤ sizeLine ∧ Q .non (upd H d (.dK (mergeK kvs more)))
theorem length_merge : ∀ (more kvs : List (Key × V)), (mergeK kvs more).length ≤ kvs.length + more.length
  | [], kvs => Nat.le_refl _
  | (k, v) :: r, kvs => by
    have h1 := length_merge r (putK kvs k v)
    have h2 := length_putK kvs k v
    show (mergeK (putK kvs k v) r).length ≤ _
    rw [List.length_cons]
    omega
theorem mt_update : MtR X "dict.update" rUpd := by
  intro pins s σ H x xs v us Q I rx rxs h
  obtain ⟨d, b, kvs, more, rfl, rfl, e1, e2, ne, hl, q⟩ := h
  cases rx
  cases rxs with
  | cons ry rt =>
    cases rt
    cases ry
    obtain ⟨z, hd, vs, rel, dd⟩ := dk_of I.hok e1
    obtain ⟨z2, hd2, ws, rel2, dd2⟩ := dk_of I.hok e2
    refine call_meetsIn PySem.F.slot_dict_update dd.typeIs PySem.F.entry_dict_update (PySem.F.args_dict_update_2 _ _) (meets_dict_update (mixKind X.prog X.w) d b ne hd2) ⟨vs, ws, dd, dd2, by rw [← rel.length, ← rel2.length]; exact hl, fun h' hmm _ hs => ?_⟩
    have he : ∃ q, h'.get? d = some q := let ⟨q, _, _, hq, _⟩ := hmm; ⟨q, hq⟩
    refine ⟨.non, upd H d (.dK (mergeK kvs more)), d_write I (by rw [e1]; exact True.intro) hs he (dk_new (Nat.le_trans (length_merge more kvs) hl) hd (KV.merge rel2 rel) hmm), rfl, q⟩
def sUpd (i : Nat) (f : Rho → WD (List (Key × D))) : FS := fun Γ k => ownDAt Γ i fun ds => f (clean Γ) (fun es => ds.length + es.length ≤ 1000000 ∧ k.nx (Γ.set i (some (.own (.dct (mergeG ds es)))))) k.ex
theorem ds_upd (i : Nat) {x : Str} {apos cpos npos : Pos} {f : Rho → WD (List (Key × D))} (h : DD O X E e f) (hN : X.N[i]? = some x := by rfl) (hv : Vis X.env.scope x := by first | exact Or.inl rfl | exact Or.inr (Or.inl rfl) | exact Or.inr (Or.inr rfl)) (hdd : (x == ("__debug__" : Str)) = false := by decide) (hcd : (x == ("__classdict__" : Str)) = false := by decide)
    (hse : starEach [e] X.env = (false, eval e X.env) :: starEach [] X.env := by rfl)
    (hbase : attributeBase (.Name x npos) "update" X.env (eval (.Name x npos) X.env) = eval (.Name x npos) X.env := by rfl)
    (hfew : ((backTo cpos (starEach [e] X.env)).all (fun x => !x.1) && (backToKw cpos (keywordEach [] X.env)).all (fun x => x.1.isSome) && decide ([e].length + ([] : List Keyword).length + (if ([] : List Keyword).isEmpty then 0 else 1) < 30)) = true := by rfl)
    (hline : (apos.endLine == cpos.line) = true := by rfl) (hs : swapsWith (.Call (.Attribute (.Name x npos) "update" apos) [e] [] cpos) none pos.line X.env = pure false := by rfl) :
    DS O X E (.Expr (.Call (.Attribute (.Name x npos) "update" apos) [e] [] cpos) pos) (sUpd i f) := by
  obtain ⟨t, h1, h2⟩ := h
  have pA : PA X [e] (tCons t tNil) := pa_cons h1 pa_nil hse
  refine ⟨_, ps_expr (pe_bm PySem.F.plainAttrs_dict PySem.F.slot_dict_update PySem.F.type_dict_update mt_update (pe_var hN hv hdd hcd) pA hbase hfew hline hse) hs, fun H0 P0 Γ σ H own k D hd r hf l => ?_⟩
  obtain ⟨ds, eg, hf⟩ := of_ownDAt hf
  obtain ⟨p, eo, es, kvs, ep, ek, hv⟩ := r.ow i (.dct ds) eg
  refine ⟨.ref p, es, .inr (.inr (.inl ⟨rfl, .inl ⟨_, ep⟩⟩)), h2 _ _ σ H _ _ _ (r.dom hd) r.rs hf (fun b vs ds' H' s n e h q => ?_) (l.exH r)⟩
  have K1 := (Kds.of ek hv).same s
  have K2 := h.mapD fun h => h.less (P' := Pw P0 own) fun _ z => .inl z
  refine ⟨p, b, kvs, vs, rfl, rfl, s.all _ _ ep no_dk, e, fun z => ?_, ?_, l.nx _ _ _ _ ((r.step s).grow (c' := .dct _) eg eo es (.inr ⟨_, rfl⟩) fun f => ⟨_, upd_same, ?_, f ?_⟩) q.2⟩
  · subst z
    exact no_dk (n _ ep)
  · rw [K1.length, K2.length]
    exact Nat.le_trans q.1 (by decide)
  · exact (Kds.merge K2 K1).to.1
  · exact (Kds.merge K2 K1).to.2
end
end DL

namespace DL
open PySem PySem.Spec L2
/-! ### sorted, of a list or a tuple of data -/
def leD1 (a b : D) : Bool := PySem.W.dataLe false (fun d : D => d) a b
def sortL (ds : List D) : List D := ds.mergeSort leD1
section
variable [Nm] {prog : Program} {w : World} {A : Around} {E : Value → Shared → Prop} {s : Shared}
open PySem.W PyProof.Rows in
/-- sorted of any sequence: its items are collected, the new list is sorted -/
theorem sorted_any {T : String} {l : Addr} {o : Obj} {n : Nat} {vs : List Value} {R : Value → PyData → Prop} {ds : List PyData} {Q : Value → Shared → Prop} (hT : T = "list" ∨ T = "tuple") (ho : s.heap.get? l = some o) (hc : o.cls = .type T) (hd : o.data = .seq vs.toArray n)
    (e : EachIs R vs ds) (er : EachIs (fun v d => ∃ as, Reads s.heap v d as) vs ds) (hal : AllAlike ds) (hk : Sortable ds) (hL : ds.length ≤ sizeLine) (hu : ∀ d, d ∈ ds → A.units + 2 + d.depth < cLine)
    (h : ∀ (a : Addr) (out : List Value) (c : Nat) (h1 h' : Heap), (∀ b o, s.heap.get? b = some o → h1.get? b = some o) → (∀ b o, h1.get? b = some o → h'.get? b = some o) → h1.objs.size ≤ a → h'.get? a = some (seqObj "list" (List.toArray out) c) → out.length = ds.length → EachIs R out (ds.mergeSort (dataLe false fun d => d)) → Q (.ref a) { s with heap := h' }) :
    wpAny (model prog w) A (call (.builtin "sorted") [.ref l]) Q E s := by
  have hvl : vs.length = ds.length := e.length
  have hLv : vs.length ≤ sizeLine := by rw [hvl]; exact hL
  refine call_function_entry_kw kind_sorted plain_sorted entry_sorted (args_sorted1 _) ?_
  unfold Builtin.«sorted»
  refine wpAny_bind (m := checkCount "sorted" 1 1 _) (wpAny_pure ?_)
  refine wpAny_bind (wpAny_collect_seq l hT ho hc hd (fun h1 k1 => ?_) (by simpa using hLv))
  rw [List.toList_toArray]
  refine wpAny_bind (wpAny_newList ?_ hLv)
  have hat : (h1.push { cls := .type "list", data := .seq vs.toArray }).get? h1.objs.size = some (seqObj "list" vs.toArray 0) := Heap.get?_push_size _ rfl
  have old : ∀ b o, s.heap.get? b = some o → (h1.push { cls := .type "list", data := .seq vs.toArray }).get? b = some o := fun b o q => Heap.get?_push_of_some _ (k1 b o q)
  have nb : ∀ b o, s.heap.get? b = some o → b ≠ h1.objs.size := fun b o q => Nat.ne_of_lt (Heap.lt_size (k1 b o q))
  have er' : EachIs (fun v d => ∃ as, Reads (sortingHeap (h1.push { cls := .type "list", data := .seq vs.toArray }) h1.objs.size vs) v d as) vs ds := er.mono fun _ _ ⟨as, r⟩ => ⟨as, PyProof.Rows.Reads.keeps (fun b o q => sortingHeap_old (nb b o q) (old b o q)) r⟩
  refine wpAny_bind (wpAny_holding (wpAny_call_entry_kw slot_list_sort ⟨_, hat, rfl⟩ entry_list_sort ?body (args_list_sort _)))
  case body =>
    show wpAny (model prog w) A.in1.in1 (Builtin.«list.sort» ⟨[.ref h1.objs.size], []⟩) _ _ _
    refine wpAny_mono (list_sort_vals (s := { s with heap := h1.push { cls := .type "list", data := .seq vs.toArray } }) (P := fun f s' => f = .done (.ret .none) ∧ Q (.ref h1.objs.size) s') (E := fun _ _ => False) hat
      (SortsAt.data (s := { s with heap := sortingHeap (h1.push { cls := .type "list", data := .seq vs.toArray }) h1.objs.size vs }) er' hal hk (fun d hd => hu d hd)) hLv ⟨rfl, ?_⟩) (fun f s' hf => ?_) fun _ _ z => z.elim
    · obtain ⟨c, hc⟩ := sortedHeap_at (out := (sortVals (dataKind (sortingHeap (h1.push { cls := .type "list", data := .seq vs.toArray }) h1.objs.size vs) ds) false vs vs).toArray) hat
      have ed : EachIs R (sortVals (dataKind (sortingHeap (h1.push { cls := .type "list", data := .seq vs.toArray }) h1.objs.size vs) ds) false vs vs) (ds.mergeSort (dataLe false fun d => d)) := by
        have := sortVals_data (enc := fun d : PyData => d) false e er' (by rw [List.map_id']; exact hal)
        rw [List.map_id'] at this
        exact this
      refine h h1.objs.size _ c h1 _ k1 (fun b o q => ?_) (Nat.le_refl _) hc (by rw [sortVals_length false rfl]; exact hvl) ed
      rw [sortedHeap_old (Nat.ne_of_lt (Heap.lt_size q)) (Heap.lt_size (Heap.get?_push_of_some _ q))]
      exact Heap.get?_push_of_some _ q
    · obtain ⟨rfl, hq⟩ := hf
      exact ⟨_, rfl, wpAny_pure ⟨_, rfl, hq⟩⟩
end

section
variable [Nm] {O : Ob} {X : Cx}
def rSortA (K : PySem.W.Frag) : List V → Hp → VK → Prop := fun vs H Q => ∃ (a : Addr) (xs : List V) (ds : List D) (RR : V → D → Prop), vs = [.ref a] ∧ (SqL K H a xs ∨ SqT K H a xs) ∧ PySem.W.EachIs RR xs ds ∧ DpAll K H xs ds ∧ PySem.W.AllAlike ds ∧ PySem.W.Sortable ds ∧ (∀ d, d ∈ ds → d.depth ≤ 60) ∧
  ∀ ys p, PySem.W.EachIs RR ys (sortL ds) → H p = none → Q (.ref p) (upd H p (.lst ys))
theorem each_vals {RR : V → D → Prop} : ∀ {xs : List V} {us : List Value} {ds : List D}, Vals xs us → PySem.W.EachIs RR xs ds → PySem.W.EachIs (fun u d => ∃ x, RelV x u ∧ RR x d) us ds
  | _, _, _, .nil, .nil => .nil
  | _, _, _, .cons r t, .cons h q => .cons ⟨_, r, h⟩ (each_vals t q)
theorem vals_each {RR : V → D → Prop} : ∀ {us : List Value} {ds : List D}, PySem.W.EachIs (fun u d => ∃ x, RelV x u ∧ RR x d) us ds → ∃ ys, Vals ys us ∧ PySem.W.EachIs RR ys ds
  | _, _, .nil => ⟨[], .nil, .nil⟩
  | _, _, .cons ⟨x, r, h⟩ q => by
    obtain ⟨ys, a, b⟩ := vals_each q
    exact ⟨x :: ys, .cons r a, .cons h b⟩
theorem each_reads {pins : List (Addr × Obj)} {σ : L2.St} {H : Hp} {s : Shared} (I : Inv X pins σ H s) : ∀ {xs : List V} {us : List Value} {ds : List D}, Vals xs us → DpAll X.K H xs ds → PySem.W.EachIs (fun v d => ∃ as, Reads s.heap v d as) us ds
  | _, _, _, .nil, .nil => .nil
  | _, _, _, .cons r t, .cons h q => .cons (Dp.reads I _ _ _ h r) (each_reads I t q)
theorem each_len {α β : Type} {R : α → β → Prop} : ∀ {as : List α} {bs : List β}, PySem.W.EachIs R as bs → as.length = bs.length
  | _, _, .nil => rfl
  | _, _, .cons _ q => congrArg (· + 1) (each_len q)
theorem cr_sortA (hu : X.A.units + 65 < cLine) : CallR X (.builtin "sorted") (rSortA X.K) := by
  intro pins s σ H vs us Q I r h
  obtain ⟨a, xs, ds, RR, rfl, hs, he, hd, hal, hso, hdp, q⟩ := h
  obtain ⟨u, rfl, ru⟩ := vals1 r
  obtain rfl : u = Value.ref a := ru
  have fin : ∀ (its : List Value), Vals xs its → xs.length ≤ sizeLine → ∀ (T : String) (o : Obj) (n : Nat), (T = "list" ∨ T = "tuple") → s.heap.get? a = some o → o.cls = .type T → o.data = .seq its.toArray n → wpAny (model X.prog X.w) X.A (call (.builtin "sorted") [.ref a]) (EP X pins σ Q) X.xe s := fun its rv hz T o n hT ho hc hdt => by
    refine sorted_any hT ho hc hdt (each_vals rv he) (each_reads I rv hd) hal hso (by rw [← each_len he]; exact hz) (fun d hm => ?_) fun p out c h1 h' k1 kp np ep el ee => ?_
    · have := hdp d hm
      omega
    · obtain ⟨ys, y1, y2⟩ := vals_each ee
      have I1 : Inv X pins σ H { s with heap := h1 } := I.kept (t' := s.toks) k1
      exact ⟨.ref p, upd H p (.lst ys), I1.laid (t' := s.toks) kp np (show ObjOk X.prog X.w _ h' _ (.lst ys) from ⟨by rw [y1.length, el, ← each_len he]; exact hz, out, c, y1, ep⟩), rfl, q ys p y2 (I1.hok.fresh np)⟩
  rcases hs with hs | hs
  · obtain ⟨its, rv, hl, hz⟩ := I.list hs
    obtain ⟨o, ho, hc, n, hd⟩ := hl.isList
    exact fin its rv hz "list" o n (.inl rfl) ho hc hd
  · obtain ⟨its, rv, hl, hz⟩ := I.tuple hs
    obtain ⟨o, ho, hc, n, hd⟩ := hl
    exact fin its rv hz "tuple" o n (.inr rfl) ho hc hd
/-- what sorted takes -/
def srtOk (ds : List D) : Prop := PySem.W.AllAlike ds ∧ PySem.W.Sortable ds ∧ ∀ d, d ∈ ds → d.canLay0 = true ∧ d.depth ≤ 60
def sortD : D → WD (List D)
  | .list ds => fun Q _ => srtOk ds ∧ Q (sortL ds)
  | .tuple ds => fun Q _ => srtOk ds ∧ Q (sortL ds)
  | _ => fun _ _ => False
theorem canAll_of : ∀ {ds : List D}, (∀ d, d ∈ ds → d.canLay0 = true) → PyData.canLayAll0 ds = true
  | [], _ => by simp [PyData.canLayAll0]
  | d :: ds, h => by
    simp only [PyData.canLayAll0, Bool.and_eq_true]
    exact ⟨h d List.mem_cons_self, canAll_of fun e he => h e (List.mem_cons_of_mem _ he)⟩
theorem each_dv {K : PySem.W.Frag} {H : Hp} {P : Addr → Prop} : ∀ {vs : List V} {ds : List D}, DvAll O K H P vs ds → PySem.W.EachIs (Dv O K H P) vs ds
  | _, _, .nil => .nil
  | _, _, .cons h r => .cons h (each_dv r)
theorem dv_each {K : PySem.W.Frag} {H : Hp} {P : Addr → Prop} : ∀ {vs : List V} {ds : List D}, PySem.W.EachIs (Dv O K H P) vs ds → DvAll O K H P vs ds
  | _, _, .nil => .nil
  | _, _, .cons h r => .cons h (dv_each r)
theorem cbf_sort : CbF O X (rSortA X.K) (one1F sortD) := fun P H xs ds Qd Ed Q hd hx hg hQ => by
  cases hx with
  | nil => exact hg.elim
  | cons h r =>
    cases r with
    | cons _ _ => exact hg.elim
    | nil =>
      cases h with
      | lst e n r => exact ⟨_, _, _, _, rfl, .inl (.inl (.inl e)), each_dv r, r.dp (canAll_of fun d m => (hg.1.2.2 d m).1), hg.1.1, hg.1.2.1, fun d m => (hg.1.2.2 d m).2, fun ys l y nl => hQ _ _ _ _ (same_new nl) (nn nl) upd_same ((dv_each y).fresh (nn nl) (same_new nl)) hg.2⟩
      | tup e r => exact ⟨_, _, _, _, rfl, .inr e.sq, each_dv r, r.dp (canAll_of fun d m => (hg.1.2.2 d m).1), hg.1.1, hg.1.2.1, fun d m => (hg.1.2.2 d m).2, fun ys l y nl => hQ _ _ _ _ (same_new nl) (nn nl) upd_same ((dv_each y).fresh (nn nl) (same_new nl)) hg.2⟩
      | _ => exact hg.elim
end
end DL

namespace DL
open PySem PySem.Spec L2
/-! ### the draws: a town of counts and rests, told by what holds of it at all times -/
/-- a list that is never written -/
def SqS (K : PySem.W.Frag) (H : Hp) (a : Addr) (xs : List V) : Prop := (∃ o, H a = some (.frz o (.lst xs))) ∨
  ∃ (o : Obj) (its : Array Value) (n : Nat), K.lookup a = some o ∧ o.cls = .type "list" ∧ o.dict = none ∧ o.data = .seq its n ∧ its.size ≤ sizeLine ∧ Vals xs its.toList
theorem SqS.sq {K : PySem.W.Frag} {H : Hp} {a : Addr} {xs : List V} (h : SqS K H a xs) : SqL K H a xs := by
  rcases h with ⟨o, h⟩ | h
  · exact .inl (.inr ⟨o, h⟩)
  · exact .inr h
theorem SqS.of {K : PySem.W.Frag} {H : Hp} {a : Addr} {xs : List V} (hO : Only H) (h : SqL K H a xs) : SqS K H a xs := by
  rcases h with (h | ⟨o, h⟩) | h
  · rcases hO a with e | ⟨o, ys, e⟩
    · rw [h] at e
      cases e
    · rw [h] at e
      cases e
  · exact .inl ⟨o, h⟩
  · exact .inr h
theorem SqS.nl {K : PySem.W.Frag} {H H' : Hp} {a : Addr} {xs : List V} (h : SqS K H a xs) (n : Nl H H') : SqS K H' a xs := by
  rcases h with ⟨o, h⟩ | h
  · exact .inl ⟨o, n _ _ h not_mb_frz no_frz⟩
  · exact .inr h
def goodRest (vs : List (Key × V)) : Prop := (vs.map (·.1)).Nodup ∧ ∀ kv ∈ vs, (∃ i : Int, kv.1 = .inl i ∧ 0 ≤ i ∧ i < 64) ∧ ∃ n, kv.2 = .int n
def townKvs (c : Int) (r : Addr) : List (Key × V) := [(.inr "count", .int c), (.inr "rests", .ref r)]
/-- what holds of a town; of its rests -/
def townP (P : Program) (w : World) (t r : Addr) : Heap → Prop := fun h => ∃ c : Int, 0 ≤ c ∧ ObjOk P w (fun _ => none) h t (.dK (townKvs c r))
def restP (P : Program) (w : World) (r : Addr) : Heap → Prop := fun h => ∃ vs, goodRest vs ∧ ObjOk P w (fun _ => none) h r (.dK vs)
theorem dk_any {P : Program} {w : World} {H H' : Hp} {h : Heap} {a : Addr} {kvs : List (Key × V)} (x : ObjOk P w H h a (.dK kvs)) : ObjOk P w H' h a (.dK kvs) := x
theorem dk_stay {P : Program} {w : World} {H : Hp} {h1 h2 : Heap} {a : Addr} {kvs : List (Key × V)} (x : ObjOk P w H h1 a (.dK kvs)) (e : ∀ o, h1.get? a = some o → h2.get? a = some o) : ObjOk P w H h2 a (.dK kvs) := by
  obtain ⟨z, y, vs, r, ob, es, ep, q, c⟩ := x
  exact ⟨z, y, vs, r, ob, es, ep, e _ q, c⟩
def sD : D := .dict [(.none, .int 0)]
def tD : D := .dict [(.none, .int 1)]
def scriptP (K : PySem.W.Frag) (H : Hp) (v : V) : Prop := ∃ (a : Addr) (ns : List Int), v = .ref a ∧ SqS K H a (ns.map V.int) ∧ ns.length ≤ 63
def townIs (P : Program) (w : World) (H : Hp) (v : V) : Prop := ∃ t r, v = .ref t ∧ t ≠ r ∧ H t = some (.ext (townP P w t r)) ∧ H r = some (.ext (restP P w r))
/-- an exception that is held, by its class's name -/
def ExcO (a : Addr) (cls : Value) (d : Option Addr) : HO := .ext fun h => ∃ oe vs, h.get? a = some oe ∧ Zc cls d oe ∧ oe.data = .fields vs
def excD (n : Str) : D := .dict [(.none, .str n)]
def excIs (mg : Str → Option Value) (H : Hp) (v : V) (n : Str) : Prop := ∃ a C, v = .ref a ∧ mg n = some (.ref C) ∧ H a = some (ExcO a (.ref C) none)
def obT (P : Program) (w : World) (mg : Str → Option Value) : Ob where
  ro := fun K H v k => match k with
    | [(.none, .int 0)] => scriptP K H v
    | [(.none, .int 1)] => townIs P w H v
    | [(.none, .str n)] => excIs mg H v n
    | _ => False
  isRef := fun {K H v k} h => by
    split at h
    · obtain ⟨a, ns, e, _⟩ := h
      exact ⟨a, e⟩
    · obtain ⟨t, r, e, _⟩ := h
      exact ⟨t, e⟩
    · obtain ⟨a, C, e, _⟩ := h
      exact ⟨a, e⟩
    · exact h.elim
  keep := fun {K H H' v k} n h => by
    split at h
    · obtain ⟨a, ns, e, q, l⟩ := h
      exact ⟨a, ns, e, q.nl n, l⟩
    · obtain ⟨t, r, e, ne, e1, e2⟩ := h
      exact ⟨t, r, e, ne, n _ _ e1 not_mb_ext no_ext, n _ _ e2 not_mb_ext no_ext⟩
    · obtain ⟨a, C, e, m, e1⟩ := h
      exact ⟨a, C, e, m, n _ _ e1 not_mb_ext no_ext⟩
    · exact h.elim
theorem obT_no (P : Program) (w : World) (mg : Str → Option Value) : NoObj (obT P w mg) := ⟨fun {K H v ds} h p hp => by
  unfold obT at h
  simp only at h
  split at h
  · simp at hp
    subst hp
    rfl
  · simp at hp
    subst hp
    rfl
  · simp at hp
    subst hp
    rfl
  · exact h.elim, fun {K H v ds} h => by
  unfold obT at h
  simp only at h⟩
theorem dv_script {P : Program} {w : World} {mg : Str → Option Value} {K : PySem.W.Frag} {H : Hp} {Pr : Addr → Prop} {v : V} (h : scriptP K H v) : Dv (obT P w mg) K H Pr v sD := .obj h
theorem dv_town {P : Program} {w : World} {mg : Str → Option Value} {K : PySem.W.Frag} {H : Hp} {Pr : Addr → Prop} {v : V} (h : townIs P w H v) : Dv (obT P w mg) K H Pr v tD := .obj h
theorem of_script {P : Program} {w : World} {mg : Str → Option Value} {K : PySem.W.Frag} {H : Hp} {Pr : Addr → Prop} {v : V} (h : Dv (obT P w mg) K H Pr v sD) : scriptP K H v := by
  unfold sD at h
  generalize e : (PyData.dict [(.none, .int 0)]) = d at h
  cases h with
  | @dct a kvs ds e1 e2 e3 e4 =>
    unfold dictE at e
    injection e with e
    cases ds with
    | nil => cases e
    | cons p r =>
      injection e with e _
      injection e with e _
      obtain ⟨k, x⟩ := p
      cases k <;> cases e
  | obj h =>
    injection e with e
    subst e
    exact h
  | _ => cases e
theorem of_town {P : Program} {w : World} {mg : Str → Option Value} {K : PySem.W.Frag} {H : Hp} {Pr : Addr → Prop} {v : V} (h : Dv (obT P w mg) K H Pr v tD) : townIs P w H v := by
  unfold tD at h
  generalize e : (PyData.dict [(.none, .int 1)]) = d at h
  cases h with
  | @dct a kvs ds e1 e2 e3 e4 =>
    unfold dictE at e
    injection e with e
    cases ds with
    | nil => cases e
    | cons p r =>
      injection e with e _
      injection e with e _
      obtain ⟨k, x⟩ := p
      cases k <;> cases e
  | obj h =>
    injection e with e
    subst e
    exact h
  | _ => cases e
theorem of_exc {P : Program} {w : World} {mg : Str → Option Value} {K : PySem.W.Frag} {H : Hp} {Pr : Addr → Prop} {v : V} {n : Str} (h : Dv (obT P w mg) K H Pr v (excD n)) : excIs mg H v n := by
  unfold excD at h
  generalize e : (PyData.dict [(.none, .str n)]) = d at h
  cases h with
  | @dct a kvs ds e1 e2 e3 e4 =>
    unfold dictE at e
    injection e with e
    cases ds with
    | nil => cases e
    | cons p r =>
      injection e with e _
      injection e with e _
      obtain ⟨k, x⟩ := p
      cases k <;> cases e
  | obj h =>
    injection e with e
    subst e
    exact h
  | _ => cases e
theorem dv_exc {P : Program} {w : World} {mg : Str → Option Value} {K : PySem.W.Frag} {H : Hp} {Pr : Addr → Prop} {v : V} {n : Str} (h : excIs mg H v n) : Dv (obT P w mg) K H Pr v (excD n) := .obj h
/-! ### one object, looked at in another way -/
section
variable [Nm] {X : Cx}
theorem Inv.view {pins : List (Addr × Obj)} {σ : L2.St} {H : Hp} {s : Shared} {a : Addr} {o : HO} (I : Inv X pins σ H s) (mu : Mut (H a)) (h : ∃ u, s.heap.get? a = some u) (new : ObjOk X.prog X.w (upd H a o) s.heap a o) : Inv X pins σ (upd H a o) s := by
  have := I.write (x := a) (e := a) (h' := s.heap) (t' := s.toks) mu (.inl rfl) (fun b u _ q => q) h new
  exact this
/-- the town and its rests are dicts -/
def tOpen (P : Program) (w : World) (t : TS) : TS := fun D σ H => ∃ a r, a ≠ r ∧ H a = some (.ext (townP P w a r)) ∧ H r = some (.ext (restP P w r)) ∧ ∀ (c : Int) (vs : List (Key × V)), 0 ≤ c → goodRest vs → t D σ (upd (upd H a (.dK (townKvs c r))) r (.dK vs))
theorem pss_open {sts : List Stmt} {t : TS} (h : PSs X sts t) : PSs X sts (tOpen X.prog X.w t) := by
  refine ⟨fun pins s σ H D I hw => ?_⟩
  obtain ⟨a, r, ne, e1, e2, q⟩ := hw
  obtain ⟨⟨c, hc, o1⟩, ⟨u1, g1⟩, _⟩ := I.hok a _ e1
  obtain ⟨⟨vs, hv, o2⟩, ⟨u2, g2⟩, _⟩ := I.hok r _ e2
  have I1 := Inv.view (o := .dK (townKvs c r)) I (by rw [e1]; exact True.intro) ⟨u1, g1⟩ (dk_any o1)
  have e2' : upd H a (.dK (townKvs c r)) r = some (.ext (restP X.prog X.w r)) := by rw [upd_ne (Ne.symm ne)]; exact e2
  have I2 := Inv.view (o := .dK vs) I1 (by rw [e2']; exact True.intro) ⟨u2, g2⟩ (dk_any o2)
  exact h.run pins s σ _ D I2 (q c vs hc hv)
/-- .. and are told by what holds of them again -/
def shut (P : Program) (w : World) (Q : Hp → Prop) : Hp → Prop := fun H => ∃ a r, a ≠ r ∧ (∃ c : Int, 0 ≤ c ∧ H a = some (.dK (townKvs c r))) ∧ (∃ vs, goodRest vs ∧ H r = some (.dK vs)) ∧ Q (upd (upd H a (.ext (townP P w a r))) r (.ext (restP P w r)))
theorem inv_shut {pins : List (Addr × Obj)} {σ : L2.St} {H : Hp} {s : Shared} {Q : Hp → Prop} (I : Inv X pins σ H s) (h : shut X.prog X.w Q H) : ∃ H', Inv X pins σ H' s ∧ Q H' := by
  obtain ⟨a, r, ne, ⟨c, hc, e1⟩, ⟨vs, hv, e2⟩, q⟩ := h
  have o1 := I.hok a _ e1
  have o2 := I.hok r _ e2
  have g1 : ∃ u, s.heap.get? a = some u := let ⟨_, _, _, _, ob, _, _, g, _⟩ := o1; ⟨ob, g⟩
  have g2 : ∃ u, s.heap.get? r = some u := let ⟨_, _, _, _, ob, _, _, g, _⟩ := o2; ⟨ob, g⟩
  have I1 := Inv.view (o := .ext (townP X.prog X.w a r)) I (by rw [e1]; exact True.intro) g1 ⟨⟨c, hc, dk_any o1⟩, g1, fun h1 h2 ⟨c', hc', x⟩ k => ⟨c', hc', dk_stay x k⟩⟩
  have e2' : upd H a (.ext (townP X.prog X.w a r)) r = some (.dK vs) := by rw [upd_ne (Ne.symm ne)]; exact e2
  have I2 := Inv.view (o := .ext (restP X.prog X.w r)) I1 (by rw [e2']; exact True.intro) g2 ⟨⟨vs, hv, dk_any o2⟩, g2, fun h1 h2 ⟨v', hv', x⟩ k => ⟨v', hv', dk_stay x k⟩⟩
  exact ⟨_, I2, q⟩
def tShut (P : Program) (w : World) (t : TS) : TS := fun D σ H => t ⟨fun σ' => shut P w (D.nx σ'), fun v => shut P w (D.rt v), fun σ' => shut P w (D.bk σ'), fun σ' => shut P w (D.ct σ')⟩ σ H
theorem pss_shut {sts : List Stmt} {t : TS} (h : PSs X sts t) : PSs X sts (tShut X.prog X.w t) := by
  refine ⟨fun pins s σ H D I hw => ?_⟩
  refine thn (h.run pins s σ H _ I hw) fun f s1 q => ?_
  cases f with
  | next =>
    obtain ⟨σ', H', I', q⟩ := q
    obtain ⟨H2, I2, q2⟩ := inv_shut I' q
    exact ⟨σ', H2, I2, q2⟩
  | brk =>
    obtain ⟨σ', H', I', q⟩ := q
    obtain ⟨H2, I2, q2⟩ := inv_shut I' q
    exact ⟨σ', H2, I2, q2⟩
  | cont =>
    obtain ⟨σ', H', I', q⟩ := q
    obtain ⟨H2, I2, q2⟩ := inv_shut I' q
    exact ⟨σ', H2, I2, q2⟩
  | ret u =>
    obtain ⟨v, σ', H', I', rv, q⟩ := q
    obtain ⟨H2, I2, q2⟩ := inv_shut I' q
    exact ⟨v, σ', H2, I2, rv, q2⟩
end
/-! ### the town is made -/
/-- {"count": 0, "rests": {}} -/
def m__law_begun : List D → WD D := fun ds Q _ => ds = [] ∧ Q tD
/-- the next draw -/
def m__law_draw : List D → WD D
  | [s, t, .int m] => fun Q _ => s = sD ∧ t = tD ∧ 0 < m ∧ m < 1073741824 ∧ ∀ r : Int, 0 ≤ r → r < m → Q (.int r)
  | _ => fun _ _ => False
abbrev tInt (i : Int) : TE := tC (.int i)
abbrev tStr (x : Str) : TE := tC (.str x)
abbrev tTr (K : PySem.W.Frag) (ta : TE) : TT := fun σ H Q => ta σ H fun x H' => ∃ k, TruV K x H' k ∧ Q k H'
abbrev rAddI : R2 := rI0 fun i j => .int (i + j)
abbrev rMulI : R2 := rI CMul fun i j => .int (i * j)
abbrev rDivI : R2 := rI CDiv fun i j => .int (i / j)
abbrev rModI : R2 := rI (fun _ j => 0 < j) fun i j => .int (i % j)
abbrev rPowI : R2 := rI CPow fun i j => .int (i ^ j.toNat)
abbrev rGeI : R2 := rI0 fun i j => .bl (decide (j ≤ i))
abbrev rLenA (K : PySem.W.Frag) : List V → Hp → VK → Prop := fun xs H Q => ∃ x n, xs = [x] ∧ LenV K x H n ∧ Q (.int n) H
abbrev tCount : TE := tDGet (tVar 1) (tStr "count")
abbrev tDrawB : TS :=
  tSeq (tIfS (tTest (tOp rGeI (tVar 4) (tOp rPowI (tInt 10) (tInt 18)))) (tSeq (sDPut (tDGet (tVar 1) (tStr "rests")) (tVar 3) (tOp rDivI (tVar 4) (tVar 2))) (tRet (tOp rModI (tVar 4) (tVar 2)))) tNext)
  (tSeq (tAsg (tOp rModI (tOp rAddI (tVar 4) (tOp rMulI (tInt 104729) tCount)) (tInt 4294967291)) (gName 5))
  (tSeq (tAsg (tOp rModI (tOp rPowI (tVar 5) (tInt 5)) (tInt 4294967279)) (gName 5))
  (tRet (tOp rModI (tOp rDivI (tOp rModI (tOp rAddI (tOp rMulI (tOp rDivI (tVar 5) (tInt 64)) (tInt 69621)) (tVar 5)) (tInt 4294967231)) (tInt 8)) (tVar 2)))))
abbrev tDrawA (K : PySem.W.Frag) : TS :=
  tSeq (tAsg (tDGet2 (tDGet (tVar 1) (tStr "rests")) (tVar 3) (tIf (tTr K (tVar 0)) (tOp (rIxL K) (tVar 0) (tVar 3)) (tInt 0))) (gName 4)) tDrawB
abbrev tDraw (K : PySem.W.Frag) : TS :=
  tSeq (sDPut (tVar 1) (tStr "count") (tOp rAddI tCount (tInt 1)))
  (tSeq (tAsg (tIf (tTr K (tVar 0)) (tOp rModI tCount (tCB (rLenA K) (tCons (tVar 0) tNil))) (tInt 0)) (gName 3)) (tDrawA K))
theorem nc : ¬ (("count" : Str) = "rests") := by decide +kernel
theorem nc' : ¬ (("rests" : Str) = "count") := by decide +kernel
theorem town_count (c : Int) (r : Addr) : valV (townKvs c r) (.inr "count" : Key) = some (.int c) := valV_pos rfl
theorem town_rests (c : Int) (r : Addr) : valV (townKvs c r) (.inr "rests" : Key) = some (.ref r) := by
  unfold townKvs
  rw [valV_neg (p := ((.inr "count" : Key), V.int c)) (fun e => nc (by injection e)), valV_pos rfl]
theorem town_put (c y : Int) (r : Addr) : putK (townKvs c r) (.inr "count" : Key) (.int y) = townKvs y r := by
  unfold putK townKvs
  have h : ¬ ((Sum.inr ("rests" : Str) : Key) = Sum.inr ("count" : Str)) := fun e => nc' (by injection e)
  simp [h]
theorem good_nil : goodRest [] := ⟨List.nodup_nil, fun _ h => (nomatch h)⟩
theorem good_put {vs : List (Key × V)} {i n : Int} (h : goodRest vs) (h0 : 0 ≤ i) (h1 : i < 64) : goodRest (putK vs (.inl i : Key) (.int n)) := by
  have key : ∀ kv ∈ putK vs (.inl i : Key) (.int n), (∃ i : Int, kv.1 = .inl i ∧ 0 ≤ i ∧ i < 64) ∧ ∃ n, kv.2 = .int n := fun kv hk => by
    unfold putK at hk
    split at hk
    · obtain ⟨q, hq, rfl⟩ := List.mem_map.mp hk
      by_cases e : q.1 = .inl i
      · rw [if_pos e]
        exact ⟨⟨i, e, h0, h1⟩, n, rfl⟩
      · rw [if_neg e]
        exact h.2 q hq
    · rcases List.mem_append.mp hk with hk | hk
      · exact h.2 kv hk
      · simp at hk
        subst hk
        exact ⟨⟨i, rfl, h0, h1⟩, n, rfl⟩
  refine ⟨?_, key⟩
  cases q : valV vs (.inl i : Key) with
  | none => exact nd_putK _ h.1 q
  | some v =>
    unfold putK
    have ha : (vs.any fun kv => decide (kv.1 = (.inl i : Key))) = true := by
      unfold valV at q
      cases q2 : vs.find? fun kv => decide (kv.1 = (.inl i : Key)) with
      | none =>
        rw [q2] at q
        cases q
      | some kv =>
        rw [List.any_eq_true]
        exact ⟨kv, List.mem_of_find?_eq_some q2, by simpa using List.find?_some q2⟩
    rw [if_pos ha, List.map_map]
    have : ((fun x => x.1) ∘ fun kv : Key × V => if kv.1 = (.inl i : Key) then (kv.1, V.int n) else kv) = fun x => x.1 := by
      funext kv
      show (if kv.1 = (.inl i : Key) then (kv.1, V.int n) else kv).1 = kv.1
      split <;> rfl
    rw [this]
    exact h.1
theorem nodup_lt : ∀ (n : Nat) (l : List Nat), l.Nodup → (∀ x ∈ l, x < n) → l.length ≤ n
  | 0, [], _, _ => Nat.le_refl _
  | 0, x :: _, _, h => absurd (h x List.mem_cons_self) (Nat.not_lt_zero _)
  | n + 1, l, nd, h => by
    by_cases hn : n ∈ l
    · have h1 := nodup_lt n (l.erase n) (nd.erase n) fun x hx => by
        have h2 := (List.Nodup.mem_erase_iff nd).mp hx
        have := h x h2.2
        have := h2.1
        omega
      rw [List.length_erase_of_mem hn] at h1
      omega
    · have h1 := nodup_lt n l nd fun x hx => by
        have := h x hx
        have : x ≠ n := fun e => hn (e ▸ hx)
        omega
      omega
theorem good_len {vs : List (Key × V)} (h : goodRest vs) : vs.length ≤ 64 := by
  have h1 := nodup_lt 64 (vs.map fun kv => match kv.1 with | .inl i => i.toNat | .inr _ => 0) ?_ ?_
  · simpa using h1
  · have h2 := h.1
    unfold List.Nodup at *
    rw [List.pairwise_map] at *
    refine h2.imp_of_mem fun {a b} ha hb ne e => ne ?_
    obtain ⟨⟨i, ei, h0, _⟩, _⟩ := h.2 a ha
    obtain ⟨⟨j, ej, j0, _⟩, _⟩ := h.2 b hb
    have e' : i.toNat = j.toNat := by simpa [ei, ej] using e
    rw [ei, ej]
    congr 1
    omega
  · intro x hx
    obtain ⟨kv, hm, rfl⟩ := List.mem_map.mp hx
    obtain ⟨⟨i, e, h0, h64⟩, _⟩ := h.2 kv hm
    rw [e]
    show i.toNat < 64
    omega
theorem good_val {vs : List (Key × V)} {k : Key} {v : V} (h : goodRest vs) (e : valV vs k = some v) : ∃ n, v = .int n := by
  unfold valV at e
  cases q : vs.find? fun kv => decide (kv.1 = k) with
  | none =>
    rw [q] at e
    cases e
  | some kv =>
    rw [q] at e
    cases e
    exact (h.2 kv (List.mem_of_find?_eq_some q)).2
/-- what the whole def asks -/
theorem draw_reads {P : Program} {w : World} {K : PySem.W.Frag} {H : Hp} {a t r : Addr} {ns : List Int} {m : Int} {Q : VK} {nx : L2.St → Hp → Prop} (hs : SqS K H a (ns.map V.int)) (hl : ns.length ≤ 63) (ne : t ≠ r) (e1 : H t = some (.ext (townP P w t r))) (e2 : H r = some (.ext (restP P w r)))
    (m0 : 0 < m) (m1 : m < 1073741824) (hQ : ∀ (y : Int) H', 0 ≤ y → y < m → L2.Same H H' → Q (.int y) H') : tOpen P w (tShut P w (tDraw K)) { nx := nx, rt := Q } [some (.ref a), some (.ref t), some (.int m), none, none, none] H := by
  refine ⟨t, r, ne, e1, e2, fun c vs hc hv => ?_⟩
  obtain ⟨H1, eH1⟩ : ∃ H1, H1 = upd (upd H t (.dK (townKvs c r))) r (.dK vs) := ⟨_, rfl⟩
  rw [← eH1]
  have f1 : H1 t = some (.dK (townKvs c r)) := by rw [eH1, upd_ne ne, upd_same]
  have f2 : H1 r = some (.dK vs) := by rw [eH1, upd_same]
  have f3 : ∀ b, b ≠ t → b ≠ r → H1 b = H b := fun b h1 h2 => by rw [eH1, upd_ne h2, upd_ne h1]
  -- town['count'] = town['count'] + 1
  obtain ⟨H2, eH2⟩ : ∃ H2, H2 = upd H1 t (.dK (townKvs (c + 1) r)) := ⟨_, rfl⟩
  refine ⟨_, rfl, t, _, rfl, .inl ⟨_, .inr "count", .inl f1, rfl, (town_count c r).symm⟩, c, 1, rfl, rfl, _, rfl, t, H2, rfl, .inl ⟨_, .inr "count", f1, rfl, by show 2 < sizeLine; decide, by rw [eH2, town_put]⟩, ?_⟩
  have g1 : H2 t = some (.dK (townKvs (c + 1) r)) := by rw [eH2, upd_same]
  have g2 : H2 r = some (.dK vs) := by rw [eH2, upd_ne (Ne.symm ne)]; exact f2
  have g3 : ∀ b, b ≠ t → b ≠ r → H2 b = H b := fun b h1 h2 => by rw [eH2, upd_ne h1, f3 b h1 h2]
  have hs2 : SqS K H2 a (ns.map V.int) := by
    rcases hs with ⟨o, h⟩ | h
    · refine .inl ⟨o, ?_⟩
      have n1 : a ≠ t := fun z => by rw [z, e1] at h; cases h
      have n2 : a ≠ r := fun z => by rw [z, e2] at h; cases h
      rw [g3 a n1 n2]
      exact h
    · exact .inr h
  have cnt : DGet H2 t (.str "count") (some (.int (c + 1))) := .inl ⟨_, .inr "count", .inl g1, rfl, (town_count _ r).symm⟩
  have rst : DGet H2 t (.str "rests") (some (.ref r)) := .inl ⟨_, .inr "rests", .inl g1, rfl, (town_rests _ r).symm⟩
  have emp : (ns.map V.int).isEmpty = ns.isEmpty := by cases ns <;> rfl
  -- the end of every way
  have fin : ∀ (y : Int) (vs' : List (Key × V)) (H3 : Hp), 0 ≤ y → y < m → goodRest vs' → H3 t = some (.dK (townKvs (c + 1) r)) → H3 r = some (.dK vs') → (∀ b, b ≠ t → b ≠ r → H3 b = H b) → shut P w (Q (.int y)) H3 := fun y vs' H3 y0 y1 gv k1 k2 k3 => by
    refine ⟨t, r, ne, ⟨c + 1, by omega, k1⟩, ⟨vs', gv, k2⟩, hQ y _ y0 y1 fun b o e => ?_⟩
    by_cases h2 : b = r
    · subst h2
      rw [upd_same]
      rw [e2] at e
      exact e
    · by_cases h1 : b = t
      · subst h1
        rw [upd_ne h2, upd_same]
        rw [e1] at e
        exact e
      · rw [upd_ne h2, upd_ne h1, k3 b h1 h2]
        exact e
  -- behind at
  have step : ∀ at_ : Int, 0 ≤ at_ → at_ < 64 → (ns ≠ [] → at_ < ns.length) → tDrawA K
      ⟨fun σ' => shut P w (nx σ'), fun v => shut P w (Q v), fun σ' => shut P w fun _ => False, fun σ' => shut P w fun _ => False⟩ [some (.ref a), some (.ref t), some (.int m), some (.int at_), none, none] H2 := fun at_ a0 a1 a2 => by
    have rest : ∀ rest : Int, tDrawB
      ⟨fun σ' => shut P w (nx σ'), fun v => shut P w (Q v), fun σ' => shut P w fun _ => False, fun σ' => shut P w fun _ => False⟩ [some (.ref a), some (.ref t), some (.int m), some (.int at_), some (.int rest), none] H2 := fun rest => by
      refine ⟨_, rfl, 10, 18, rfl, rfl, ⟨by decide, by decide, by decide⟩, _, _, rfl, rfl, _, rfl, ?_⟩
      refine ite2 (fun hg => ?_) (fun hg => ?_)
      · -- a great cell
        refine ⟨_, rfl, _, rfl, _, _, rfl, rfl, ⟨m0, m1⟩, _, rfl, t, _, rfl, rst, _, rfl, r, _, rfl, .inl ⟨vs, .inl at_, g2, rfl, Nat.lt_of_le_of_lt (good_len hv) (by decide), rfl⟩, ?_⟩
        refine ⟨_, rfl, _, rfl, _, _, rfl, rfl, m0, ?_⟩
        refine fin _ _ _ (Int.emod_nonneg _ (by omega)) (Int.emod_lt_of_pos _ m0) (good_put hv a0 a1) ?_ upd_same ?_
        · rw [upd_ne ne]
          exact g1
        · intro b h1 h2
          rw [upd_ne h2]
          exact g3 b h1 h2
      · refine ⟨_, rfl, _, rfl, t, _, rfl, cnt, 104729, c + 1, rfl, rfl, .inl ⟨by decide, by decide⟩, _, _, rfl, rfl, _, _, rfl, rfl, by show (0 : Int) < 4294967291; decide, ?_⟩
        have x0 : 0 ≤ (rest + 104729 * (c + 1)) % 4294967291 := Int.emod_nonneg _ (by decide)
        have x1 : (rest + 104729 * (c + 1)) % 4294967291 < 4294967291 := Int.emod_lt_of_pos _ (by decide)
        have x2 : ((rest + 104729 * (c + 1)) % 4294967291).natAbs < 2 ^ 64 := by omega
        refine ⟨_, rfl, (rest + 104729 * (c + 1)) % 4294967291, 5, rfl, rfl, ⟨by decide, by decide, x2⟩, _, _, rfl, rfl, by show (0 : Int) < 4294967279; decide, ?_⟩
        refine ⟨_, rfl, _, 64, rfl, rfl, ⟨by decide, by decide⟩, _, _, rfl, rfl, .inr ⟨by decide, by decide⟩, _, rfl, _, _, rfl, rfl, _, _, rfl, rfl, by show (0 : Int) < 4294967231; decide, _, _, rfl, rfl, ⟨by decide, by decide⟩, _, rfl, _, _, rfl, rfl, m0, ?_⟩
        exact fin _ vs H2 (Int.emod_nonneg _ (by omega)) (Int.emod_lt_of_pos _ m0) hv g1 g2 g3
    refine ⟨_, rfl, t, _, rfl, rst, r, rfl, .inl ⟨vs, .inl g2⟩, _, rfl, ?_⟩
    have key : ∀ z : Int, ∃ o, DGet H2 r (.int at_) o ∧ (∃ n, o.getD (V.int z) = .int n) := fun z => by
      refine ⟨valV vs (.inl at_ : Key), .inl ⟨vs, .inl at_, .inl g2, rfl, rfl⟩, ?_⟩
      cases q : valV vs (.inl at_ : Key) with
      | none => exact ⟨z, rfl⟩
      | some v =>
        obtain ⟨n, rfl⟩ := good_val hv q
        exact ⟨n, rfl⟩
    refine ⟨_, rfl, !ns.isEmpty, .inl ⟨_, hs2.sq, by rw [emp]⟩, ?_⟩
    refine ite2 (fun hn => ?_) (fun hn => ?_)
    · have nn : ns ≠ [] := fun z => by rw [z] at hn; cases hn
      have hlt := a2 nn
      obtain ⟨j, ej⟩ : ∃ j : Nat, at_ = (j : Int) := ⟨at_.toNat, by omega⟩
      have hj : j < ns.length := by omega
      have ga : atI (ns.map V.int) at_ = some (.int ns[j]) := by
        rw [ej]
        refine atI_nat ?_
        rw [List.getElem?_map, List.getElem?_eq_getElem hj]
        rfl
      refine ⟨_, rfl, _, rfl, a, _, at_, _, rfl, rfl, hs2.sq, ga, ?_⟩
      obtain ⟨o, d1, n, d2⟩ := key ns[j]
      refine ⟨o, d1, ?_⟩
      show _
      rw [d2]
      exact rest n
    · obtain ⟨o, d1, n, d2⟩ := key 0
      refine ⟨o, d1, ?_⟩
      show _
      rw [d2]
      exact rest n
  -- at = ..
  refine ⟨_, rfl, !ns.isEmpty, .inl ⟨_, hs2.sq, by rw [emp]⟩, ?_⟩
  refine ite2 (fun hn => ?_) (fun hn => ?_)
  · have nn : 0 < ns.length := by
      cases ns with
      | nil => cases hn
      | cons x y => exact Nat.succ_pos _
    refine ⟨_, rfl, t, _, rfl, cnt, _, rfl, _, _, rfl, .inl ⟨_, hs2.sq, rfl⟩, _, _, rfl, rfl, ?_, ?_⟩
    · show (0 : Int) < ((ns.map V.int).length : Int)
      rw [List.length_map]
      omega
    · rw [List.length_map]
      have h0 : 0 ≤ (c + 1) % (ns.length : Int) := Int.emod_nonneg _ (by omega)
      have h1 : (c + 1) % (ns.length : Int) < ns.length := Int.emod_lt_of_pos _ (by omega)
      exact step _ h0 (by omega) fun _ => h1
  · refine step 0 (by decide) (by decide) fun nn => ?_
    have : 0 < ns.length := by
      cases ns with
      | nil => exact absurd rfl nn
      | cons x y => exact Nat.succ_pos _
    omega
section
variable [Nm] {P : Program} {w : World} {K : PySem.W.Frag} {mg : Str → Option Value} {base : Heap}
theorem cal_draw {st : Stmt} (h : FnT K mg "_law_draw" st) (S : FnScope ["script", "town", "many", "at", "rest", "number"] ["script", "town", "many"] (defScope st)) (hb : Bn "_law_draw" st ["script", "town", "many"])
    (hbody : ∀ (f : Addr) (cdv : Value) (A : Around) (outer : List PySem.Env) (s : Shared) (H : Hp) (E : XK), Room 0 (A.deeper (PyProof.Rows.envOfC "_law_draw" (defScope st) s.heap.objs.size f cdv)) → PSs (cxOf (L2.CX P w) P w K mg base ["script", "town", "many", "at", "rest", "number"] "_law_draw" (defScope st) f cdv A outer s H E).nox (defBody st) (tDraw K)) :
    Cal (obT P w mg) P w K mg base "_law_draw" 1 ["script", "town", "many"] m__law_draw := by
  obtain ⟨f, fd, hm, hF⟩ := h
  refine ⟨f, fd, hm, hF.kp, hF.bindsN hb, ?_, fun_lk hF⟩
  refine hF.ok S (fun vs H Q E h => ?_) (fun cdv A outer s H vs Q E hr h => ?_)
  · obtain ⟨P, ds, Qd, Ed, _, h1, h2, _⟩ := h
    rw [h1.length, h2]
  · obtain ⟨P', ds, Qd, Ed, hd, h1, h2, hf, hQ, hE⟩ := h
    refine ⟨_, PSs.nox (pss_open (pss_shut (hbody f cdv A outer s H E hr))), ?_⟩
    cases h1 with
    | nil => cases h2
    | cons a1 h1 =>
      cases h1 with
      | nil => cases h2
      | cons a2 h1 =>
        cases h1 with
        | nil => cases h2
        | cons a3 h1 =>
          cases h1 with
          | cons _ _ => cases h2
          | nil =>
            cases a3 with
            | int m =>
              obtain ⟨rfl, rfl, m0, m1, q⟩ := hf
              obtain ⟨a, ns, rfl, hs, hl⟩ := of_script a1
              obtain ⟨t, r, rfl, ne, e1, e2⟩ := of_town a2
              exact draw_reads hs hl ne e1 e2 m0 m1 fun y H' y0 y1 sm => hQ _ _ H' (.of sm) (.int y) (q y y0 y1)
            | _ => exact hf.elim
def tBegun : TS := tRet (tDisp [(tStr "count", tInt 0), (tStr "rests", tDNewK)])
theorem cal_begun {st : Stmt} (h : FnT K mg "_law_begun" st) (S : FnScope [] [] (defScope st)) (hb : Bn "_law_begun" st [])
    (hbody : ∀ (f : Addr) (cdv : Value) (A : Around) (outer : List PySem.Env) (s : Shared) (H : Hp) (E : XK), Room 0 (A.deeper (PyProof.Rows.envOfC "_law_begun" (defScope st) s.heap.objs.size f cdv)) → PSs (cxOf (L2.CX P w) P w K mg base [] "_law_begun" (defScope st) f cdv A outer s H E).nox (defBody st) tBegun) :
    Cal (obT P w mg) P w K mg base "_law_begun" 1 [] m__law_begun := by
  obtain ⟨f, fd, hm, hF⟩ := h
  refine ⟨f, fd, hm, hF.kp, hF.bindsN hb, ?_, fun_lk hF⟩
  refine hF.ok S (fun vs H Q E h => ?_) (fun cdv A outer s H vs Q E hr h => ?_)
  · obtain ⟨P, ds, Qd, Ed, _, h1, h2, _⟩ := h
    rw [h1.length, h2]
  · obtain ⟨P', ds, Qd, Ed, hd, h1, h2, hf, hQ, hE⟩ := h
    refine ⟨_, PSs.nox (pss_shut (hbody f cdv A outer s H E hr)), ?_⟩
    intro p np r nr
    have nrp : p ≠ r := fun z => by
      rw [z, upd_same] at nr
      cases nr
    have nr0 : H r = none := by
      rw [upd_ne (Ne.symm nrp)] at nr
      exact nr
    refine ⟨by rw [upd_ne nrp, upd_same], [(.inr "count", .int 0), (.inr "rests", .ref r)], rfl, by show 2 ≤ 15; decide, p, r, nrp, ⟨0, Int.le_refl 0, ?_⟩, ⟨[], good_nil, ?_⟩, ?_⟩
    · rw [upd_same]
      have h : ¬ ((Sum.inr ("count" : Str) : Key) = Sum.inr ("rests" : Str)) := fun e => nc (by injection e)
      have e : mergeK [] [((.inr "count" : Key), V.int 0), ((.inr "rests" : Key), V.ref r)] = townKvs 0 r := by
        show putK (putK [] (.inr "count" : Key) (.int 0)) (.inr "rests" : Key) (.ref r) = townKvs 0 r
        simp [putK, townKvs, h]
      rw [e]
    · rw [upd_ne (Ne.symm nrp), upd_same]
    · refine hQ _ _ _ (.of fun b o e => ?_) (dv_town ⟨p, r, rfl, nrp, ?_, upd_same⟩) hf.2
      · have h1 : b ≠ p := ne_of_none e np
        have h2 : b ≠ r := ne_of_none e nr0
        rw [upd_ne h2, upd_ne h1, upd_ne h1, upd_ne h2, upd_ne h1]
        exact e
      · rw [upd_ne nrp, upd_same]
        rfl
end
end DL

namespace DL
open PySem PySem.Spec L2
section
variable [Nm] {O : Ob} {X : Cx} {E : XK}
/-! ### list(range(n)), tuple(range(n)) -/
def rgLD : D → WD (List D)
  | .int n => fun Q _ => (-(2 ^ 62) ≤ n ∧ n ≤ 16777216) ∧ Q (upTo 0 n.toNat)
  | _ => fun _ _ => False
def rgTD : D → WD D := fun d Q Ed => rgLD d (fun l => Q (.tuple l)) Ed
def eUnF (g : D → WD (List D)) (f : Rho → WD D) : Rho → WD (List D) := fun ρ Q Ed => f ρ (fun d => g d Q Ed) Ed
theorem dv_upTo {K : PySem.W.Frag} {H : Hp} {P : Addr → Prop} (n : Int) : DvAll O K H P (rgV 0 n) (upTo 0 n.toNat) := by
  unfold rgV upTo
  rw [Int.sub_zero]
  generalize List.range n.toNat = l
  induction l with
  | nil => exact .nil
  | cons x r ih => exact .cons (.int _) ih
theorem df_listRg {a : Expr} {fa : Rho → WD D} {p p2 pos pos2 : Pos} (hc : X.calm = true) (hg : Gl X "list") (hm : X.mg "list" = none) (hg2 : Gl X "range") (hm2 : X.mg "range" = none) (ha : DE O X E a fa) (na : starEach [a] X.env = (false, eval a X.env) :: starEach [] X.env := by rfl)
    (nb : starEach [.Call (.Name "range" p2) [a] [] pos2] X.env = (false, eval (.Call (.Name "range" p2) [a] [] pos2) X.env) :: starEach [] X.env := by rfl) : DF O X E (.Call (.Name "list" p) [.Call (.Name "range" p2) [a] [] pos2] [] pos) (eUnF rgLD fa) := by
  obtain ⟨ta, a1, a2⟩ := ha
  refine ⟨_, pe_listRg hc hg hm (prg_1 hg2 hm2 a1 na) nb, fun P ρ σ H Qd Ed Q hd hr hf hQ hE => a2 P ρ σ H _ Ed _ hd hr hf (fun v d H1 s1 h q => ?_) hE⟩
  cases h with
  | int n =>
    obtain ⟨⟨q1, q2⟩, q3⟩ := q
    exact ⟨n, rfl, ⟨by omega, by omega, q1, by omega, by omega⟩, fun l nl => hQ _ _ _ _ (s1.trans (same_new nl)) (s1.free (nn nl)) upd_same (dv_upTo n) q3⟩
  | _ => exact q.elim
theorem de_tupRg {a : Expr} {fa : Rho → WD D} {p p2 pos pos2 : Pos} (hc : X.calm = true) (hg : Gl X "tuple") (hm : X.mg "tuple" = none) (hg2 : Gl X "range") (hm2 : X.mg "range" = none) (ha : DE O X E a fa) (na : starEach [a] X.env = (false, eval a X.env) :: starEach [] X.env := by rfl)
    (nb : starEach [.Call (.Name "range" p2) [a] [] pos2] X.env = (false, eval (.Call (.Name "range" p2) [a] [] pos2) X.env) :: starEach [] X.env := by rfl) : DE O X E (.Call (.Name "tuple" p) [.Call (.Name "range" p2) [a] [] pos2] [] pos) (eUn1 rgTD fa) := by
  obtain ⟨ta, a1, a2⟩ := ha
  refine ⟨_, pe_tupRgF hc hg hm (prg_1 hg2 hm2 a1 na) nb, fun P ρ σ H Qd Ed Q hd hr hf hQ hE => a2 P ρ σ H _ Ed _ hd hr hf (fun v d H1 s1 h q => ?_) hE⟩
  cases h with
  | int n =>
    obtain ⟨⟨q1, q2⟩, q3⟩ := q
    exact ⟨n, rfl, ⟨by omega, by omega, q1, by omega, by omega⟩, fun l o nl no => hQ _ _ _ (s1.trans (same_new nl)) (.tup (.inl ⟨o, no, upd_same⟩) (dv_upTo n)) q3⟩
  | _ => exact q.elim
end
/-! ### the law's own def -/
/-- the script's list, seen as one that is never written -/
def tSee (K : PySem.W.Frag) (t : TS) : TS := fun D σ H => ∃ (a : Addr) (xs : List V), SqL K H a xs ∧ ∀ H', SqS K H' a xs → (H' = H ∨ ∃ o ys, H a = some (.lst ys) ∧ H' = upd H a (.frz o (.lst ys))) → t D σ H'
theorem pss_see [Nm] {X : Cx} {sts : List Stmt} {t : TS} (h : PSs X sts t) : PSs X sts (tSee X.K t) := by
  refine ⟨fun pins s σ H D I ⟨a, xs, hs, q⟩ => ?_⟩
  rcases hs with (e | ⟨o, e⟩) | e
  · obtain ⟨z, its, n, r, g⟩ := I.hok a _ e
    have I1 := Inv.view (o := .frz { cls := .type "list", data := .seq its.toArray n } (.lst xs)) I (by rw [e]; exact True.intro) ⟨_, g⟩ ⟨g, z, its, n, r, g⟩
    exact h.run pins s σ _ D I1 (q _ (.inl ⟨_, upd_same⟩) (.inr ⟨_, _, e, rfl⟩))
  · exact h.run pins s σ _ D I (q _ (.inl ⟨o, e⟩) (.inl rfl))
  · exact h.run pins s σ _ D I (q _ (.inr e) (.inl rfl))
def spLaw [Nm] (K : PySem.W.Frag) : Sp := fun vs H Q _ => ∃ (a : Addr) (ns : List Int), vs = [.ref a] ∧ ns.length ≤ 63 ∧ SqL K H a (ns.map V.int) ∧ TabOk H ∧ ∀ H', Q (.bl true) H'
theorem fn_no {n : Nat} {F : FS} {ds : List D} (h : fn0 n F ds (fun d => d = .bool true) (fun _ => False)) : F (startE n ds) { nx := fun _ => False, rt := fun d => d = .bool true, ex := fun _ => False } := by
  have e : (fun _ : Env => (PyData.none = PyData.bool true)) = fun _ => False := by
    funext _
    exact propext (Iff.intro (fun z => by cases z) (fun z => False.elim z))
  have h' : F (startE n ds) { nx := fun _ => PyData.none = PyData.bool true, rt := fun d => d = .bool true, ex := fun _ => False } := h
  rw [e] at h'
  exact h'
theorem law_fn [Nm] {P : Program} {w : World} {K : PySem.W.Frag} {mg : Str → Option Value} {base : Heap} {x : Str} {st : Stmt} {N : List Str} {y : Str} {k : Nat} {F : FS} {f : Addr} {fd : FuncData} (hm : mg x = some (.ref f)) (hF : FunD K x x (defArgs st) (defBody st) (defScope st) [] [] f fd) (S : FnScope N [y] (defScope st))
    (hbody : ∀ (cdv : Value) (A : Around) (outer : List PySem.Env) (s : Shared) (H : Hp) (E : XK), Room k (A.deeper (PyProof.Rows.envOfC x (defScope st) s.heap.objs.size f cdv)) → (TabF K mg base x → TabC mg base x cdv) → Air (cxOf (L2.CX P w) P w K mg base N x (defScope st) f cdv A outer s H E).nox E0 → DSs (obT P w mg) (cxOf (L2.CX P w) P w K mg base N x (defScope st) f cdv A outer s H E).nox E0 (defBody st) F)
    (hl : fn0 N.length F [sD] (fun d => d = .bool true) (fun _ => False)) : FnOk P w K mg base (L2.CX P w) (k + 1) f fd [y] (spLaw K) := by
  refine okC hF S (fun vs H Q E h => ?_) (fun oc od osl cdv A outer s H vs Q E lk ec hr h => ?_)
  · obtain ⟨a, ns, rfl, _⟩ := h
    rfl
  · obtain ⟨a, ns, rfl, l, hs, ht, hQ⟩ := h
    obtain ⟨t, t1, t2⟩ := hbody cdv A outer s H E hr (fun tb => let ⟨c, Q1, e1, tB, m1⟩ := tb f oc od fd osl hm lk; ⟨c, Q1, ec.symm.trans e1, tB, m1⟩) Air.nox
    refine ⟨_, pss_see (PSs.nox t1), a, _, hs, fun H' q z => ?_⟩
    have ht' : TabOk H' := by
      rcases z with z | ⟨o, ys, e, z⟩
      · rw [z]
        exact ht
      · rw [z]
        exact ht.upd e mb_lst
    have hd : Dom H' (fun _ => False) := ⟨fun _ z => z.elim, ht'⟩
    have h1 : DvAll (obT P w mg) K H' (fun _ => False) [.ref a] [sD] := .cons (dv_script ⟨a, ns, rfl, q, l⟩) .nil
    refine t2 H' (fun _ => False) _ _ H' _ { nx := fun _ => False, rt := fun d => d = .bool true, ex := fun _ => False } _ hd (start_rg h1) (fn_no hl) ⟨fun Γ σ H' own r q => q.elim, fun v d H' s h q => ?_, fun _ _ _ _ _ q => q.elim, fun _ _ _ _ _ q => q.elim, fun _ _ _ _ _ z => z.elim⟩
    subst q
    cases h
    exact hQ H'
end DL

namespace DL
open PySem PySem.Spec L2
/-- no tables: for texts in which no code stands -/
instance (priority := 1) nmNone : Nm := ⟨[], fun _ h => nomatch h⟩
/-! ### the layer's rules, for rewriting -/
theorem strOk_of (s : String) : PyData.strOk (Str.ofString s) = true := by
  unfold PyData.strOk
  rw [Str.ofString_eq_toList]
  simp only [List.all_toArray, List.all_map, List.all_eq_true]
  intro c _
  have := c.valid
  simp only [Function.comp, decide_eq_true_eq]
  unfold UInt32.isValidChar Nat.isValidChar at this
  show c.val.toNat < 1114112
  rcases this with h | h <;> omega
theorem ofString_inj {a b : String} (h : Str.ofString a = Str.ofString b) : a = b := by
  rw [Str.ofString_eq_toList, Str.ofString_eq_toList] at h
  injection h with h
  have h2 : a.toList.map Char.toNat = b.toList.map Char.toNat := by simpa using congrArg Array.toList h
  have h3 : a.toList = b.toList := by
    refine List.map_inj_right (f := Char.toNat) (fun x y e => ?_) |>.mp h2
    exact Char.ext (UInt32.toNat_inj.mp e)
  exact String.toList_inj.mp h3
theorem str_beq (a b : String) : (Str.ofString a == Str.ofString b) = decide (a = b) := by
  by_cases h : a = b
  · subst h
    simp
  · rw [decide_eq_false h]
    exact beq_eq_false_iff_ne.mpr fun e => h (ofString_inj e)
theorem zbJ (i : Int) : SeqAt.shaped (.int i) = true := rfl
theorem zbK (b : Bool) : SeqAt.shaped (.bool b) = true := rfl
theorem zbL : SeqAt.shaped .none = true := rfl
theorem zbM (s : String) : SeqAt.shaped (.str (Str.ofString s)) = true := by
  unfold SeqAt.shaped
  simp [PyData.canLay0, PyData.depth, strOk_of]
theorem zbN (i j : Int) : PyData.eqv (.int i) (.int j) = decide (i = j) := by
  show (i == j) = _
  by_cases h : i = j
  · subst h
    simp
  · simp [h]
theorem zbO (a b : String) : PyData.eqv (.str (Str.ofString a)) (.str (Str.ofString b)) = decide (a = b) := by
  show (Str.ofString a == Str.ofString b) = _
  rw [str_beq]
theorem zbP (a b : Bool) : PyData.eqv (.bool a) (.bool b) = (a == b) := rfl
/-! ### named continuations -/
def andK (A : Prop) (Q : D → Prop) : D → Prop
  | .bool true => A
  | .bool false => Q (.bool false)
  | _ => False
def orK (A : Prop) (Q : D → Prop) : D → Prop
  | .bool true => Q (.bool true)
  | .bool false => A
  | _ => False
def notK (Q : D → Prop) : D → Prop
  | .bool b => Q (.bool (!b))
  | _ => False
def truK (Q : Bool → Prop) (d : D) : Prop := match truD d with
  | some b => Q b
  | none => False
def varK (Q : D → Prop) : Option (Option D) → Prop
  | some (some d) => Q d
  | _ => False
def parK (Q : D → D → Prop) : List D → Prop
  | [d, e] => Q d e
  | _ => False
section
variable {f g : Rho → WD D} {ρ : Rho} {Q : D → Prop} {E : Str → Prop} {QB : Bool → Prop} {QL : List D → Prop}
theorem zay : eAnd f g ρ Q E = f ρ (andK (g ρ Q E) Q) E := propext Iff.rfl
theorem zaA : eOr f g ρ Q E = f ρ (orK (g ρ Q E) Q) E := propext Iff.rfl
theorem zaC : eNot f ρ Q E = f ρ (notK Q) E := propext Iff.rfl
theorem zaM : tTru f ρ QB E = f ρ (truK QB) E := propext Iff.rfl
theorem zaq (i : Nat) : eVar i ρ Q E = varK Q ρ[i]? := by
  unfold eVar varK
  generalize ρ[i]? = o
  match o with
  | none => rfl
  | some none => rfl
  | some (some d) => rfl
theorem zaz (A : Prop) (b : Bool) : andK A Q (.bool b) = (if b = true then A else Q (.bool false)) := by cases b <;> simp [andK]
theorem zaB (A : Prop) (b : Bool) : orK A Q (.bool b) = (if b = true then Q (.bool true) else A) := by cases b <;> simp [orK]
theorem zaD (b : Bool) : notK Q (.bool b) = Q (.bool (!b)) := propext Iff.rfl
theorem zar (d : D) : varK Q (some (some d)) = Q d := propext Iff.rfl
theorem zaL (b : Bool) : isB QB (.bool b) = QB b := propext Iff.rfl
theorem zaN (b : Bool) : truK QB (.bool b) = QB b := propext Iff.rfl
theorem zaO (xs : List D) : truK QB (.tuple xs) = QB (!xs.isEmpty) := propext Iff.rfl
theorem zaP (xs : List D) : truK QB (.list xs) = QB (!xs.isEmpty) := propext Iff.rfl
theorem zam (i j : Nat) (fa : Rho → WD (List D)) (Γ : Env) (k : KS) : sPar i j fa Γ k = fa (clean Γ) (parK fun d e => k.nx ((Γ.set i (some (.val d))).set j (some (.val e)))) k.ex := propext Iff.rfl
theorem zan (Q : D → D → Prop) (d e : D) : parK Q [d, e] = Q d e := propext Iff.rfl
theorem zbo (h : Int → Int → D) (i j : Int) : int0 h (.int i) (.int j) Q E = Q (h i j) := propext Iff.rfl
theorem zbp (C : Int → Int → Prop) (h : Int → Int → D) (i j : Int) : intD C h (.int i) (.int j) Q E = (C i j ∧ Q (h i j)) := propext Iff.rfl
theorem zbb (i j : Int) : addD (.int i) (.int j) Q E = Q (.int (i + j)) := propext Iff.rfl
theorem zbc (xs ys : List D) : addD (.tuple xs) (.tuple ys) Q E = (xs.length + ys.length ≤ 16777216 ∧ Q (.tuple (xs ++ ys))) := propext Iff.rfl
theorem zbd (xs ys : List D) : addD (.list xs) (.list ys) Q E = (xs.length + ys.length ≤ 16777216 ∧ Q (.list (xs ++ ys))) := propext Iff.rfl
theorem zbf (i j : Int) : mulD (.int i) (.int j) Q E = (CMul i j ∧ Q (.int (i * j))) := propext Iff.rfl
theorem zbg (xs : List D) (k : Int) : mulD (.tuple xs) (.int k) Q E = (xs ≠ [] ∧ 2 ≤ k ∧ k ≤ 1000 ∧ xs.length ≤ 1000 ∧ Q (.tuple (List.replicate k.toNat xs).flatten)) := propext Iff.rfl
theorem zbh (i : Int) : negD (.int i) Q E = Q (.int (-i)) := propext Iff.rfl
theorem zaZ (xs : List D) (i : Int) : idxD (.tuple xs) (.int i) Q E = orStuck (atI xs i) Q := propext Iff.rfl
theorem zba (xs : List D) (i : Int) : idxD (.list xs) (.int i) Q E = orStuck (atI xs i) Q := propext Iff.rfl
theorem zaX (neg : Bool) (d : D) (ds : List D) : inD neg d (.tuple ds) Q E = (SeqAt.shaped d = true ∧ SeqAt.shaped (.tuple ds) = true ∧ Q (.bool ((ds.any fun z => PyData.eqv z d) != neg))) := by cases d <;> rfl
theorem zaY (neg : Bool) (d : D) (ds : List D) : inD neg d (.list ds) Q E = (SeqAt.shaped d = true ∧ SeqAt.shaped (.list ds) = true ∧ Q (.bool ((ds.any fun z => PyData.eqv z d) != neg))) := by cases d <;> rfl
theorem zbq (xs : List D) : lenD (.tuple xs) Q E = Q (.int xs.length) := propext Iff.rfl
theorem zbr (xs : List D) : lenD (.list xs) Q E = Q (.int xs.length) := propext Iff.rfl
theorem zbs (xs : List D) : tupleD (.list xs) Q E = Q (.tuple xs) := propext Iff.rfl
theorem zbt (xs : List D) : tupleD (.tuple xs) Q E = Q (.tuple xs) := propext Iff.rfl
theorem zaU (h : D → WD D) (d : D) : one1 h [d] Q E = h d Q E := propext Iff.rfl
theorem zaV (h : D → WD (List D)) (d : D) : one1F h [d] QL E = h d QL E := propext Iff.rfl
theorem zbu {α : Type} (a : α) (R : α → Prop) : orStuck (some a) R = R a := propext Iff.rfl
theorem zbv (xs : List D) : itemsD (.tuple xs) QL E = QL xs := propext Iff.rfl
theorem zbw (xs : List D) : itemsD (.list xs) QL E = QL xs := propext Iff.rfl
theorem zby (n : Int) : rng1 [.int n] QL E = (n < 2 ^ 62 ∧ -(2 ^ 62) ≤ n ∧ QL (upTo 0 n.toNat)) := propext Iff.rfl
theorem zcy (n : Int) : rgLD (.int n) QL E = ((-(2 ^ 62) ≤ n ∧ n ≤ 16777216) ∧ QL (upTo 0 n.toNat)) := propext Iff.rfl
theorem zcz (ds : List D) : sortD (.tuple ds) QL E = (srtOk ds ∧ QL (sortL ds)) := propext Iff.rfl
theorem zcA (ds : List D) : sortD (.list ds) QL E = (srtOk ds ∧ QL (sortL ds)) := propext Iff.rfl
theorem zbz {α : Type} (a : α) (r : List α) : atI (a :: r) 0 = some a := by simp [atI, ixN]
theorem zbA {α : Type} (a b : α) (r : List α) : atI (a :: b :: r) 1 = some b := by
  unfold atI ixN
  rw [if_pos (by omega), if_pos (by simp only [List.length_cons]; omega)]
  rfl
theorem zbB {α : Type} (a b c : α) (r : List α) : atI (a :: b :: c :: r) 2 = some c := by
  unfold atI ixN
  rw [if_pos (by omega), if_pos (by simp only [List.length_cons]; omega)]
  rfl
theorem zbC {α : Type} (a b c d : α) (r : List α) : atI (a :: b :: c :: d :: r) 3 = some d := by
  unfold atI ixN
  rw [if_pos (by omega), if_pos (by simp only [List.length_cons]; omega)]
  rfl
theorem zbD {α : Type} (a b c d e : α) (r : List α) : atI (a :: b :: c :: d :: e :: r) 4 = some e := by
  unfold atI ixN
  rw [if_pos (by omega), if_pos (by simp only [List.length_cons]; omega)]
  rfl
theorem zbE {α : Type} (a b c d e f : α) (r : List α) : atI (a :: b :: c :: d :: e :: f :: r) 5 = some f := by
  unfold atI ixN
  rw [if_pos (by omega), if_pos (by simp only [List.length_cons]; omega)]
  rfl
/-- x[i] by a place -/
theorem atI_nat {α : Type} {xs : List α} {i : Int} (h0 : 0 ≤ i) (h1 : i < xs.length) : atI xs i = some (xs[i.toNat]'(by omega)) := by
  unfold atI ixN
  rw [if_pos h0]
  simp only [h1, if_true, Option.bind_some]
  exact List.getElem?_eq_getElem (by omega)
theorem zbF (i : Int) : isiD "int" (.int i) Q E = Q (.bool true) := propext Iff.rfl
theorem zbG (i : Int) : isiD "bool" (.int i) Q E = Q (.bool false) := propext Iff.rfl
theorem zbH (x : Str) : isiD "str" (.str x) Q E = Q (.bool true) := propext Iff.rfl
theorem zbI (xs : List D) : isiD "tuple" (.tuple xs) Q E = Q (.bool true) := propext Iff.rfl
/-! ### the combinators, as equations of propositions -/
section
variable {F G : FS} {Γ : Env} {k : KS} {fb fc : Rho → WD D} {fa : Rho → WD (List D)} {ga gb : Rho → WD Bool} {i : Nat} {op op' : D → D → WD D} {c : D → WD D} {cF : D → WD (List D)} {cs : List D → WD D} {csF : List D → WD (List D)} {fd : Rho → WD (List (Key × D))} {n : Nat} {ds : List D}
theorem zaa : fn0 n F ds Q E = F (startE n ds) { nx := fun _ => Q .none, rt := Q, ex := E } := propext Iff.rfl
theorem zab : sSeq F G Γ k = F Γ { k with nx := fun Γ' => G Γ' k } := propext Iff.rfl
theorem zac : sIf ga F G Γ k = ga (full Γ) (fun b => if b = true then F Γ k else G Γ k) k.ex := propext Iff.rfl
theorem zad : sRet f Γ k = f (full Γ) k.rt k.ex := propext Iff.rfl
theorem zae : sRetN Γ k = k.rt .none := propext Iff.rfl
theorem zaf : sSet i f Γ k = f (clean Γ) (fun d => k.nx (Γ.set i (some (.val d)))) k.ex := propext Iff.rfl
theorem zag : sSetP i f Γ k = f (full Γ) (fun d => pureD d = true ∧ k.nx (Γ.set i (some (.val d)))) k.ex := propext Iff.rfl
theorem zah : sSetF i fa Γ k = fa (clean Γ) (fun xs => k.nx (Γ.set i (some (.own (.lst xs))))) k.ex := propext Iff.rfl
theorem zai : sSetFP i fa Γ k = fa (full Γ) (fun xs => pureD.pureAll xs = true ∧ k.nx (Γ.set i (some (.own (.lst xs))))) k.ex := propext Iff.rfl
theorem zaj : sNext Γ k = k.nx Γ := propext Iff.rfl
theorem zak : sNever Γ k = False := propext Iff.rfl
theorem zal : sDrop f Γ k = f (full Γ) (fun _ => k.nx Γ) k.ex := propext Iff.rfl
theorem zao : eCb cs fa ρ Q E = fa ρ (fun ds => cs ds Q E) E := propext Iff.rfl
theorem zap : eCbF csF fa ρ QL E = fa ρ (fun ds => csF ds QL E) E := propext Iff.rfl
theorem zas (d : D) : eC d ρ Q E = Q d := propext Iff.rfl
theorem zat : eOp op f g ρ Q E = f ρ (fun x => g ρ (fun y => op x y Q E) E) E := propext Iff.rfl
theorem zau : eIf ga f g ρ Q E = ga ρ (fun b => if b = true then f ρ Q E else g ρ Q E) E := propext Iff.rfl
theorem zav : eUn c f ρ Q E = f ρ (fun d => c d Q E) E := propext Iff.rfl
theorem zaw : eUn1 c f ρ Q E = f ρ (fun d => c d Q E) E := propext Iff.rfl
theorem zax : eUnF cF f ρ QL E = f ρ (fun d => cF d QL E) E := propext Iff.rfl
theorem zaE : eTup fa ρ Q E = fa ρ (fun ds => ds.length ≤ 16777216 ∧ Q (.tuple ds)) E := propext Iff.rfl
theorem zaF : eLst fa ρ QL E = fa ρ (fun ds => ds.length ≤ 16777216 ∧ QL ds) E := propext Iff.rfl
theorem zaG : eOfF fa ρ Q E = fa ρ (fun ds => Q (.list ds)) E := propext Iff.rfl
theorem zaH : eChain op op' f g fc ρ Q E = f ρ (fun x => g ρ (fun y => op x y (isB fun k => if k = true then fc ρ (fun z => op' y z Q E) E else Q (.bool false)) E) E) E := propext Iff.rfl
theorem zaJ : aNil ρ QL E = QL [] := propext Iff.rfl
theorem zaI : aCons f fa ρ QL E = f ρ (fun d => fa ρ (fun ds => QL (d :: ds)) E) E := propext Iff.rfl
theorem zaK : tB1 f ρ QB E = f ρ (isB QB) E := propext Iff.rfl
theorem zaQ : tAndD ga gb ρ QB E = ga ρ (fun b => if b = true then gb ρ QB E else QB false) E := propext Iff.rfl
theorem zaR : tOrD ga gb ρ QB E = ga ρ (fun b => if b = true then QB true else gb ρ QB E) E := propext Iff.rfl
theorem zaS : tNotD ga ρ QB E = ga ρ (fun b => QB (!b)) E := propext Iff.rfl
theorem zaT : tYesD ρ QB E = QB true := propext Iff.rfl
theorem zaW (neg : Bool) (d e : D) : eqD neg d e Q E = (SeqAt.shaped d = true ∧ SeqAt.shaped e = true ∧ Q (.bool (PyData.eqv d e != neg))) := propext Iff.rfl
theorem zbe (i j : Int) : subD (.int i) (.int j) Q E = Q (.int (i - j)) := propext Iff.rfl
theorem zbi (i j : Int) : fdivD (.int i) (.int j) Q E = (CDiv i j ∧ Q (.int (i / j))) := propext Iff.rfl
theorem zbj (i j : Int) : modD (.int i) (.int j) Q E = (0 < j ∧ Q (.int (i % j))) := propext Iff.rfl
theorem zbk (i j : Int) : ltD (.int i) (.int j) Q E = Q (.bool (decide (i < j))) := propext Iff.rfl
theorem zbl (i j : Int) : leD (.int i) (.int j) Q E = Q (.bool (decide (i ≤ j))) := propext Iff.rfl
theorem zbm (i j : Int) : gtD (.int i) (.int j) Q E = Q (.bool (decide (j < i))) := propext Iff.rfl
theorem zbn (i j : Int) : geD (.int i) (.int j) Q E = Q (.bool (decide (j ≤ i))) := propext Iff.rfl
theorem zbx : sItems f ρ QL E = f ρ (fun d => itemsD d QL E) E := propext Iff.rfl
theorem zbQ : eOfD fd ρ Q E = fd ρ (fun ds => Q (dictE ds)) E := propext Iff.rfl
theorem zbR (QK : List (Key × D) → Prop) : dDisp fd ρ QK E = fd ρ (fun ds => QK (mergeG [] ds)) E := propext Iff.rfl
theorem zbT (QK : List (Key × D) → Prop) : pNil ρ QK E = QK [] := propext Iff.rfl
theorem zbS (QK : List (Key × D) → Prop) : pCons f g fd ρ QK E = f ρ (fun k => orStuck (keyOf k) fun k => g ρ (fun d => fd ρ (fun ds => QK ((k, d) :: ds)) E) E) E := propext Iff.rfl
theorem zbU : sSetD i fd Γ k = fd (clean Γ) (fun ds => k.nx (Γ.set i (some (.own (.dct ds))))) k.ex := propext Iff.rfl
theorem zbV : sUpd i fd Γ k = ownDAt Γ i fun ds => fd (clean Γ) (fun es => ds.length + es.length ≤ 1000000 ∧ k.nx (Γ.set i (some (.own (.dct (mergeG ds es)))))) k.ex := propext Iff.rfl
theorem zco (T : Tg) (vs : List Nat) (x : D) (kk : Option D → Prop) : lcStep T vs ga f ρ x kk = orStuck (bindT T x) fun l => ga (setAll (wipeR ρ vs) l) (fun b => if b = true then f (setAll (wipeR ρ vs) l) (fun y => kk (some y)) (fun _ => False) else kk none) (fun _ => False) := propext Iff.rfl
theorem zcB (T : Tg) (vs : List Nat) : eLc fa T vs ga f ρ QL E = fa ρ (fun xs => xs.length ≤ 1000000 ∧ lcLoop (lcStep T vs ga f ρ) xs [] QL) E := propext Iff.rfl
theorem zcC (T : Tg) : sFor fa T F Γ k = fa (clean Γ) (fun xs => forLoop T F k xs Γ) k.ex := propext Iff.rfl
end
/-! ### comprehensions -/
theorem lcLoop_spec {step : D → (Option D → Prop) → Prop} (h : D → Option D) : ∀ {xs acc : List D} {Q : List D → Prop}, (∀ x ∈ xs, ∀ k : Option D → Prop, k (h x) → step x k) → Q (acc ++ xs.filterMap h) → lcLoop step xs acc Q
  | [], acc, Q, _, q => by simpa [lcLoop] using q
  | x :: xs, acc, Q, hs, q => by
    unfold lcLoop
    refine hs x List.mem_cons_self _ ?_
    refine lcLoop_spec h (fun y hy => hs y (List.mem_cons_of_mem _ hy)) ?_
    cases e : h x with
    | none => simpa [List.filterMap_cons, e] using q
    | some y => simpa [List.filterMap_cons, e] using q
theorem lcLoop_map {step : D → (Option D → Prop) → Prop} (h : D → D) {xs : List D} {Q : List D → Prop} (hs : ∀ x ∈ xs, ∀ k : Option D → Prop, k (some (h x)) → step x k) (q : Q (xs.map h)) : lcLoop step xs [] Q := by
  refine lcLoop_spec (fun x => some (h x)) hs ?_
  simpa using q
/-! ### shapes -/
theorem sh_seq {n : Nat} {ds : List D} (h : ∀ d ∈ ds, d.canLay0 = true ∧ d.depth ≤ n) : PyData.canLayAll0 ds = true ∧ PyData.depthAll ds ≤ n := by
  induction ds with
  | nil => exact ⟨by simp [PyData.canLayAll0], by simp [PyData.depthAll]⟩
  | cons x r ih =>
    obtain ⟨h1, h2⟩ := ih fun d hd => h d (List.mem_cons_of_mem _ hd)
    obtain ⟨h3, h4⟩ := h x List.mem_cons_self
    refine ⟨by simp [PyData.canLayAll0, h1, h3], ?_⟩
    simp only [PyData.depthAll]
    omega
theorem sh_tuple {n : Nat} {ds : List D} (h : ∀ d ∈ ds, d.canLay0 = true ∧ d.depth ≤ n) (hn : n ≤ 63 := by decide) : SeqAt.shaped (.tuple ds) = true := by
  obtain ⟨h1, h2⟩ := sh_seq h
  unfold SeqAt.shaped
  simp [PyData.canLay0, PyData.depth, h1]
  omega
theorem sh_list {n : Nat} {ds : List D} (h : ∀ d ∈ ds, d.canLay0 = true ∧ d.depth ≤ n) (hn : n ≤ 63 := by decide) : SeqAt.shaped (.list ds) = true := by
  obtain ⟨h1, h2⟩ := sh_seq h
  unfold SeqAt.shaped
  simp [PyData.canLay0, PyData.depth, h1]
  omega
def intsD (ns : List Int) : List D := ns.map .int
theorem ints_flat {ns : List Int} : ∀ d ∈ intsD ns, d.canLay0 = true ∧ d.depth ≤ 0 := by
  intro d hd
  obtain ⟨i, _, rfl⟩ := List.mem_map.mp hd
  exact ⟨by simp [PyData.canLay0], by simp [PyData.depth]⟩
theorem sh_ints (ns : List Int) : SeqAt.shaped (.tuple (intsD ns)) = true := sh_tuple ints_flat
theorem sh_intsL (ns : List Int) : SeqAt.shaped (.list (intsD ns)) = true := sh_list ints_flat
theorem eqvAll_ints : ∀ (ns ms : List Int), PyData.eqvAll (intsD ns) (intsD ms) = decide (ns = ms)
  | [], [] => by simp [intsD, PyData.eqvAll]
  | [], _ :: _ => by simp [intsD, PyData.eqvAll]
  | _ :: _, [] => by simp [intsD, PyData.eqvAll]
  | n :: ns, m :: ms => by
    have ih := eqvAll_ints ns ms
    unfold intsD at *
    rw [List.map_cons, List.map_cons, PyData.eqvAll, ih, zbN]
    by_cases h1 : n = m <;> by_cases h2 : ns = ms <;> simp [h1, h2]
theorem eqv_ints (ns ms : List Int) : PyData.eqv (.tuple (intsD ns)) (.tuple (intsD ms)) = decide (ns = ms) := by
  show PyData.eqvAll _ _ = _
  exact eqvAll_ints ns ms
theorem eqv_intsL (ns ms : List Int) : PyData.eqv (.list (intsD ns)) (.list (intsD ms)) = decide (ns = ms) := by
  show PyData.eqvAll _ _ = _
  exact eqvAll_ints ns ms
theorem upTo_ints (n : Nat) : upTo 0 n = intsD ((List.range n).map fun i : Nat => (i : Int)) := by
  unfold upTo intsD
  rw [List.map_map]
  congr 1
  funext i
  simp
end
/-! ### dicts, own things, loops, draws -/
def ownK (Q : List (Key × D) → Prop) : Option (Option Ent) → Prop
  | some (some (.own (.dct ds))) => Q ds
  | _ => False
section
variable {Q : D → Prop} {E : Str → Prop}
theorem zbW (Γ : Env) (i : Nat) (R : List (Key × D) → Prop) : ownDAt Γ i R = ownK R Γ[i]? := by
  unfold ownDAt ownK
  generalize Γ[i]? = o
  match o with
  | none => rfl
  | some none => rfl
  | some (some (.val d)) => rfl
  | some (some (.own (.lst d))) => rfl
  | some (some (.own (.dct d))) => rfl
theorem zbX (R : List (Key × D) → Prop) (ds : List (Key × D)) : ownK R (some (some (.own (.dct ds)))) = R ds := propext Iff.rfl
theorem zbY (ds : List (Key × D)) : dataOf (.dct ds) = dictE ds := rfl
theorem zbZ (ds : List D) : dataOf (.lst ds) = .list ds := rfl
theorem zca (x : Str) : keyOf (.str x) = some (.inr x) := rfl
theorem zcb (i : Int) : keyOf (.int i) = some (.inl i) := rfl
theorem zcc (a b : String) : (Str.ofString a = Str.ofString b) = (a = b) := propext ⟨ofString_inj, fun h => by rw [h]⟩
theorem zcd (a b : Str) : ((Sum.inr a : Key) = Sum.inr b) = (a = b) := propext ⟨fun h => by injection h, fun h => by rw [h]⟩
theorem zce (a b : Int) : ((Sum.inl a : Key) = Sum.inl b) = (a = b) := propext ⟨fun h => by injection h, fun h => by rw [h]⟩
theorem zcf {β : Type} (l : List (Key × β)) : mergeG l [] = l := rfl
theorem zcg {β : Type} (l : List (Key × β)) (k : Key) (v : β) (r : List (Key × β)) : mergeG l ((k, v) :: r) = mergeG (putG l k v) r := rfl
theorem zch {β : Type} (k : Key) (v : β) : putG [] k v = [(k, v)] := rfl
theorem zci {β : Type} (j k : Key) (u v : β) (l : List (Key × β)) (h : ¬ j = k) : putG ((j, u) :: l) k v = (j, u) :: putG l k v := by
  unfold putG
  simp only [List.any_cons, decide_eq_false h, Bool.false_or, List.map_cons, if_neg h]
  split <;> rfl
theorem zcj {β : Type} (j k : Key) (u : β) (l : List (Key × β)) : lookG ((j, u) :: l) k = if j = k then some u else lookG l k := by
  unfold lookG
  rw [List.find?_cons]
  by_cases h : j = k
  · simp [h]
  · simp [h]
theorem zck (ds : List (Key × D)) (d : D) : dgetD (dictE ds) d Q E = orStuck (keyOf d) fun k => orStuck (lookG ds k) Q := by
  show orStuck (keyOf d) (fun k => orStuck (dlook (ds.map fun p => (kD p.1, p.2)) k) Q) = _
  simp only [dlook_E]
theorem zcl (m : Int) : m__law_draw [sD, tD, .int m] Q E = (0 < m ∧ m < 1073741824 ∧ ∀ r : Int, 0 ≤ r → r < m → Q (.int r)) := by
  show (sD = sD ∧ tD = tD ∧ 0 < m ∧ m < 1073741824 ∧ ∀ r : Int, 0 ≤ r → r < m → Q (.int r)) = _
  simp
theorem zcm : m__law_begun [] Q E = Q tD := by
  show (([] : List D) = [] ∧ Q tD) = _
  simp
theorem pickW (ws : List String) {i : Int} {Q : D → Prop} (h0 : 0 ≤ i) (h1 : i < ws.length) (h : ∀ w ∈ ws, Q (.str (Str.ofString w))) : orStuck (atI (ws.map fun w => PyData.str (Str.ofString w)) i) Q := by
  rw [atI_nat h0 (by simpa using h1)]
  show Q _
  rw [List.getElem_map]
  exact h _ (List.getElem_mem _)
theorem pickWn (ws : List String) (n : Nat) {i : Int} {Q : D → Prop} (h0 : 0 ≤ i) (h1 : i < n) (hn : n ≤ ws.length) (h : ∀ w ∈ ws.take n, Q (.str (Str.ofString w))) : orStuck (atI (ws.map fun w => PyData.str (Str.ofString w)) i) Q := by
  rw [atI_nat h0 (by simp; omega)]
  show Q _
  rw [List.getElem_map]
  refine h _ ?_
  rw [List.mem_take_iff_getElem]
  exact ⟨i.toNat, by omega, rfl⟩
theorem pickI (ws : List Int) {i : Int} {Q : D → Prop} (h0 : 0 ≤ i) (h1 : i < ws.length) (h : ∀ w ∈ ws, Q (.int w)) : orStuck (atI (ws.map PyData.int) i) Q := by
  rw [atI_nat h0 (by simpa using h1)]
  show Q _
  rw [List.getElem_map]
  exact h _ (List.getElem_mem _)
theorem zcn (i : Nat) (d : D) : bindT (.name i) d = some [(i, d)] := by unfold bindT; rfl
theorem forLoop_inv {T : Tg} {F : FS} {k : KS} (I : Env → Prop) (hend : ∀ Γ, I Γ → k.nx Γ) : ∀ (xs : List D), (∀ x ∈ xs, ∀ Γ, I Γ → ∀ nx : Env → Prop, (∀ Γ', I Γ' → nx Γ') → orStuck (bindT T x) fun l => F (setV Γ l) { k with nx := nx, ct := nx, bk := k.nx }) → ∀ Γ, I Γ → forLoop T F k xs Γ
  | [], _, Γ, h => hend Γ h
  | x :: xs, hs, Γ, h => hs x List.mem_cons_self Γ h _ fun Γ' h' => forLoop_inv I hend xs (fun y hy => hs y (List.mem_cons_of_mem _ hy)) Γ' h'
/-- with what is left -/
theorem forLoop_ind {T : Tg} {F : FS} {k : KS} (I : List D → Env → Prop) (hend : ∀ Γ, I [] Γ → k.nx Γ) : ∀ (xs : List D), (∀ x r, ∀ Γ, I (x :: r) Γ → ∀ nx : Env → Prop, (∀ Γ', I r Γ' → nx Γ') → orStuck (bindT T x) fun l => F (setV Γ l) { k with nx := nx, ct := nx, bk := k.nx }) → ∀ Γ, I xs Γ → forLoop T F k xs Γ
  | [], _, Γ, h => hend Γ h
  | x :: xs, hs, Γ, h => hs x xs Γ h _ fun Γ' h' => forLoop_ind I hend xs hs Γ' h'
theorem lcLoop_ints {step : D → (Option D → Prop) → Prop} (h : Int → Int) (n : Nat) {Q : List D → Prop} (hs : ∀ i : Nat, i < n → ∀ k : Option D → Prop, k (some (.int (h i))) → step (.int i) k) (q : Q (intsD ((List.range n).map fun i : Nat => h i))) : lcLoop step (upTo 0 n) [] Q := by
  refine lcLoop_map (fun d => match d with | .int i => .int (h i) | d => d) (fun x hx k hk => ?_) ?_
  · rw [upTo_ints] at hx
    obtain ⟨i, hi, rfl⟩ := List.mem_map.mp hx
    obtain ⟨j, hj, rfl⟩ := List.mem_map.mp hi
    exact hs j (List.mem_range.mp hj) k hk
  · rw [upTo_ints]
    unfold intsD at *
    rw [List.map_map, List.map_map] at *
    exact q
theorem zcp (i : Int) (r : List D) : SeqAt.shaped (.tuple (.int i :: r)) = SeqAt.shaped (.tuple r) := by simp [SeqAt.shaped, PyData.canLay0, PyData.canLayAll0, PyData.depth, PyData.depthAll]
theorem zcq (s : String) (r : List D) : SeqAt.shaped (.tuple (.str (Str.ofString s) :: r)) = SeqAt.shaped (.tuple r) := by simp [SeqAt.shaped, PyData.canLay0, PyData.canLayAll0, PyData.depth, PyData.depthAll, strOk_of]
theorem zcr (b : Bool) (r : List D) : SeqAt.shaped (.tuple (.bool b :: r)) = SeqAt.shaped (.tuple r) := by simp [SeqAt.shaped, PyData.canLay0, PyData.canLayAll0, PyData.depth, PyData.depthAll]
theorem zcs (r : List D) : SeqAt.shaped (.tuple (.none :: r)) = SeqAt.shaped (.tuple r) := by simp [SeqAt.shaped, PyData.canLay0, PyData.canLayAll0, PyData.depth, PyData.depthAll]
theorem zct : SeqAt.shaped (.tuple []) = true := rfl
theorem zcu (a : D) (l : List D) : PyData.eqv (.tuple (a :: l)) (.tuple []) = false := by simp [PyData.eqv, PyData.eqvAll]
theorem zcv (a : D) (l : List D) : PyData.eqv (.tuple []) (.tuple (a :: l)) = false := by simp [PyData.eqv, PyData.eqvAll]
theorem zcw : PyData.eqv (.tuple []) (.tuple []) = true := by simp [PyData.eqv, PyData.eqvAll]
theorem zcx (a b : D) (l m : List D) : PyData.eqv (.tuple (a :: l)) (.tuple (b :: m)) = (PyData.eqv a b && PyData.eqv (.tuple l) (.tuple m)) := by simp [PyData.eqv, PyData.eqvAll]
/-! ### sorted ints -/
theorem srt_ints (ns : List Int) : srtOk (intsD ns) := by
  refine ⟨fun d hd e he => ?_, .inr fun d hd => ?_, fun d hd => ?_⟩
  · obtain ⟨i, _, rfl⟩ := List.mem_map.mp hd
    obtain ⟨j, _, rfl⟩ := List.mem_map.mp he
    simp [PySem.W.alike]
  · obtain ⟨i, _, rfl⟩ := List.mem_map.mp hd
    exact ⟨by simp, by simp⟩
  · have := ints_flat d hd
    exact ⟨this.1, by omega⟩
theorem leD1_ii (i j : Int) : leD1 (.int i) (.int j) = decide (i ≤ j) := by
  have h := congrFun (congrFun (PySem.W.dataLe_int (fun n : Int => n)) i) j
  exact h
theorem sortL_ints (ns : List Int) : sortL (intsD ns) = intsD (ns.mergeSort fun a b => decide (a ≤ b)) := by
  unfold sortL intsD
  rw [List.map_mergeSort]
  intro a _ b _
  rw [leD1_ii]
theorem sort_perm {ns ms : List Int} (hp : ns.Perm ms) (hs : ms.Pairwise (· ≤ ·)) : ns.mergeSort (fun a b => decide (a ≤ b)) = ms := by
  have h1 : (ns.mergeSort fun a b => decide (a ≤ b)).Perm ms := (List.mergeSort_perm ns _).trans hp
  have h2 : (ns.mergeSort fun a b => decide (a ≤ b)).Pairwise (· ≤ ·) := by
    have := List.pairwise_mergeSort (le := fun a b : Int => decide (a ≤ b)) (fun a b c h1 h2 => by simp at *; omega) (fun a b => by simp; omega) ns
    exact this.imp fun h => by simpa using h
  exact h1.eq_of_pairwise (fun a b _ _ h1 h2 => by omega) h2 hs
end
end DL

namespace DL
open PySem PySem.Spec PyProof.Rows L2
/-! ### pairs of zip and enumerate, known to the object -/
section
theorem pair_laid {X : Cx} {pins : List (Addr × Obj)} {σ : L2.St} {H : Hp} {s : Shared} {h2 : Heap} {ch : List Addr} {x y : V} {u v : Value} {tk : Nat} (I : Inv X pins σ H s) (k : ∀ b o, b ∉ ch → s.heap.get? b = some o → h2.get? b = some o) (hf : ∀ b ∈ ch, FpOk X pins H b)
    (hT : h2.get? s.heap.objs.size = some (tupO [u, v] 0)) (ru : RelV x u) (rv : RelV y v) : Inv X pins σ (upd H s.heap.objs.size (.frz (tupO [u, v] 0) (.tup [x, y]))) { s with heap := h2, toks := tk } :=
  I.turnedNew (ch := ch) k hf (Nat.le_refl _) (show ObjOk _ _ _ h2 _ (.frz (tupO [u, v] 0) (.tup [x, y])) from ⟨hT, by show 2 ≤ sizeLine; decide, [u, v], .cons ru (.cons rv .nil), _, hT, rfl, 0, rfl⟩)
def Fz (H : Hp) (T : Addr) (x y : V) (H' : Hp) : Prop := ∃ o : Obj, o.dict = none ∧ H T = none ∧ H' = upd H T (.frz o (.tup [x, y]))
def ItzF (K : PySem.W.Frag) (a b : Addr) : It := ⟨(Itz K a b).go, fun i H v H' => ∃ T x y, v = .ref T ∧ Fz H T x y H' ∧ (∀ xs, SqL K H a xs → xs[i]? = some x) ∧ ∀ ys, SqL K H b ys → ys[i]? = some y, (Itz K a b).stop⟩
theorem turn_zipF {P : Program} {w : World} {K : PySem.W.Frag} {elts : List Expr} {kk : Nat} {tpos : Pos} {a b z TI TO i1 i2 : Addr} (D : ZipApart z TI TO i1 i2 a b) :
    Turn P w K (.Tuple elts kk tpos) (ItzF K a b) [z, TI, TO, i1, i2] z (fun i h => IsZip h z TI TO .none ∧ IsPair h TI (.ref i1) (.ref i2) ∧ (∃ x y, IsPair h TO x y) ∧ h.IsListIter i1 a i ∧ h.IsListIter i2 b i) :=
  { (turn_zip (P := P) (w := w) (K := K) (elts := elts) (kk := kk) (tpos := tpos) D) with
    item := fun X eP ew eK ec i pins s σ H E I hf st hg => by
      subst eP ew eK
      obtain ⟨w1, w2, ⟨x0, y0, w3⟩, w4, w5⟩ := st
      obtain ⟨xs, ys, x, y, qx, qy, ex, ey⟩ := hg
      obtain ⟨as, ra, pa, _⟩ := I.list qx
      obtain ⟨bs, rb, pb, _⟩ := I.list qy
      obtain ⟨u, eu, ru⟩ := ra.get ex
      obtain ⟨v, ev, rv⟩ := rb.get ey
      have zl := Heap.lt_size w1
      refine wpAny_pyNext_zip_item D w1 w2 w3 w4 w5 pa.isList pb.isList (x := u) (y := v) (by simpa using eu) (by simpa using ev) fun h1 z1 t1 l1 m1 n1 sz kp => ?_
      refine ⟨_, rfl, wpAny_letOwnedTupleGo_zip (s := { s with heap := h1 }) z1 fun h2 z2 sb => ?_⟩
      have nT : h2.get? s.heap.objs.size = some (tupO [u, v] 0) := (sb.2 _ (Nat.ne_of_gt zl)).trans n1
      have I1 := pair_laid (tk := s.toks) (ch := [z, TI, TO, i1, i2]) I (fun c o nc e => (sb.2 c (by simp at nc; exact nc.1)).trans (kp c o (by simp at nc; exact nc.1) (by simp at nc; exact nc.2.2.1) (by simp at nc; exact nc.2.2.2.1) (by simp at nc; exact nc.2.2.2.2) e)) hf nT ru rv
      refine ⟨.ref s.heap.objs.size, _, I1, rfl, ⟨_, x, y, rfl, ⟨_, rfl, I.hok.fresh (Nat.le_refl _), rfl⟩, fun l hl => ?_, fun l hl => ?_⟩, ⟨z2, ?_, ⟨u, v, ?_⟩, ?_, ?_⟩, fun c hc => ?_⟩
      · exact I.list_inj hl qx ▸ ex
      · exact I.list_inj hl qy ▸ ey
      · exact (sb.2 TI D.TIz).trans (kp TI _ D.TIz D.TITO D.TIi1 D.TIi2 w2)
      · exact (sb.2 TO D.TOz).trans t1
      · exact l1.at fun o e => (sb.2 i1 D.i1z).trans e
      · exact m1.at fun o e => (sb.2 i2 D.i2z).trans e
      · have lt : c < s.heap.objs.size := by
          simp only [List.mem_cons, List.not_mem_nil, or_false] at hc
          rcases hc with rfl | rfl | rfl | rfl | rfl
          · exact zl
          · exact Heap.lt_size w2
          · exact Heap.lt_size w3
          · exact Heap.lt_size w4.choose_spec.1
          · exact Heap.lt_size w5.choose_spec.1
        exact (upd_ne (Nat.ne_of_lt lt)).trans (hf c hc).1 }
def iZipF (K : PySem.W.Frag) (ta : TA) : TI := fun σ H R => ta σ H fun vs H1 => ∃ a b xs ys, vs = [.ref a, .ref b] ∧ SqL K H1 a xs ∧ SqL K H1 b ys ∧ R (ItzF K a b) H1
theorem pi_zipF {X : Cx} {e e2 : Expr} {ta : TA} {p pos tpos : Pos} {elts : List Expr} {kk : Nat} (hg : Gl X "zip") (hm : X.mg "zip" = none) (ha : PA X [e, e2] ta) (hs : starEach [e, e2] X.env = (false, eval e X.env) :: starEach [e2] X.env) (hpl : (backTo pos (starEach [e2] X.env)).any (·.1) = false) :
    PI X (.Tuple elts kk tpos) (.Call (.Name "zip" p) [e, e2] [] pos) (iZipF X.K ta) := by
  refine ⟨fun pins s σ H R I h => Call_ (ld_blt I hg hm PyProof.Rows.boot_zip (PyProof.Rows.callWith_type1 (thn (ha.run pos pins s σ H _ I h) fun us s1 ⟨vs, H1, I1, r1, a, b, xs, ys, ex, qx, qy, q⟩ => ?_) hs hpl))⟩
  subst ex
  obtain ⟨u, r1', r2'⟩ : ∃ u, us = .ref a :: u ∧ u = [.ref b] := by
    cases r1 with
    | cons r rr =>
      cases rr with
      | cons r' rr =>
        cases rr
        cases r
        cases r'
        exact ⟨_, rfl, rfl⟩
  subst r1' r2'
  obtain ⟨as, ra, pa, _⟩ := I1.list qx
  obtain ⟨bs, rb, pb, _⟩ := I1.list qy
  refine call_zip_2 pa.isList pb.isList fun h1 w1 w2 w3 w4 w5 sz kp => wpAny_pyIter_zip w1 ?_
  refine ⟨s1.heap.objs.size + 4, [s1.heap.objs.size + 4, s1.heap.objs.size + 2, s1.heap.objs.size + 3, s1.heap.objs.size, s1.heap.objs.size + 1], _, _, H1, rfl, I1.kept (t' := s1.toks) kp, turn_zipF (PySem.W.ktu_apart s1.heap.objs.size a b pa.lt pb.lt), ⟨w1, w2, ⟨_, _, w3⟩, w4, w5⟩, fun c hc => ?_, q⟩
  have le : s1.heap.objs.size ≤ c := by
    simp only [List.mem_cons, List.not_mem_nil, or_false] at hc
    rcases hc with rfl | rfl | rfl | rfl | rfl <;> omega
  exact I1.fpOk le (I1.hok.fresh le)
def IteF (K : PySem.W.Frag) (a : Addr) : It := ⟨(Ite K a).go, fun i H v H' => ∃ T x, v = .ref T ∧ Fz H T (.int (i : Nat)) x H' ∧ ∀ xs, SqL K H a xs → xs[i]? = some x, (Ite K a).stop⟩
theorem turn_enumF {P : Program} {w : World} {K : PySem.W.Frag} {elts : List Expr} {kk : Nat} {tpos : Pos} (a e it : Addr) :
    Turn P w K (.Tuple elts kk tpos) (IteF K a) [e, it] e (fun i h => (∃ old, IsEnum h e it ((i : Nat) : Int) old) ∧ h.IsListIter it a i ∧ e ≠ it) :=
  { (turn_enum (P := P) (w := w) (K := K) (elts := elts) (kk := kk) (tpos := tpos) a e it) with
    item := fun X eP ew eK ec i pins s σ H E I hf st hg => by
      subst eP ew eK
      obtain ⟨⟨old, w1⟩, w2, ne⟩ := st
      obtain ⟨xs, x, qx, ex⟩ := hg
      obtain ⟨as, ra, pa, _⟩ := I.list qx
      obtain ⟨u, eu, ru⟩ := ra.get ex
      have zl := Heap.lt_size w1
      refine wpAny_pyNext_enum_item w1 w2 pa.isList (x := u) (by simpa using eu) ne fun h1 ow l1 n1 sz kp => ?_
      refine ⟨_, rfl, wpAny_letOwnedTupleGo_enum (s := { s with heap := h1, toks := s.toks + 1 }) ow fun h2 z2 sb => ?_⟩
      have nT : h2.get? s.heap.objs.size = some (tupO [.int i s.toks, u] 0) := (sb.2 _ (Nat.ne_of_gt zl)).trans n1
      have I1 := pair_laid (tk := s.toks + 1) (x := .int (i : Nat)) (ch := [e, it]) I (fun c o nc q => (sb.2 c (by simp at nc; exact nc.1)).trans (kp c o (by simp at nc; exact nc.1) (by simp at nc; exact nc.2) q)) hf nT ⟨_, rfl⟩ ru
      refine ⟨.ref s.heap.objs.size, _, I1, rfl, ⟨_, x, rfl, ⟨_, rfl, I.hok.fresh (Nat.le_refl _), rfl⟩, fun l hl => I.list_inj hl qx ▸ ex⟩, ⟨⟨u, ?_⟩, l1.at fun o q => (sb.2 it (Ne.symm ne)).trans q, ne⟩, fun c hc => ?_⟩
      · rw [show ((i + 1 : Nat) : Int) = (i : Int) + 1 by omega]
        exact z2
      · have lt : c < s.heap.objs.size := by
          simp only [List.mem_cons, List.not_mem_nil, or_false] at hc
          rcases hc with rfl | rfl
          · exact zl
          · exact Heap.lt_size w2.choose_spec.1
        exact (upd_ne (Nat.ne_of_lt lt)).trans (hf c hc).1 }
end
section
variable [Nm] {O : Ob} {X : Cx} {E : XK} {a b : Expr} {pos : Pos}
/-! ### x, y = two new lists -/
def sParFF (i j : Nat) (fa fb : Rho → WD (List D)) : FS := fun Γ k => fa (clean Γ) (fun xs => fb (clean Γ) (fun ys => k.nx ((Γ.set i (some (.own (.lst xs)))).set j (some (.own (.lst ys))))) k.ex) k.ex
theorem ds_parFF {i j : Nat} {x y : Str} {fa fb : Rho → WD (List D)} {px py pt : Pos} {kt k2 pt2} (hc : X.calm = true) (hN : X.N.Nodup) (ha : DF O X E a fa) (hb : DF O X E b fb) (hw : swappedStores [.Tuple [.Name x px, .Name y py] kt pt] (.Tuple [a, b] k2 pt2) X.env = pure (some [x, y]))
    (hi : X.N[i]? = some x := by rfl) (hj : X.N[j]? = some y := by rfl) (hij : i ≠ j := by decide)
    (hx : X.env.scope.names.lookup x = some .local := by rfl) (hy : X.env.scope.names.lookup y = some .local := by rfl)
    (hs : swapsWithSole [.Tuple [.Name x px, .Name y py] kt pt] (.Tuple [a, b] k2 pt2) pos.line X.env = pure false := by rfl)
    (h1 : starEach [a, b] X.env = (false, eval a X.env) :: starEach [b] X.env := by rfl) (h2 : starEach [b] X.env = (false, eval b X.env) :: starEach [] X.env := by rfl) :
    DS O X E (.Assign [.Tuple [.Name x px, .Name y py] kt pt] (.Tuple [a, b] k2 pt2) pos) (sParFF i j fa fb) := by
  obtain ⟨ta, a1, a2⟩ := ha
  obtain ⟨tb, b1, b2⟩ := hb
  refine ⟨_, ps_par hc hN hi hj hij hx hy (pa_cons a1 (pa_cons b1 pa_nil h2) h1) hw hs, fun H0 P0 Γ σ H own k D hd r hf l => a2 _ _ σ H _ _ _ (r.dom hd) r.rs hf (fun p vs ds H1 s1 n1 e1 v1 q1 => ?_) (l.exH r)⟩
  have hp : ∀ c, (Pw P0 own c ∨ c = p) → Pw P0 own c ∨ Nn H c := fun c z => z.imp id fun q => by rw [q]; exact n1
  have hd1 : Dom H1 (fun c => Pw P0 own c ∨ c = p) := (r.dom hd).own s1 e1 mb_lst
  refine b2 (fun c => Pw P0 own c ∨ c = p) _ σ H1 _ _ _ hd1 (r.rs.kf hp (.of s1) (r.dom hd)) q1 (fun q ws es H2 s2 n2 e2 v2 q2 => ⟨_, _, rfl, ?_⟩) ((l.exH r).same s1)
  have r1 := own_new (i := i) (c := .lst ds) r hd s1 n1 ⟨vs, e1, v1⟩
  have r2 := own_new (i := j) (c := .lst es) r1 hd s2 n2 ⟨ws, e2, ?_⟩
  · exact l.nx _ _ _ _ r2 q2
  · refine v2.less fun c z => ?_
    rcases z with z | z
    · refine .inl ?_
      rcases z with z | ⟨m, z⟩
      · exact .inl (.inl z)
      · unfold ownSet at z
        split at z
        · cases z
          exact .inr rfl
        · exact .inl (.inr ⟨m, z⟩)
    · exact .inr z
/-! ### x, y, z = three values -/
def sPar3 (i j m : Nat) (f : Rho → WD (List D)) : FS := fun Γ k => f (clean Γ) (fun ds => match ds with
  | [d, e, c] => k.nx (((Γ.set i (some (.val d))).set j (some (.val e))).set m (some (.val c)))
  | _ => False) k.ex
theorem ds_par3 {i j m : Nat} {x y z : Str} {c : Expr} {f : Rho → WD (List D)} {px py pz pt : Pos} {kt k2 pt2} (hc : X.calm = true) (hN : X.N.Nodup) (ha : DA O X E [a, b, c] f) (hw : swappedStores [.Tuple [.Name x px, .Name y py, .Name z pz] kt pt] (.Tuple [a, b, c] k2 pt2) X.env = pure (some [x, y, z]))
    (hi : X.N[i]? = some x := by rfl) (hj : X.N[j]? = some y := by rfl) (hm : X.N[m]? = some z := by rfl) (hij : i ≠ j := by decide) (him : i ≠ m := by decide) (hjm : j ≠ m := by decide)
    (hx : X.env.scope.names.lookup x = some .local := by rfl) (hy : X.env.scope.names.lookup y = some .local := by rfl) (hz : X.env.scope.names.lookup z = some .local := by rfl)
    (hs : swapsWithSole [.Tuple [.Name x px, .Name y py, .Name z pz] kt pt] (.Tuple [a, b, c] k2 pt2) pos.line X.env = pure false := by rfl) :
    DS O X E (.Assign [.Tuple [.Name x px, .Name y py, .Name z pz] kt pt] (.Tuple [a, b, c] k2 pt2) pos) (sPar3 i j m f) := by
  obtain ⟨t, a1, a2⟩ := ha
  refine ⟨_, ps_par3 hc hN hi hj hm hij him hjm hx hy hz a1 hw hs, fun H0 P0 Γ σ H own k D hd r hf l => a2 _ _ σ H _ _ _ (r.dom hd) r.rs hf (fun vs ds H' s h _ q => ?_) (l.exH r)⟩
  cases h with
  | nil => exact q.elim
  | cons h1 h =>
    cases h with
    | nil => exact q.elim
    | cons h2 h =>
      cases h with
      | nil => exact q.elim
      | cons h3 h =>
        cases h with
        | nil => exact ⟨_, _, _, rfl, l.nx _ _ _ _ ((((r.step s).set h1).set h2).set h3) q⟩
        | cons _ _ => exact q.elim
/-! ### zip of two lists -/
def zipD : List D → WD (List D)
  | [.list xs, .list ys] => fun Q _ => Q ((xs.zip ys).map fun p => .tuple [p.1, p.2])
  | _ => fun _ _ => False
theorem di_zip {elts : List Expr} {kk : Nat} {tpos p : Pos} {e e2 : Expr} {fa : Rho → WD (List D)} (hg : Gl X "zip") (hm : X.mg "zip" = none) (ha : DA O X E [e, e2] fa)
    (hs : starEach [e, e2] X.env = (false, eval e X.env) :: starEach [e2] X.env := by rfl) (hpl : (backTo pos (starEach [e2] X.env)).any (·.1) = false := by rfl) : DI O X E (.Tuple elts kk tpos) (.Call (.Name "zip" p) [e, e2] [] pos) (eCbF zipD fa) := by
  obtain ⟨ta, a1, a2⟩ := ha
  refine ⟨_, pi_zipF hg hm a1 hs hpl, fun P ρ σ H Qd Ed R hd hr hf hQ hE => a2 P ρ σ H _ Ed _ hd hr hf (fun vs ds H1 s1 h _ q => ?_) hE⟩
  have hm1 := hd.same s1
  cases h with
  | nil => exact q.elim
  | cons h1 h =>
    cases h with
    | nil => cases h1 <;> exact q.elim
    | cons h2 h =>
      cases h with
      | cons _ _ => cases h1 <;> cases h2 <;> exact q.elim
      | nil =>
        cases h1 with
        | @lst a xs ds e1 n1 r1 =>
          cases h2 with
          | @lst b ys es e2 n2 r2 =>
            refine ⟨a, b, _, _, rfl, .inl (.inl e1), .inl (.inl e2), hQ _ _ H1 s1 (fun P2 H2 pp hp k2 => ?_) q⟩
            have f1 := k2 _ _ e1 (out_of hp e1 no_lst n1) no_lst
            have f2 := k2 _ _ e2 (out_of hp e2 no_lst n2) no_lst
            have q1 : SqL X.K H2 a xs := .inl (.inl f1)
            have q2 : SqL X.K H2 b ys := .inl (.inl f2)
            have l1 := r1.length
            have l2 := r2.length
            refine ⟨fun i hi => ?_, fun i x H' d y e3 => ?_, fun i hi => ⟨xs, ys, q1, q2, ?_⟩⟩
            · rw [List.length_map, List.length_zip] at hi
              obtain ⟨x, ex⟩ := get_lt (show i < xs.length by omega)
              obtain ⟨y, ey⟩ := get_lt (show i < ys.length by omega)
              exact ⟨xs, ys, x, y, q1, q2, ex, ey⟩
            · obtain ⟨T, u, v, rfl, ⟨o, no, nT, rfl⟩, y1, y2⟩ := y
              refine ⟨same_new nT, ?_⟩
              rw [List.getElem?_map] at e3
              cases ez : (ds.zip es)[i]? with
              | none =>
                rw [ez] at e3
                cases e3
              | some pr =>
                rw [ez] at e3
                cases e3
                rw [List.getElem?_zip_eq_some] at ez
                obtain ⟨u', eu, hu⟩ := r1.get ez.1
                obtain ⟨v', ev, hv⟩ := r2.get ez.2
                have z1 := y1 xs q1
                rw [eu] at z1
                cases z1
                have z2 := y2 ys q2
                rw [ev] at z2
                cases z2
                exact .tup (.inl ⟨o, no, upd_same⟩) (.cons ((hu.kf hp k2 hm1).same (same_new nT)) (.cons ((hv.kf hp k2 hm1).same (same_new nT)) .nil))
            · rw [List.length_map, List.length_zip] at hi
              omega
          | _ => exact q.elim
        | _ => cases h2 <;> exact q.elim
/-! ### enumerate of a list or a tuple -/
def enumerateD : List D → WD (List D)
  | [.list xs] => fun Q _ => Q ((upTo 0 xs.length).zip xs |>.map fun p => .tuple [p.1, p.2])
  | [.tuple xs] => fun Q _ => Q ((upTo 0 xs.length).zip xs |>.map fun p => .tuple [p.1, p.2])
  | _ => fun _ _ => False
end
section
theorem meets_enumerate_newT (l : Addr) (items : Array Value) (n : Nat) (dct : Option Addr) (sl : Array (Option Value)) :
    Meets (Builtin.«enumerate.__new__» ⟨[.type "enumerate", .ref l], []⟩) (fun _ R s => s.heap.get? l = some { cls := .type "tuple", dict := dct, data := .seq items n, slots := sl } ∧
      R (.ok (.ret (.ref (s.heap.push { cls := .type "tuple_iterator", data := .fields #[.ref l, .int 0 0] }).objs.size)))
        { s with heap := (s.heap.push { cls := .type "tuple_iterator", data := .fields #[.ref l, .int 0 0] }).push { cls := .type "enumerate", data := .fields #[.none, .bool false, .ref s.heap.objs.size, rawInt 0, .none, .none] } }) :=
  .of_wp fun prog w A R s h => by
    obtain ⟨hp, g, d, tk, os⟩ := s
    obtain ⟨hl, h⟩ := h
    have hsub := sub_enumerate
    have hL : Heap.IsTuple (Shared.heap ⟨hp, g, d, tk, os⟩) l items := ⟨_, hl, rfl, n, rfl⟩
    wp_walk using AutoSeq1.wpAny_loadPart' hl
    refine wpAny_stack_any fun st => wpAny_pure ?_
    split
    · rename_i c _ _ _ _ _
      cases (c == Value.type "enumerate")
      · wp_walk using AutoSeq1.wpAny_loadPart' hl, wpAny_pyIter_tuple hL
        exact ⟨_, rfl, h⟩
      · wp_walk using AutoSeq1.wpAny_loadPart' hl, wpAny_pyIter_tuple hL
        exact ⟨_, rfl, h⟩
    · wp_walk using AutoSeq1.wpAny_loadPart' hl, wpAny_pyIter_tuple hL
      exact ⟨_, rfl, h⟩
theorem draws_tuple {prog : Program} {w : World} {A : Around} (hh : A.handled = none) (it l : Addr) (hne : l ≠ it) (items : Array Value) :
    Draws prog w A it [it, l] items.size (fun i v => items[i]? = some v) (fun i h => h.IsTupleIter it l i ∧ h.IsTuple l items) where
  live := fun _ _ st => let ⟨o, ho, _⟩ := st.1; ⟨o, ho⟩
  frame := fun _ _ _ st hk => ⟨let ⟨o, ho, hc, hd⟩ := st.1; ⟨o, hk it (by simp) o ho, hc, hd⟩, let ⟨o, ho, hc, n, hd⟩ := st.2; ⟨o, hk l (by simp) o ho, hc, n, hd⟩⟩
  item := fun i s Q E hi st hQ => by
    refine wpAny_nextOf_tuple_item st.1 st.2 (x := items[i]) (by simp [hi]) fun h' hit' hs' => ?_
    exact hQ _ h' s.toks (by simp [hi]) ⟨hit', st.2.extBut hs'.extBut hne⟩ hs'
  done := fun s Q E st hE => wpAny_nextOf_tuple_end hh st.1 st.2 (by simp) hE
/-- the tuple at a, its items in new pairs -/
def IteT (K : PySem.W.Frag) (a : Addr) : It :=
  ⟨fun i H => ∃ (xs : List V) (x : V), SqT K H a xs ∧ xs[i]? = some x, fun i H v H' => ∃ T x, v = .ref T ∧ Fz H T (.int (i : Nat)) x H' ∧ ∀ xs, SqT K H a xs → xs[i]? = some x, fun i H => ∃ xs : List V, SqT K H a xs ∧ xs.length ≤ i⟩
theorem turn_enumT {P : Program} {w : World} {K : PySem.W.Frag} {elts : List Expr} {kk : Nat} {tpos : Pos} (a e it : Addr) :
    Turn P w K (.Tuple elts kk tpos) (IteT K a) [e, it] e (fun i h => (∃ old, IsEnum h e it ((i : Nat) : Int) old) ∧ h.IsTupleIter it a i ∧ e ≠ it ∧ a ≠ it ∧ e ≠ a) where
  mem := by simp
  obj := fun i h st b hb => by
    obtain ⟨⟨old, he⟩, ⟨o, ho, hc, hd⟩, _⟩ := st
    have e' : b = e ∨ b = it := by simpa using hb
    rcases e' with z | z
    · rw [z]
      exact ⟨_, he, fun v q => nomatch q⟩
    · rw [z]
      exact ⟨o, ho, fun v q => by rw [hd] at q; cases q⟩
  keep := fun i h h' st k => let ⟨⟨old, he⟩, ⟨o, ho, hc, hd⟩, hne⟩ := st; ⟨⟨old, k e (by simp) _ he⟩, ⟨o, k it (by simp) o ho, hc, hd⟩, hne⟩
  item := by
    intro X hP hw hK hc i pins s σ H E I hf st hg
    subst hP hw hK
    obtain ⟨⟨old, he⟩, hit, hne, hai, hea⟩ := st
    obtain ⟨xs, x, hq, hx⟩ := hg
    obtain ⟨its, rv, p, hz⟩ := I.tuple hq
    obtain ⟨u, hu, ru⟩ := rv.get hx
    have hel : e < s.heap.objs.size := Heap.lt_size he
    have hil : it < s.heap.objs.size := by
      obtain ⟨_, q, _⟩ := hit
      exact Heap.lt_size q
    have hlen : i < its.toArray.size := by
      rw [List.size_toArray]
      exact (List.getElem?_eq_some_iff.mp hu).1
    refine wpAny_pyNext_enum_itemD (draws_tuple (A := X.A.in1) (I.ok.hd hc) it a hai its.toArray) he ⟨hit, p⟩ hlen hne (by simp [hne, hea]) fun x' h' tk px ho hst' hT hsz hk => ?_
    have ex : x' = u := by
      have px' : its[i]? = some x' := by simpa using px
      rw [hu] at px'
      exact (Option.some.inj px').symm
    subst ex
    refine ⟨_, rfl, wpAny_letOwnedTupleGo_enum (s := { s with heap := h', toks := tk + 1 }) ho fun h'' he' sb => ?_⟩
    have nT : h''.get? s.heap.objs.size = some (tupO [.int i tk, x'] 0) := (sb.2 _ (Nat.ne_of_gt hel)).trans hT
    have I1 := pair_laid (tk := tk + 1) (x := .int (i : Nat)) (ch := [e, it]) I (fun c o nc q => (sb.2 c (by simp at nc; exact nc.1)).trans (hk c o (by simp at nc; exact nc.1) (by simp at nc; exact nc.2) q)) hf nT ⟨_, rfl⟩ ru
    refine ⟨.ref s.heap.objs.size, _, I1, rfl, ⟨_, x, rfl, ⟨_, rfl, I.hok.fresh (Nat.le_refl _), rfl⟩, fun ys hy => ?_⟩, ⟨⟨x', ?_⟩, ?_, hne, hai, hea⟩, fun b hb => ?_⟩
    · obtain ⟨its', rv', p', _⟩ := I.tuple hy
      have e1 : its' = its := by
        obtain ⟨o, ho, hc, n, hd⟩ := p
        obtain ⟨o', ho', hc', n', hd'⟩ := p'
        rw [ho] at ho'
        cases ho'
        rw [hd] at hd'
        injection hd' with hd' _
        have := congrArg Array.toList hd'
        simpa using this.symm
      subst e1
      rw [Vals.inj rv' rv]
      exact hx
    · have e1 : ((i + 1 : Nat) : Int) = (i : Int) + 1 := by omega
      rw [e1]
      exact he'
    · obtain ⟨o, h1, h2, h3⟩ := hst'.1
      exact ⟨o, (sb.2 it (Ne.symm hne)).trans h1, h2, h3⟩
    · have hb' : b < s.heap.objs.size := by
        have e' : b = e ∨ b = it := by simpa using hb
        rcases e' with z | z
        · rw [z]
          exact hel
        · rw [z]
          exact hil
      rw [upd_ne (Nat.ne_of_lt hb')]
      exact (hf b hb).1
  done := by
    intro X hP hw hK hc i pins s σ H E I hf st hg
    subst hP hw hK
    obtain ⟨⟨old, he⟩, hit, hne, hai, hea⟩ := st
    obtain ⟨xs, hq, hx⟩ := hg
    obtain ⟨its, rv, p, hz⟩ := I.tuple hq
    obtain ⟨f0, f1, f2, f3, f4, f5⟩ := hf it (by simp)
    have hl := rv.length
    have D : Draws X.prog X.w X.A.in1 it [it, a] i (fun _ _ => True) (fun j h => j = i ∧ h.IsTupleIter it a i ∧ h.IsTuple a its.toArray) :=
      { live := fun _ _ st => let ⟨o, ho, _⟩ := st.2.1; ⟨o, ho⟩
        frame := fun _ _ _ st hk => ⟨st.1, let ⟨o, ho, hc, hd⟩ := st.2.1; ⟨o, hk it (by simp) o ho, hc, hd⟩, let ⟨o, ho, hc, n, hd⟩ := st.2.2; ⟨o, hk a (by simp) o ho, hc, n, hd⟩⟩
        item := fun j s Q E hi st hQ => absurd hi (by rw [st.1]; exact Nat.lt_irrefl _)
        done := fun s Q E st hE => wpAny_nextOf_tuple_end (I.ok.hd hc) st.2.1 st.2.2 (by simp; omega) hE }
    exact wpAny_pyNext_enum_endD D he ⟨rfl, hit, p⟩ fun h' eb => ⟨rfl, I.turned (t' := s.toks) (fun b o hb q => eb b o hb q) f0 f1 f3 f4 f5⟩
  self := fun A i s Q E st h => let ⟨⟨_, he⟩, _⟩ := st; wpAny_pyIter_enum he h
theorem call_enumerate_tuple {prog : Program} {w : World} {A : Around} {E : Value → Shared → Prop} {s : Shared} {l : Addr} {items : Array Value} {Q : Value → Shared → Prop} (hL : s.heap.IsTuple l items)
    (h : ∀ h', IsEnum h' (s.heap.objs.size + 1) s.heap.objs.size 0 .none → h'.IsTupleIter s.heap.objs.size l 0 → h'.objs.size = s.heap.objs.size + 2 →
      (∀ b o, s.heap.get? b = some o → h'.get? b = some o) → Q (.ref (s.heap.objs.size + 1)) { s with heap := h' }) :
    wpAny (model prog w) A (call (.type "enumerate") [.ref l]) Q E s := by
  obtain ⟨⟨c, dct, dt, sl⟩, hl, hc, n, hd⟩ := hL
  replace hc : c = .type "tuple" := hc
  replace hd : dt = .seq items n := hd
  subst hc hd
  refine callType_new F.called_enumerate (by decide) (F.typeCall_enumerate_1 _) (F.newCall_enumerate_1 _) (fun obj => F.args_object_init_2 obj _) F.entry_enumerate_new
    (meets_enumerate_newT l items n dct sl) ⟨hl, ?_⟩
  have hz : (s.heap.push { cls := .type "tuple_iterator", data := .fields #[.ref l, .int 0 0] }).objs.size = s.heap.objs.size + 1 := Heap.size_push ..
  show _ ∧ _
  rw [hz]
  have he : IsEnum ((s.heap.push { cls := .type "tuple_iterator", data := .fields #[.ref l, .int 0 0] }).push
      { cls := .type "enumerate", data := .fields #[.none, .bool false, .ref s.heap.objs.size, rawInt 0, .none, .none] }) (s.heap.objs.size + 1) s.heap.objs.size 0 .none := by
    have := Heap.get?_push_size (s.heap.push { cls := .type "tuple_iterator", data := .fields #[.ref l, .int 0 0] })
      (o := { cls := .type "enumerate", data := .fields #[.none, .bool false, .ref s.heap.objs.size, rawInt 0, .none, .none] }) rfl
    rw [hz] at this
    exact this
  refine ⟨⟨_, he, rfl⟩, h _ he ⟨_, Heap.get?_push_of_some _ (Heap.get?_push_size _ rfl), rfl, rfl⟩ (by rw [Heap.size_push, hz]) fun b o x => Heap.get?_push_of_some _ (Heap.get?_push_of_some _ x)⟩
def iEnumA (K : PySem.W.Frag) (ta : TA) : TI := fun σ H R => ta σ H fun vs H1 => ∃ a xs, vs = [.ref a] ∧ ((SqL K H1 a xs ∧ R (IteF K a) H1) ∨ (SqT K H1 a xs ∧ R (IteT K a) H1))
theorem pi_enumA {X : Cx} {e : Expr} {ta : TA} {p pos tpos : Pos} {elts : List Expr} {kk : Nat} (hg : Gl X "enumerate") (hm : X.mg "enumerate" = none) (ha : PA X [e] ta) (hs : starEach [e] X.env = [(false, eval e X.env)] := by rfl) :
    PI X (.Tuple elts kk tpos) (.Call (.Name "enumerate" p) [e] [] pos) (iEnumA X.K ta) := by
  refine ⟨fun pins s σ H R I h => ?_⟩
  refine Call_ (ld_blt I hg hm boot_enumerate (PyProof.Rows.callWith_type1 (thn (ha.run pos pins s σ H _ I h) fun us s1 ⟨vs, H1, I1, r1, q1⟩ => ?_) hs rfl))
  obtain ⟨a, xs, ex, q1⟩ := q1
  subst ex
  cases r1 with
  | cons r rr =>
    cases rr
    cases r
    have fin : ∀ h', (∀ b o, s1.heap.get? b = some o → h'.get? b = some o) → Inv X pins σ H1 { s1 with heap := h' } ∧ ∀ b, b ∈ [s1.heap.objs.size + 1, s1.heap.objs.size] → s1.heap.objs.size ≤ b := fun h' hk => ⟨I1.kept (t' := s1.toks) hk, fun b hb => by
      have e' : b = s1.heap.objs.size + 1 ∨ b = s1.heap.objs.size := by simpa using hb
      rcases e' with z | z
      · rw [z]
        exact Nat.le_add_right _ _
      · rw [z]
        exact Nat.le_refl _⟩
    rcases q1 with ⟨hq, q⟩ | ⟨hq, q⟩
    · obtain ⟨its, rv, p', hz⟩ := I1.list hq
      refine call_enumerate_list p'.isList fun h' he hit hsz hk => wpAny_pyIter_enum he ?_
      obtain ⟨I2, le⟩ := fin h' hk
      exact ⟨s1.heap.objs.size + 1, [s1.heap.objs.size + 1, s1.heap.objs.size], _, _, H1, rfl, I2, turn_enumF a (s1.heap.objs.size + 1) s1.heap.objs.size, ⟨⟨.none, he⟩, hit, Nat.succ_ne_self _⟩, fun b hb => I1.fpOk (le b hb) (I1.hok.fresh (le b hb)), q⟩
    · obtain ⟨its, rv, p', hz⟩ := I1.tuple hq
      have la : a < s1.heap.objs.size := by
        obtain ⟨o, ho, _⟩ := p'
        exact Heap.lt_size ho
      refine call_enumerate_tuple p' fun h' he hit hsz hk => wpAny_pyIter_enum he ?_
      obtain ⟨I2, le⟩ := fin h' hk
      exact ⟨s1.heap.objs.size + 1, [s1.heap.objs.size + 1, s1.heap.objs.size], _, _, H1, rfl, I2, turn_enumT a (s1.heap.objs.size + 1) s1.heap.objs.size, ⟨⟨.none, he⟩, hit, Nat.succ_ne_self _, Nat.ne_of_lt la, Nat.ne_of_gt (Nat.lt_succ_of_lt la)⟩, fun b hb => I1.fpOk (le b hb) (I1.hok.fresh (le b hb)), q⟩
variable [Nm] {O : Ob} {X : Cx} {E : XK}
theorem enum_get {xs : List D} {i : Nat} {d : D} (e : (((upTo 0 xs.length).zip xs).map fun p => PyData.tuple [p.1, p.2])[i]? = some d) : ∃ x, xs[i]? = some x ∧ d = .tuple [.int (i : Nat), x] := by
  rw [List.getElem?_map] at e
  cases ez : ((upTo 0 xs.length).zip xs)[i]? with
  | none =>
    rw [ez] at e
    cases e
  | some pr =>
    rw [ez] at e
    cases e
    rw [List.getElem?_zip_eq_some] at ez
    refine ⟨_, ez.2, ?_⟩
    have := upTo_get ez.1
    show PyData.tuple [pr.1, pr.2] = _
    rw [this]
    simp
theorem di_enumerate {elts : List Expr} {kk : Nat} {tpos p pos : Pos} {e : Expr} {fa : Rho → WD (List D)} (hg : Gl X "enumerate") (hm : X.mg "enumerate" = none) (ha : DA O X E [e] fa)
    (hs : starEach [e] X.env = [(false, eval e X.env)] := by rfl) : DI O X E (.Tuple elts kk tpos) (.Call (.Name "enumerate" p) [e] [] pos) (eCbF enumerateD fa) := by
  obtain ⟨ta, a1, a2⟩ := ha
  refine ⟨_, pi_enumA hg hm a1 hs, fun P ρ σ H Qd Ed R hd hr hf hQ hE => a2 P ρ σ H _ Ed _ hd hr hf (fun vs ds H1 s1 h _ q => ?_) hE⟩
  have hm1 := hd.same s1
  have len : ∀ xs : List D, (((upTo 0 xs.length).zip xs).map fun p => PyData.tuple [p.1, p.2]).length = xs.length := fun xs => by
    rw [List.length_map, List.length_zip, upTo_len]
    omega
  cases h with
  | nil => exact q.elim
  | cons h1 h =>
    cases h with
    | cons _ _ => cases h1 <;> exact q.elim
    | nil =>
      cases h1 with
      | @lst a xs ds e1 n1 r1 =>
        refine ⟨a, xs, rfl, .inl ⟨.inl (.inl e1), hQ _ _ H1 s1 (fun P2 H2 pp hp k2 => ?_) q⟩⟩
        have f1 := k2 _ _ e1 (out_of hp e1 no_lst n1) no_lst
        have q1 : SqL X.K H2 a xs := .inl (.inl f1)
        have l1 := r1.length
        refine ⟨fun i hi => ?_, fun i x H' d y e3 => ?_, fun i hi => ⟨xs, q1, ?_⟩⟩
        · rw [len] at hi
          obtain ⟨x, ex⟩ := get_lt (show i < xs.length by omega)
          exact ⟨xs, x, q1, ex⟩
        · obtain ⟨T, u, rfl, ⟨o, no, nT, rfl⟩, y1⟩ := y
          refine ⟨same_new nT, ?_⟩
          obtain ⟨z, ez, rfl⟩ := enum_get e3
          obtain ⟨u', eu, hu⟩ := r1.get ez
          have z1 := y1 xs q1
          rw [eu] at z1
          cases z1
          exact .tup (.inl ⟨o, no, upd_same⟩) (.cons (.int _) (.cons ((hu.kf hp k2 hm1).same (same_new nT)) .nil))
        · rw [len] at hi
          omega
      | @tup a xs ds e1 r1 =>
        refine ⟨a, xs, rfl, .inr ⟨e1.sq, hQ _ _ H1 s1 (fun P2 H2 pp hp k2 => ?_) q⟩⟩
        have n2 : Nl H1 H2 := .kf hp k2 hm1
        have q1 : SqT X.K H2 a xs := (n2.tup e1).sq
        have l1 := r1.length
        refine ⟨fun i hi => ?_, fun i x H' d y e3 => ?_, fun i hi => ⟨xs, q1, ?_⟩⟩
        · rw [len] at hi
          obtain ⟨x, ex⟩ := get_lt (show i < xs.length by omega)
          exact ⟨xs, x, q1, ex⟩
        · obtain ⟨T, u, rfl, ⟨o, no, nT, rfl⟩, y1⟩ := y
          refine ⟨same_new nT, ?_⟩
          obtain ⟨z, ez, rfl⟩ := enum_get e3
          obtain ⟨u', eu, hu⟩ := r1.get ez
          have z1 := y1 xs q1
          rw [eu] at z1
          cases z1
          exact .tup (.inl ⟨o, no, upd_same⟩) (.cons (.int _) (.cons ((hu.kf hp k2 hm1).same (same_new nT)) .nil))
        · rw [len] at hi
          omega
      | _ => exact q.elim
/-! ### what is never reached -/
def eStuck : Rho → WD D := fun _ _ _ => False
theorem de_stuck {e : Expr} {t : TE} (h : PE X e t) : DE O X E e eStuck := ⟨t, h, fun P ρ σ H Qd Ed Q hd hr hf hQ hE => hf.elim⟩
theorem pe_never {e : Expr} : PE X e (fun _ _ _ => False) := ⟨fun pins s σ H Q I h => h.elim⟩
end
end DL

namespace DL
open PySem PySem.Spec PyProof.Rows L2
/-! ### o.m(e), o a list or a tuple -/
section
variable [Nm] {X : Cx}
theorem SqL.ty {pins : List (Addr × Obj)} {σ : L2.St} {H : Hp} {s : Shared} {a : Addr} {xs : List V} (I : Inv X pins σ H s) (h : SqL X.K H a xs) : s.TypeIs (.ref a) "list" ∧ ∀ b, Value.ref a = .ref b → ∃ ob, s.heap.get? b = some ob ∧ ob.dict = none := by
  obtain ⟨its, r, p, hz⟩ := I.list h
  obtain ⟨o, ho, hc, n, hd⟩ := p.isList
  refine ⟨⟨o, ho, hc⟩, fun b z => ?_⟩
  cases z
  obtain ⟨o2, n, e, _, e2, _⟩ := p
  exact ⟨_, e, e2⟩
def tBM2 (K : PySem.W.Frag) (rl rt : V → List V → Hp → VK → Prop) (to : TE) (t : TA) : TE := fun σ H Q => to σ H fun x H1 => ((∃ a xs, x = .ref a ∧ SqL K H1 a xs) ∧ t σ H1 fun ys H2 => rl x ys H2 Q) ∨ ((∃ a xs, x = .ref a ∧ TqT K H1 a xs) ∧ t σ H1 fun ys H2 => rt x ys H2 Q)
theorem pe_bm2 {idl idt : String} {name : Str} {rl rt : V → List V → Hp → VK → Prop} {o e : Expr} {es : List Expr} {to : TE} {t : TA} {apos cpos : Pos} (sl : Slot "list" name idl) (tyl : typeOf (.builtin idl) = pure (.type "method_descriptor")) (st : Slot "tuple" name idt) (tyt : typeOf (.builtin idt) = pure (.type "method_descriptor"))
    (ml : MtR X idl rl) (mt : MtR X idt rt) (ho : PE X o to) (ha : PA X (e :: es) t)
    (hbase : attributeBase o name X.env (eval o X.env) = eval o X.env)
    (hfew : ((backTo cpos (starEach (e :: es) X.env)).all (fun x => !x.1) && (backToKw cpos (keywordEach [] X.env)).all (fun x => x.1.isSome) && decide ((e :: es).length + ([] : List Keyword).length + (if ([] : List Keyword).isEmpty then 0 else 1) < 30)) = true)
    (hline : (apos.endLine == cpos.line) = true) (hs : starEach (e :: es) X.env = (false, eval e X.env) :: starEach es X.env) (hplain : (backTo cpos (starEach es X.env)).any (·.1) = false) :
    PE X (.Call (.Attribute o name apos) (e :: es) [] cpos) (tBM2 X.K rl rt to t) := by
  refine ⟨fun pins s σ H Q I h => wpAny_Call_method_late hbase hfew hline rfl (thn (ho.run pins s σ H _ I h) fun v s1 ⟨x, H1, I1, r1, q0⟩ => ?_)⟩
  rcases q0 with ⟨⟨a, xs, ex, ty⟩, q1⟩ | ⟨⟨a, xs, ex, ty⟩, q1⟩
  · subst ex
    cases r1
    obtain ⟨h1, h2⟩ := SqL.ty I1 ty
    refine ⟨"list", idl, PySem.F.plainAttrs_list, sl, tyl, h1, h2, ?_⟩
    have hA := ha.run cpos pins s1 σ H1 _ I1 q1
    rw [hs] at hA ⊢
    refine Calls.callWith_builtin (by show (false || (backTo cpos (starEach es X.env)).any (·.1)) = false; rw [hplain] <;> rfl) (Calls.evalArgs_plain ?_)
    exact thn hA fun us s2 ⟨vs, H2, I2, r2, q2⟩ => ml pins s2 σ H2 (.ref a) vs (.ref a) us Q I2 (show RelV (.ref a) (.ref a) from rfl) r2 q2
  · subst ex
    cases r1
    obtain ⟨h1, h2⟩ := ty.ty I1
    refine ⟨"tuple", idt, PySem.F.plainAttrs_tuple, st, tyt, h1, h2, ?_⟩
    have hA := ha.run cpos pins s1 σ H1 _ I1 q1
    rw [hs] at hA ⊢
    refine Calls.callWith_builtin (by show (false || (backTo cpos (starEach es X.env)).any (·.1)) = false; rw [hplain] <;> rfl) (Calls.evalArgs_plain ?_)
    exact thn hA fun us s2 ⟨vs, H2, I2, r2, q2⟩ => mt pins s2 σ H2 (.ref a) vs (.ref a) us Q I2 (show RelV (.ref a) (.ref a) from rfl) r2 q2
/-- what is asked of data: where, how often -/
def rPl (S : PySem.W.Frag → Hp → Addr → List V → Prop) (K : PySem.W.Frag) : V → List V → Hp → VK → Prop := fun x ys H Q => ∃ (a : Addr) (vs : List V) (ds : List D) (y : V) (d : D) (j : Nat), x = .ref a ∧ ys = [y] ∧ S K H a vs ∧ DpAll K H vs ds ∧ Dp K H y d ∧ SeqAt.shaped (.list ds) = true ∧ SeqAt.shaped d = true ∧ SeqAt.dataPlace ds d = some j ∧ Q (.int (j : Nat)) H
def rCo (S : PySem.W.Frag → Hp → Addr → List V → Prop) (K : PySem.W.Frag) : V → List V → Hp → VK → Prop := fun x ys H Q => ∃ (a : Addr) (vs : List V) (ds : List D) (y : V) (d : D), x = .ref a ∧ ys = [y] ∧ S K H a vs ∧ DpAll K H vs ds ∧ Dp K H y d ∧ SeqAt.shaped (.list ds) = true ∧ SeqAt.shaped d = true ∧ Q (.int ((ds.countP fun z => PyData.eqv z d : Nat) : Int)) H
theorem plain_of_shaped {ds : List D} (h : SeqAt.shaped (.list ds) = true) : PyData.plainAll ds = true := by
  have := PyData.plain_of_canLay0 _ (SeqAt.canLay_of_shaped h)
  simpa [PyData.plain] using this
theorem room1 {ds : List D} {d : D} (h : SeqAt.shaped d = true) (hu : X.A.units + 65 < cLine) : X.A.units + 1 + min (PyData.depthAll ds) d.depth < cLine := by
  have h1 := SeqAt.depth_of_shaped h
  have h2 : min (PyData.depthAll ds) d.depth ≤ d.depth := Nat.min_le_right _ _
  omega
theorem mt_plL (hu : X.A.units + 65 < cLine) : MtR X "list.index" (rPl SqL X.K) := by
  intro pins s σ H x xs v us Q I rx rxs h
  obtain ⟨a, vs, ds, y, d, j, rfl, rfl, hs, hd, hy, sd, sy, hj, q⟩ := h
  cases rx
  obtain ⟨u, rfl, ru⟩ := vals1 rxs
  obtain ⟨its, rv, hl, hz⟩ := I.list hs
  obtain ⟨as, r1⟩ := Dp.readsAll I ds vs its hd rv
  obtain ⟨bs, r2⟩ := Dp.reads I d y u hy ru
  obtain ⟨⟨cls, dd, data, sl⟩, ho, hc, n, hdt⟩ := hl.isList
  simp only at hc hdt
  subst hc hdt
  have pl := plain_of_shaped sd
  obtain ⟨jl, hit, hno⟩ := SeqAt.hit_at (vs := its.toArray) (by simpa using r1) pl hj
  have hlen := rv.length
  have hsm : (j : Int) < 2 ^ 63 - 1 := by
    rw [sizeLine_eq] at hz
    rw [List.size_toArray] at jl
    omega
  exact call_meets F.slot_list_index ⟨_, ho, rfl⟩ F.entry_list_index (F.args_list_index_2 _ _) (SeqAt.list_indexAt a its.toArray n dd sl u (fun z => PyData.eqv (SeqAt.readOf s.heap z) d) j jl hsm hit hno)
    ⟨ho, SeqAt.items_plain (vs := its.toArray) (by simpa using r1) r2 pl (PyData.plain_of_canLay0 _ (SeqAt.canLay_of_shaped sy)) (room1 sy hu), .int _, H, I.tok _, ⟨_, rfl⟩, q⟩
theorem mt_plT (hu : X.A.units + 65 < cLine) : MtR X "tuple.index" (rPl SqT X.K) := by
  intro pins s σ H x xs v us Q I rx rxs h
  obtain ⟨a, vs, ds, y, d, j, rfl, rfl, hs, hd, hy, sd, sy, hj, q⟩ := h
  cases rx
  obtain ⟨u, rfl, ru⟩ := vals1 rxs
  obtain ⟨its, rv, hl, hz⟩ := I.tuple hs
  obtain ⟨as, r1⟩ := Dp.readsAll I ds vs its hd rv
  obtain ⟨bs, r2⟩ := Dp.reads I d y u hy ru
  obtain ⟨⟨cls, dd, data, sl⟩, ho, hc, n, hdt⟩ := hl
  simp only at hc hdt
  subst hc hdt
  have pl := plain_of_shaped sd
  obtain ⟨jl, hit, hno⟩ := SeqAt.hit_at (vs := its.toArray) (by simpa using r1) pl hj
  have ip := SeqAt.items_plain (A := X.A) (vs := its.toArray) (by simpa using r1) r2 pl (PyData.plain_of_canLay0 _ (SeqAt.canLay_of_shaped sy)) (room1 sy hu)
  refine call_meets F.slot_tuple_index ⟨_, ho, rfl⟩ F.entry_tuple_index (F.args_tuple_index_2 _ _) (SeqAt.tuple_index2_found a its.toArray n dd sl u (fun i => match its.toArray[i]? with | some z => PyData.eqv (SeqAt.readOf s.heap z) d | none => false) j jl (Nat.zero_le _) jl ?_ ?_) ⟨ho, fun i hi => ?_, .int _, H, I.tok _, ⟨_, rfl⟩, q⟩
  · simpa [Array.getElem?_eq_getElem jl] using hit
  · intro m hm _ h2
    simpa [Array.getElem?_eq_getElem hm] using hno m hm h2
  · have := ip its.toArray[i] (Array.getElem_mem hi)
    simpa [Array.getElem?_eq_getElem hi] using this
theorem mt_coL (hu : X.A.units + 65 < cLine) : MtR X "list.count" (rCo SqL X.K) := by
  intro pins s σ H x xs v us Q I rx rxs h
  obtain ⟨a, vs, ds, y, d, rfl, rfl, hs, hd, hy, sd, sy, q⟩ := h
  cases rx
  obtain ⟨u, rfl, ru⟩ := vals1 rxs
  obtain ⟨its, rv, hl, hz⟩ := I.list hs
  obtain ⟨as, r1⟩ := Dp.readsAll I ds vs its hd rv
  obtain ⟨bs, r2⟩ := Dp.reads I d y u hy ru
  exact SeqAt.count_list_data hl.isList (by simpa using r1) r2 (plain_of_shaped sd) (PyData.plain_of_canLay0 _ (SeqAt.canLay_of_shaped sy)) (room1 sy hu) ⟨.int _, H, I.tok _, ⟨_, rfl⟩, q⟩
theorem mt_coT (hu : X.A.units + 65 < cLine) : MtR X "tuple.count" (rCo SqT X.K) := by
  intro pins s σ H x xs v us Q I rx rxs h
  obtain ⟨a, vs, ds, y, d, rfl, rfl, hs, hd, hy, sd, sy, q⟩ := h
  cases rx
  obtain ⟨u, rfl, ru⟩ := vals1 rxs
  obtain ⟨its, rv, hl, hz⟩ := I.tuple hs
  obtain ⟨as, r1⟩ := Dp.readsAll I ds vs its hd rv
  obtain ⟨bs, r2⟩ := Dp.reads I d y u hy ru
  exact SeqAt.count_tuple_data hl (by simpa using r1) r2 (plain_of_shaped sd) (PyData.plain_of_canLay0 _ (SeqAt.canLay_of_shaped sy)) (room1 sy hu) ⟨.int _, H, I.tok _, ⟨_, rfl⟩, q⟩
end
section
variable [Nm] {O : Ob} {X : Cx} {E : XK}
/-- x.index(y), x.count(y) -/
def plcD (ds : List D) (d : D) : WD D := fun Q _ => SeqAt.shaped (.list ds) = true ∧ SeqAt.shaped d = true ∧ orStuck (SeqAt.dataPlace ds d) fun j => Q (.int (j : Nat))
def seqD : D → (List D → Prop) → Prop
  | .list ds, Q => Q ds
  | .tuple ds, Q => Q ds
  | _, _ => False
def cntD (ds : List D) (d : D) : WD D := fun Q _ => SeqAt.shaped (.list ds) = true ∧ SeqAt.shaped d = true ∧ Q (.int ((ds.countP fun z => PyData.eqv z d : Nat) : Int))
def eMt (h : List D → D → WD D) (f g : Rho → WD D) : Rho → WD D := fun ρ Q Ed => f ρ (fun x => seqD x fun ds => g ρ (fun y => h ds y Q Ed) Ed) Ed
theorem canAll_shaped {ds : List D} (h : SeqAt.shaped (.list ds) = true) : PyData.canLayAll0 ds = true := by
  have := SeqAt.canLay_of_shaped h
  simpa [PyData.canLay0] using this
theorem de_mt {name : Str} {idl idt : String} {rs : (PySem.W.Frag → Hp → Addr → List V → Prop) → PySem.W.Frag → V → List V → Hp → VK → Prop} {h : List D → D → WD D} {o e : Expr} {f g : Rho → WD D} {apos cpos : Pos} (sl : Slot "list" name idl) (tyl : typeOf (.builtin idl) = pure (.type "method_descriptor")) (st : Slot "tuple" name idt) (tyt : typeOf (.builtin idt) = pure (.type "method_descriptor"))
    (ml : MtR X idl (rs SqL X.K)) (mt : MtR X idt (rs SqT X.K))
    (hr : ∀ (S : PySem.W.Frag → Hp → Addr → List V → Prop) (a : Addr) (vs : List V) (ds : List D) (y : V) (d : D) (P : Addr → Prop) (H : Hp) (Qd : D → Prop) (Ed : Str → Prop) (Q : VK), S X.K H a vs → DvAll O X.K H P vs ds → Dv O X.K H P y d → h ds d Qd Ed → VOk O X.K P H Qd Q → rs S X.K (.ref a) [y] H Q)
    (ho : DE O X E o f) (he : DE O X E e g)
    (hbase : attributeBase o name X.env (eval o X.env) = eval o X.env)
    (hfew : ((backTo cpos (starEach [e] X.env)).all (fun x => !x.1) && (backToKw cpos (keywordEach [] X.env)).all (fun x => x.1.isSome) && decide ([e].length + ([] : List Keyword).length + (if ([] : List Keyword).isEmpty then 0 else 1) < 30)) = true)
    (hline : (apos.endLine == cpos.line) = true) (hs : starEach [e] X.env = (false, eval e X.env) :: starEach [] X.env) : DE O X E (.Call (.Attribute o name apos) [e] [] cpos) (eMt h f g) := by
  obtain ⟨ta, a1, a2⟩ := ho
  obtain ⟨tb, b1, b2⟩ := he
  refine ⟨_, pe_bm2 sl tyl st tyt ml mt a1 (pa_cons b1 pa_nil hs) hbase hfew hline hs rfl, fun P ρ σ H Qd Ed Q hd hr' hf hQ hE => a2 P ρ σ H _ Ed _ hd hr' hf (fun x d H1 s1 h1 q1 => ?_) hE⟩
  have key : ∀ (S : PySem.W.Frag → Hp → Addr → List V → Prop) (a : Addr) (vs : List V) (ds : List D) (n : ∀ H2, Same H1 H2 → S X.K H2 a vs), DvAll O X.K H1 P vs ds → g ρ (fun y => h ds y Qd Ed) Ed → tCons tb tNil σ H1 fun ys H2 => rs S X.K (.ref a) ys H2 Q := fun S a vs ds n hv q =>
    b2 P ρ σ H1 _ Ed _ (hd.same s1) (hr'.same s1) q (fun y e H2 s2 h2 q2 => hr S a vs ds y e P H2 Qd Ed Q (n H2 s2) (hv.same s2) h2 q2 fun v d' H3 s3 h3 q3 => hQ v d' H3 ((s1.trans s2).trans s3) h3 q3) (hE.same s1)
  cases h1 with
  | lst e1 n1 r1 => exact .inl ⟨⟨_, _, rfl, .inl (.inl e1)⟩, key SqL _ _ _ (fun H2 s2 => .inl (.inl (s2.all _ _ e1 no_lst))) r1 q1⟩
  | tup e1 r1 => exact .inr ⟨⟨_, _, rfl, e1⟩, key SqT _ _ _ (fun H2 s2 => ((Nl.of s2).tup e1).sq) r1 q1⟩
  | _ => exact q1.elim
theorem de_index {o e : Expr} {f g : Rho → WD D} {apos cpos : Pos} (hu : X.A.units + 65 < cLine) (ho : DE O X E o f) (he : DE O X E e g)
    (hbase : attributeBase o "index" X.env (eval o X.env) = eval o X.env := by rfl)
    (hfew : ((backTo cpos (starEach [e] X.env)).all (fun x => !x.1) && (backToKw cpos (keywordEach [] X.env)).all (fun x => x.1.isSome) && decide ([e].length + ([] : List Keyword).length + (if ([] : List Keyword).isEmpty then 0 else 1) < 30)) = true := by rfl)
    (hline : (apos.endLine == cpos.line) = true := by rfl) (hs : starEach [e] X.env = (false, eval e X.env) :: starEach [] X.env := by rfl) : DE O X E (.Call (.Attribute o "index" apos) [e] [] cpos) (eMt plcD f g) :=
  de_mt (rs := rPl) F.slot_list_index F.type_list_index F.slot_tuple_index F.type_tuple_index (mt_plL hu) (mt_plT hu) (fun S a vs ds y d P H Qd Ed Q hs hv hy q hQ => by
    obtain ⟨z1, z2, z3⟩ := q
    obtain ⟨j, e3, q3⟩ := of_orStuck z3
    exact ⟨a, vs, ds, y, d, j, rfl, rfl, hs, hv.dp (canAll_shaped z1), hy.dpS z2, z1, z2, e3, hQ.here (.int _) q3⟩) ho he hbase hfew hline hs
theorem de_count {o e : Expr} {f g : Rho → WD D} {apos cpos : Pos} (hu : X.A.units + 65 < cLine) (ho : DE O X E o f) (he : DE O X E e g)
    (hbase : attributeBase o "count" X.env (eval o X.env) = eval o X.env := by rfl)
    (hfew : ((backTo cpos (starEach [e] X.env)).all (fun x => !x.1) && (backToKw cpos (keywordEach [] X.env)).all (fun x => x.1.isSome) && decide ([e].length + ([] : List Keyword).length + (if ([] : List Keyword).isEmpty then 0 else 1) < 30)) = true := by rfl)
    (hline : (apos.endLine == cpos.line) = true := by rfl) (hs : starEach [e] X.env = (false, eval e X.env) :: starEach [] X.env := by rfl) : DE O X E (.Call (.Attribute o "count" apos) [e] [] cpos) (eMt cntD f g) :=
  de_mt (rs := rCo) F.slot_list_count F.type_list_count F.slot_tuple_count F.type_tuple_count (mt_coL hu) (mt_coT hu) (fun S a vs ds y d P H Qd Ed Q hs hv hy q hQ => by
    obtain ⟨z1, z2, z3⟩ := q
    exact ⟨a, vs, ds, y, d, rfl, rfl, hs, hv.dp (canAll_shaped z1), hy.dpS z2, z1, z2, hQ.here (.int _) z3⟩) ho he hbase hfew hline hs
/-! ### xs[lo:hi:-k] of a list -/
def pickL {α : Type} (xs : List α) (lo hi st : Option Int) : List α := (sliceRange (sliceBounds lo hi st xs.length).1 (sliceBounds lo hi st xs.length).2.1 (sliceBounds lo hi st xs.length).2.2).filterMap (xs[·]?)
theorem vals_pick {xs : List V} {us : List Value} (h : Vals xs us) : ∀ l : List Nat, Vals (l.filterMap (xs[·]?)) (l.filterMap (us[·]?))
  | [] => .nil
  | i :: l => by
    cases e : xs[i]? with
    | some x =>
      obtain ⟨u, eu, ru⟩ := h.get e
      rw [List.filterMap_cons_some e, List.filterMap_cons_some eu]
      exact .cons ru (vals_pick h l)
    | none =>
      have e2 : us[i]? = none := by
        rw [List.getElem?_eq_none_iff] at e ⊢
        rw [← h.length]
        exact e
      rw [List.filterMap_cons_none e, List.filterMap_cons_none e2]
      exact vals_pick h l
theorem dv_pick {K : PySem.W.Frag} {H : Hp} {P : Addr → Prop} {vs : List V} {ds : List D} (h : DvAll O K H P vs ds) : ∀ l : List Nat, DvAll O K H P (l.filterMap (vs[·]?)) (l.filterMap (ds[·]?))
  | [] => .nil
  | i :: l => by
    cases e : ds[i]? with
    | some x =>
      obtain ⟨u, eu, ru⟩ := h.get e
      rw [List.filterMap_cons_some e, List.filterMap_cons_some eu]
      exact .cons ru (dv_pick h l)
    | none =>
      have e2 : vs[i]? = none := by
        rw [List.getElem?_eq_none_iff] at e ⊢
        rw [h.length]
        exact e
      rw [List.filterMap_cons_none e, List.filterMap_cons_none e2]
      exact dv_pick h l
def tSlK (K : PySem.W.Frag) (k : Int) (te : TE) (tl th : TO) : TE := fun σ H Q => te σ H fun x H1 => tl σ H1 fun l H2 => th σ H2 fun u H3 => ∃ a xs, x = .ref a ∧ SqL K H3 a xs ∧ ∀ p, H3 p = none → Q (.ref p) (upd H3 p (.lst (pickL xs l u (some (-k)))))
theorem pe_slK {e : Expr} {te : TE} {lo hi : Option Expr} {tl th : TO} {j : Int} {k : Nat} {p1 p2 p3 pos : Pos} (hj : j ≠ 0) (he : PE X e te) (hl : PO X lo tl) (hh : PO X hi th) : PE X (.Subscript e (.Slice lo hi (some (.UnaryOp .USub (.Constant (.int j) k p1) p2)) p3) pos) (tSlK X.K j te tl th) := by
  refine ⟨fun pins s σ H Q I h => Subscript_ (thn (he.run pins s σ H _ I h) fun v s1 ⟨x, H1, I1, r1, q1⟩ => ?_)⟩
  have hst : PO X (some (.UnaryOp .USub (.Constant (.int j) k p1) p2)) (tPart (tUn (rU fun i => .int (-i)) (tC (.int j)))) := po_some (pe_un un_neg pe_int)
  refine wpAny_Slice (thn (hl.run pins s1 σ H1 _ I1 q1) fun vl s2 ⟨l, H2, I2, pl, q2⟩ => thn (hh.run pins s2 σ H2 _ I2 q2) fun vu s3 ⟨u, H3, I3, pu, a, xs, ex, hx, q⟩ => ?_)
  subst ex
  cases r1
  refine thn (hst.run pins s3 σ H3 (fun o H4 => o = some (-j) ∧ H4 = H3) I3 ⟨j, rfl, -j, rfl, rfl, rfl⟩) fun vs s4 ⟨o, H4, I4, ps, eo, e4⟩ => ?_
  subst eo e4
  have I5 : Inv X pins σ H4 { s4 with heap := s4.heap.push { cls := .type "slice", data := .fields #[vl, vu, vs] } } := I4.kept (t' := s4.toks) fun b ob q => Heap.get?_push_of_some _ q
  obtain ⟨its, r, ht, hz⟩ := I5.list hx
  have hlen := r.length
  show wpAny (model X.prog X.w) X.A (subscriptTail e (.Slice lo hi (some (.UnaryOp .USub (.Constant (.int j) k p1) p2)) p3) (.ref a) (.ref s4.heap.objs.size)) (EP X pins σ Q) X.xe { s4 with heap := s4.heap.push { cls := .type "slice", data := .fields #[vl, vu, vs] } }
  refine tail_any (ops := [.ref a, .ref s4.heap.objs.size]) ht.isList.typeIs (PySem.slot_list_getitem.lookup) ?_ (by with_unfolding_all rfl)
  refine wpAny_getItem_list_slice ht.isList (Heap.IsSliceOf.new _ vl vu vs) pl pu ps (by simp; omega) ?_ (by rw [List.size_toArray]; omega)
  have ep : slicePick its.toArray l u (some (-j)) = (pickL its l u (some (-j))).toArray := by
    unfold slicePick pickL
    simp
  have hv : Vals (pickL xs l u (some (-j))) (pickL its l u (some (-j))) := by
    unfold pickL
    rw [hlen]
    exact vals_pick r _
  refine ⟨.ref _, _, I5.laid (t' := s4.toks) (o := .lst (pickL xs l u (some (-j)))) (fun b ob q => Heap.get?_push_of_some _ q) (Nat.le_refl _) ?_, rfl, q _ (I5.hok.fresh (Nat.le_refl _))⟩
  refine ⟨?_, _, 0, hv, ?_⟩
  · rw [hv.length]
    have := slicePick_size_le its.toArray l u (some (-j))
    rw [ep] at this
    simp at this
    omega
  · rw [ep]
    exact Heap.get?_push_size _ rfl
def slKD (k : Int) (d : D) (lo hi : Option Int) : WD (List D) := match d with
  | .list xs => fun Q _ => Q (pickL xs lo hi (some (-k)))
  | _ => fun _ _ => False
def eSlK (k : Int) (fa : Rho → WD D) (fl fh : Rho → WD (Option Int)) : Rho → WD (List D) := fun ρ Q Ed => fa ρ (fun d => fl ρ (fun lo => fh ρ (fun hi => slKD k d lo hi Q Ed) Ed) Ed) Ed
theorem df_slK {a : Expr} {lo hi : Option Expr} {fa : Rho → WD D} {fl fh : Rho → WD (Option Int)} {j : Int} {k : Nat} {p1 p2 p3 pos : Pos} (hj : j ≠ 0) (ha : DE O X E a fa) (hl : DO O X E lo fl) (hh : DO O X E hi fh) :
    DF O X E (.Subscript a (.Slice lo hi (some (.UnaryOp .USub (.Constant (.int j) k p1) p2)) p3) pos) (eSlK j fa fl fh) := by
  obtain ⟨ta, a1, a2⟩ := ha
  obtain ⟨tl, l1, l2⟩ := hl
  obtain ⟨th, h1, h2⟩ := hh
  refine ⟨_, pe_slK hj a1 l1 h1, fun P ρ σ H Qd Ed Q hd hr hf hQ hE => a2 P ρ σ H _ Ed _ hd hr hf (fun v d H1 s1 k1 q1 => l2 P ρ σ H1 _ Ed _ (hd.same s1) (hr.same s1) q1 (fun lo H2 s2 q2 =>
    h2 P ρ σ H2 _ Ed _ ((hd.same s1).same s2) ((hr.same s1).same s2) q2 (fun hi H3 s3 q3 => ?_) ((hE.same s1).same s2)) (hE.same s1)) hE⟩
  have s13 : Same H H3 := (s1.trans s2).trans s3
  have k3 := (k1.same s2).same s3
  cases k3 with
  | lst e n r =>
    refine ⟨_, _, rfl, .inl (.inl e), fun p np => hQ _ _ _ _ (s13.trans (same_new np)) (s13.free (nn np)) upd_same ?_ q3⟩
    unfold pickL
    rw [r.length]
    exact DvAll.fresh (dv_pick r _) (nn np) (same_new np)
  | _ => exact q3.elim
/-! ### a dict that is walked: locked for good -/
theorem pss_lck {sts : List Stmt} {t : TS} (h : PSs X sts t) : PSs X sts (fun D σ H => ∃ d u, H d = some u ∧ Mut (some u) ∧ ∀ od, t D σ (upd H d (.frz od u))) :=
  ⟨fun pins s σ H D I hw => by
    obtain ⟨d, u, hd, mu, hw⟩ := hw
    obtain ⟨od, I1⟩ := I.lock hd mu
    exact h.run pins s σ _ _ I1 (hw od)⟩
def sLck (i : Nat) (F : FS) : FS := fun Γ k => ownDAt Γ i fun ds => F (Γ.set i (some (.val (dictZ ds)))) k
theorem Rg.lck {K : PySem.W.Frag} {H0 H : Hp} {P0 : Addr → Prop} {Γ : Env} {σ : L2.St} {own : Nat → Option Addr} (r : Rg O K H0 P0 Γ σ H own) (hd : Dom H0 P0) {i : Nat} {p : Addr} {ds : List (Key × D)} {kvs : List (Key × V)} {od : Obj} (e : Γ[i]? = some (some (.own (.dct ds)))) (eo : own i = some p) (es : σ[i]? = some (some (.ref p)))
    (ep : H p = some (.dK kvs)) (ek : kvs.map (·.1) = ds.map (·.1)) (hv : DvAll O K H (Pw P0 own) (kvs.map (·.2)) (ds.map (·.2))) : Rg O K H0 P0 (Γ.set i (some (.val (dictZ ds)))) σ (upd H p (.frz od (.dK kvs))) (ownDel own i) := by
  obtain ⟨hn, _⟩ := r.fresh i p eo
  have np : ∀ a, Pw P0 (ownDel own i) a → a ≠ p ∧ Pw P0 own a := fun a z => by
    rcases z with z | ⟨j, z⟩
    · refine ⟨fun w => ?_, .inl z⟩
      obtain ⟨o, eo', m⟩ := hd.has a z
      rw [w] at eo'
      exact no_mb m (hn _ eo')
    · by_cases hj : j = i
      · subst hj
        rw [ownDel_self] at z
        cases z
      · rw [ownDel_ne hj] at z
        exact ⟨fun w => hj (r.inj j i p (w ▸ z) eo), .inr ⟨j, z⟩⟩
  have nl : Nl H (upd H p (.frz od (.dK kvs))) := fun a o ea m _ => by
    have : a ≠ p := fun z => by
      subst z
      rw [ep] at ea
      cases ea
      exact m (.inr ⟨_, rfl⟩)
    rw [upd_ne this]
    exact ea
  have ls : ∀ a o, H a = some o → Mb o → ¬ Pw P0 own a → upd H p (.frz od (.dK kvs)) a = some o := fun a o ea m n => by
    have : a ≠ p := fun z => n (.inr ⟨i, by rw [z]; exact eo⟩)
    rw [upd_ne this]
    exact ea
  have kp : ∀ {v : V} {d : D}, Dv O K H (Pw P0 own) v d → Dv O K (upd H p (.frz od (.dK kvs))) (Pw P0 (ownDel own i)) v d := fun h => h.keep nl ls fun a _ _ _ q z => q (np a z).2
  have kpA : ∀ {v : List V} {d : List D}, DvAll O K H (Pw P0 own) v d → DvAll O K (upd H p (.frz od (.dK kvs))) (Pw P0 (ownDel own i)) v d := fun h => h.keep nl ls fun a _ _ _ q z => q (np a z).2
  have hil : i < Γ.length := (List.getElem?_eq_some_iff.mp e).1
  refine ⟨r.same.upd hn ep mb_dk, fun j k a e1 e2 => ?_, fun j a e1 => ?_, ⟨by rw [r.rs.len]; simp [clean], fun j d ej => ?_⟩, fun j c ej => ?_⟩
  · by_cases hj : j = i
    · subst hj
      rw [ownDel_self] at e1
      cases e1
    · by_cases hk : k = i
      · subst hk
        rw [ownDel_self] at e2
        cases e2
      · rw [ownDel_ne hj] at e1
        rw [ownDel_ne hk] at e2
        exact r.inj j k a e1 e2
  · by_cases hj : j = i
    · subst hj
      rw [ownDel_self] at e1
      cases e1
    · have e1' := e1
      rw [ownDel_ne hj] at e1
      obtain ⟨h1, o, h2, h3⟩ := r.fresh j a e1
      exact ⟨h1, o, by rw [upd_ne (np a (.inr ⟨j, e1'⟩)).1]; exact h2, h3⟩
  · unfold clean at ej
    rw [List.map_set] at ej
    by_cases hj : i = j
    · subst hj
      rw [List.getElem?_set_self (by simpa using hil)] at ej
      cases ej
      exact ⟨.ref p, es, .dcz upd_same ek (kpA hv)⟩
    · rw [List.getElem?_set_ne hj] at ej
      obtain ⟨v, e2, h2⟩ := r.rs.get j d ej
      exact ⟨v, e2, kp h2⟩
  · by_cases hj : i = j
    · subst hj
      rw [List.getElem?_set_self hil] at ej
      cases ej
    · rw [List.getElem?_set_ne hj] at ej
      obtain ⟨q, e2, e3, e4⟩ := r.ow j c ej
      have e2' : ownDel own i j = some q := by rw [ownDel_ne (fun z => hj z.symm)]; exact e2
      have nq := (np q (.inr ⟨j, e2'⟩)).1
      exact ⟨q, e2', e3, e4.to kpA fun o e _ => by rw [upd_ne nq]; exact e⟩
theorem dss_lck (i : Nat) {sts : List Stmt} {F : FS} (h : DSs O X E sts F) : DSs O X E sts (sLck i F) := by
  obtain ⟨t, h1, h2⟩ := h
  refine ⟨_, pss_lck h1, fun H0 P0 Γ σ H own k D hd r hf l => ?_⟩
  obtain ⟨ds, eg, hf⟩ := of_ownDAt hf
  obtain ⟨p, eo, es, kvs, ep, ek, hv⟩ := r.ow i (.dct ds) eg
  exact ⟨p, _, ep, trivial, fun od => h2 H0 P0 _ σ _ _ k D hd (r.lck hd eg eo es ep ek hv) hf l⟩
/-- the keys of a locked dict -/
def keysD : D → WD (List D)
  | .dict ((.bool true, .none) :: l) => fun Q _ => Q (l.map (·.1))
  | _ => fun _ _ => False
def sKeys (f : Rho → WD D) : Rho → WD (List D) := fun ρ Q Ed => f ρ (fun d => keysD d Q Ed) Ed
theorem of_keysD {d : D} {Q : List D → Prop} {Ed : Str → Prop} (h : keysD d Q Ed) : ∃ l, d = .dict ((.bool true, .none) :: l) ∧ Q (l.map (·.1)) := by
  unfold keysD at h
  split at h
  · exact ⟨_, rfl, h⟩
  · exact h.elim
theorem keysD_Z (ds : List (Key × D)) (Q : List D → Prop) (Ed : Str → Prop) : keysD (dictZ ds) Q Ed = Q (ds.map fun p => kD p.1) := by
  show Q ((ds.map fun p => (kD p.1, p.2)).map (·.1)) = _
  rw [List.map_map]
  rfl
theorem dv_key {K : PySem.W.Frag} {H : Hp} {P : Addr → Prop} {k : Key} (h : ∀ x, k = .inr x → PyData.strOk x = true) : Dv O K H P (kV k) (kD k) := by
  cases k with
  | inl i => exact .int i
  | inr x => exact .str x (h x rfl)
def keysOk (ds : List D) : Bool := ds.all fun d => match d with | .str x => PyData.strOk x | _ => true
def keysD2 (d : D) : WD (List D) := fun Q Ed => keysD d (fun l => keysOk l = true ∧ Q l) Ed
def sKeys2 (f : Rho → WD D) : Rho → WD (List D) := fun ρ Q Ed => f ρ (fun d => keysD2 d Q Ed) Ed
theorem di_keys {tg a : Expr} {fa : Rho → WD D} (hO : NoObj O) (ha : DE O X E a fa) : DI O X E tg a (sKeys2 fa) := by
  obtain ⟨ta, a1, a2⟩ := ha
  refine ⟨_, pi_keys a1, fun P ρ σ H Qd Ed R hd hr hf hQ hE => a2 P ρ σ H _ Ed _ hd hr hf (fun v d H1 s1 h1 q1 => ?_) hE⟩
  have hm1 := hd.same s1
  obtain ⟨l, el, ok, q⟩ := of_keysD q1
  generalize ed : d = d' at h1
  cases h1 with
  | @dcz a o kvs ds e1 e2 e3 =>
    rw [el] at ed
    unfold dictZ at ed
    injection ed with ed
    injection ed with _ ed
    subst ed
    refine ⟨a, o, rfl, .inl ⟨kvs, e1, hQ _ _ H1 s1 (fun P2 H2 pp hp k2 => ?_) q⟩⟩
    have f1 : H2 a = some (.frz o (.dK kvs)) := (Nl.kf hp k2 hm1) a _ e1 not_mb_frz no_frz
    have len : kvs.length = ds.length := by simpa using congrArg List.length e2
    refine ⟨fun i hi => ⟨f1, by simpa [len] using hi⟩, fun i x H' d y e3 => ?_, fun i hi => ⟨f1, by simpa [len] using hi⟩⟩
    obtain ⟨rfl, k, v, ekv, rfl⟩ := y
    refine ⟨Same.refl _, ?_⟩
    have eD : (ds.map (·.1))[i]? = some k := by
      rw [← e2, List.getElem?_map, ekv]
      rfl
    have e4 : d = kD k := by
      rw [List.map_map, List.getElem?_map] at e3
      rw [List.getElem?_map] at eD
      cases q : ds[i]? with
      | none =>
        rw [q] at eD
        cases eD
      | some z =>
        rw [q] at eD e3
        cases eD
        cases e3
        rfl
    subst e4
    refine dv_key fun x hx => ?_
    subst hx
    have m := List.mem_of_getElem? e3
    unfold keysOk at ok
    rw [List.all_eq_true] at ok
    exact ok _ m
  | @dct a kvs ds e1 e2 e3 e4 =>
    rw [el] at ed
    unfold dictE at ed
    injection ed with ed
    cases ds with
    | nil => cases ed
    | cons p r =>
      injection ed with ed _
      injection ed with ed _
      obtain ⟨k, x⟩ := p
      cases k <;> cases ed
  | obj h =>
    rw [el] at ed
    injection ed with ed
    subst ed
    exact (hO.nz h).elim
  | _ => rw [el] at ed; cases ed
/-! ### a tuple of the module that has no attributes of its own -/
def tupN (K : PySem.W.Frag) (x : Str) (vs : List He.Dv) : Bool := match K.lookup (He.ga K x) with
  | some ⟨.type c, none, .seq its _, _⟩ => decide (c = "tuple") && (decide (its.size ≤ sizeLine) && He.relAll (vs.map (He.Dv.v K)) its.toList)
  | _ => false
theorem tupN_ok {K : PySem.W.Frag} {x : Str} {vs : List He.Dv} (h : tupN K x vs = true) (H : Hp) : TqT K H (He.ga K x) (vs.map (He.Dv.v K)) := by
  unfold tupN at h
  split at h
  · rename_i c its n sl q
    obtain ⟨h1, h2⟩ := Bool.and_eq_true_iff.mp h
    obtain ⟨h3, h4⟩ := Bool.and_eq_true_iff.mp h2
    exact .inr ⟨_, its, n, q, congrArg Value.type (of_decide_eq_true h1), rfl, rfl, of_decide_eq_true h3, He.relAll_ok h4⟩
  · cases h
/-! ### x, y = a value, a new list; x, y, z = two values, a new list -/
def sParVF (i j : Nat) (fa : Rho → WD D) (fb : Rho → WD (List D)) : FS := fun Γ k => fa (clean Γ) (fun d => fb (clean Γ) (fun ys => k.nx ((Γ.set i (some (.val d))).set j (some (.own (.lst ys))))) k.ex) k.ex
theorem ds_parVF {a b : Expr} {pos : Pos} {i j : Nat} {x y : Str} {fa : Rho → WD D} {fb : Rho → WD (List D)} {px py pt : Pos} {kt k2 pt2} (hc : X.calm = true) (hN : X.N.Nodup) (ha : DE O X E a fa) (hb : DF O X E b fb) (hw : swappedStores [.Tuple [.Name x px, .Name y py] kt pt] (.Tuple [a, b] k2 pt2) X.env = pure (some [x, y]))
    (hi : X.N[i]? = some x := by rfl) (hj : X.N[j]? = some y := by rfl) (hij : i ≠ j := by decide)
    (hx : X.env.scope.names.lookup x = some .local := by rfl) (hy : X.env.scope.names.lookup y = some .local := by rfl)
    (hs : swapsWithSole [.Tuple [.Name x px, .Name y py] kt pt] (.Tuple [a, b] k2 pt2) pos.line X.env = pure false := by rfl)
    (h1 : starEach [a, b] X.env = (false, eval a X.env) :: starEach [b] X.env := by rfl) (h2 : starEach [b] X.env = (false, eval b X.env) :: starEach [] X.env := by rfl) :
    DS O X E (.Assign [.Tuple [.Name x px, .Name y py] kt pt] (.Tuple [a, b] k2 pt2) pos) (sParVF i j fa fb) := by
  obtain ⟨ta, a1, a2⟩ := ha
  obtain ⟨tb, b1, b2⟩ := hb
  refine ⟨_, ps_par hc hN hi hj hij hx hy (pa_cons a1 (pa_cons b1 pa_nil h2) h1) hw hs, fun H0 P0 Γ σ H own k D hd r hf l => a2 _ _ σ H _ _ _ (r.dom hd) r.rs hf (fun v d H1 s1 v1 q1 => ?_) (l.exH r)⟩
  refine b2 _ _ σ H1 _ _ _ ((r.dom hd).same s1) (r.rs.same s1) q1 (fun p ws es H2 s2 n2 e2 v2 q2 => ⟨_, _, rfl, ?_⟩) ((l.exH r).same s1)
  exact l.nx _ _ _ _ (own_new (i := j) (c := .lst es) ((r.step s1).set (i := i) v1) hd s2 n2 ⟨ws, e2, v2⟩) q2
def sPar3F (i j m : Nat) (fa fb : Rho → WD D) (fc : Rho → WD (List D)) : FS := fun Γ k => fa (clean Γ) (fun d => fb (clean Γ) (fun e => fc (clean Γ) (fun ys => k.nx (((Γ.set i (some (.val d))).set j (some (.val e))).set m (some (.own (.lst ys))))) k.ex) k.ex) k.ex
theorem ds_par3F {a b c : Expr} {pos : Pos} {i j m : Nat} {x y z : Str} {fa fb : Rho → WD D} {fc : Rho → WD (List D)} {px py pz pt : Pos} {kt k2 pt2} (hc : X.calm = true) (hN : X.N.Nodup) (ha : DE O X E a fa) (hb : DE O X E b fb) (hC : DF O X E c fc) (hw : swappedStores [.Tuple [.Name x px, .Name y py, .Name z pz] kt pt] (.Tuple [a, b, c] k2 pt2) X.env = pure (some [x, y, z]))
    (hi : X.N[i]? = some x := by rfl) (hj : X.N[j]? = some y := by rfl) (hm : X.N[m]? = some z := by rfl) (hij : i ≠ j := by decide) (him : i ≠ m := by decide) (hjm : j ≠ m := by decide)
    (hx : X.env.scope.names.lookup x = some .local := by rfl) (hy : X.env.scope.names.lookup y = some .local := by rfl) (hz : X.env.scope.names.lookup z = some .local := by rfl)
    (hs : swapsWithSole [.Tuple [.Name x px, .Name y py, .Name z pz] kt pt] (.Tuple [a, b, c] k2 pt2) pos.line X.env = pure false := by rfl)
    (h1 : starEach [a, b, c] X.env = (false, eval a X.env) :: starEach [b, c] X.env := by rfl) (h2 : starEach [b, c] X.env = (false, eval b X.env) :: starEach [c] X.env := by rfl) (h3 : starEach [c] X.env = (false, eval c X.env) :: starEach [] X.env := by rfl) :
    DS O X E (.Assign [.Tuple [.Name x px, .Name y py, .Name z pz] kt pt] (.Tuple [a, b, c] k2 pt2) pos) (sPar3F i j m fa fb fc) := by
  obtain ⟨ta, a1, a2⟩ := ha
  obtain ⟨tb, b1, b2⟩ := hb
  obtain ⟨tc, c1, c2⟩ := hC
  refine ⟨_, ps_par3 hc hN hi hj hm hij him hjm hx hy hz (pa_cons a1 (pa_cons b1 (pa_cons c1 pa_nil h3) h2) h1) hw hs, fun H0 P0 Γ σ H own k D hd r hf l => a2 _ _ σ H _ _ _ (r.dom hd) r.rs hf (fun v d H1 s1 v1 q1 => ?_) (l.exH r)⟩
  refine b2 _ _ σ H1 _ _ _ ((r.dom hd).same s1) (r.rs.same s1) q1 (fun u e H2 s2 v2 q2 => ?_) ((l.exH r).same s1)
  refine c2 _ _ σ H2 _ _ _ (((r.dom hd).same s1).same s2) ((r.rs.same s1).same s2) q2 (fun p ws es H3 s3 n3 e3 v3 q3 => ⟨_, _, _, rfl, ?_⟩) (((l.exH r).same s1).same s2)
  exact l.nx _ _ _ _ (own_new (i := m) (c := .lst es) ((((r.step s1).step s2).set (i := i) (v1.same s2)).set (i := j) v2) hd s3 n3 ⟨ws, e3, v3⟩) q3
end
end DL

namespace DL
open PySem PySem.Spec L2
/-! ### more rules, for rewriting -/
def intK (R : Option Int → Prop) : D → Prop
  | .int i => R (some i)
  | _ => False
def augK (f : (D → Prop) → Prop) (g : Int → Int → Int) (R : D → Prop) : Option (Option D) → Prop
  | some (some (.int a)) => f fun d => match d with
    | .int b => R (.int (g a b))
    | _ => False
  | _ => False
def augJ (g : Int → Int → Int) (R : D → Prop) (a : Int) : D → Prop
  | .int b => R (.int (g a b))
  | _ => False
def ownLK (R : List D → Prop) : Option (Option Ent) → Prop
  | some (some (.own (.lst ds))) => R ds
  | _ => False
def par3K (R : D → D → D → Prop) : List D → Prop
  | [d, e, c] => R d e c
  | _ => False
def extK (R : List D → Prop) : D → Prop
  | .list ys => R ys
  | _ => False
section
variable {f g : Rho → WD D} {fa fb : Rho → WD (List D)} {ga gb : Rho → WD Bool} {fl fh : Rho → WD (Option Int)} {ρ : Rho} {Q : D → Prop} {QL : List D → Prop} {E : Str → Prop} {Γ : Env} {k : KS} {F : FS} {R : Option Int → Prop}
theorem zcD : eSl f fl fh ρ Q E = f ρ (fun d => fl ρ (fun lo => fh ρ (fun hi => slD d lo hi Q E) E) E) E := propext Iff.rfl
theorem zcE : oNone ρ R E = R none := propext Iff.rfl
theorem zcF : oSome f ρ R E = f ρ (intK R) E := propext Iff.rfl
theorem zcG (i : Int) : intK R (.int i) = R (some i) := propext Iff.rfl
theorem zcH (xs : List D) (lo hi : Option Int) : slD (.tuple xs) lo hi Q E = Q (.tuple (cutL xs lo hi)) := propext Iff.rfl
theorem zcI (xs : List D) (lo hi : Option Int) : slD (.list xs) lo hi Q E = Q (.list (cutL xs lo hi)) := propext Iff.rfl
theorem zcJ (T : Tg) : sTgt T f Γ k = f (clean Γ) (fun d => orStuck (bindT T d) fun l => k.nx (setV Γ l)) k.ex := propext Iff.rfl
theorem zcK (T : Tg) : sTgtP T f Γ k = f (full Γ) (fun d => pureD d = true ∧ orStuck (bindT T d) fun l => k.nx (setV Γ l)) k.ex := propext Iff.rfl
theorem zcL (ts : List Tg) (ds : List D) : bindT (.tup ts) (.tuple ds) = bindAll ts ds := by simp [bindT]
theorem zcM : bindAll [] [] = some [] := by simp [bindAll]
theorem zcN (i : Nat) (d : D) (ts : List Tg) (ds : List D) : bindAll (.name i :: ts) (d :: ds) = (bindAll ts ds).map ((i, d) :: ·) := by
  rw [bindAll, zcn]
  cases bindAll ts ds <;> rfl
theorem zcO {α β : Type} (h : α → β) (a : α) : (some a).map h = some (h a) := rfl
theorem zcP (i : Nat) (h : Int → Int → Int) : sAug i h f Γ k = augK (fun R => f (full Γ) R k.ex) h (fun d => k.nx (Γ.set i (some (.val d)))) (full Γ)[i]? := by
  unfold sAug augK
  generalize (full Γ)[i]? = o
  match o with
  | none => rfl
  | some none => rfl
  | some (some (.int a)) => rfl
  | some (some .none) => rfl
  | some (some (.bool _)) => rfl
  | some (some (.str _)) => rfl
  | some (some (.list _)) => rfl
  | some (some (.tuple _)) => rfl
  | some (some (.dict _)) => rfl
theorem zcQ (h : Int → Int → Int) (R : D → Prop) (fx : (D → Prop) → Prop) (a : Int) : augK fx h R (some (some (.int a))) = fx (augJ h R a) := propext Iff.rfl
theorem zcR (h : Int → Int → Int) (R : D → Prop) (a b : Int) : augJ h R a (.int b) = R (.int (h a b)) := propext Iff.rfl
theorem zcS (i : Nat) (R : List D → Prop) : ownAt Γ i R = ownLK R Γ[i]? := by
  unfold ownAt ownLK
  generalize Γ[i]? = o
  match o with
  | none => rfl
  | some none => rfl
  | some (some (.val d)) => rfl
  | some (some (.own (.lst d))) => rfl
  | some (some (.own (.dct d))) => rfl
theorem zcT (R : List D → Prop) (ds : List D) : ownLK R (some (some (.own (.lst ds)))) = R ds := propext Iff.rfl
theorem zcU (i : Nat) : sApp i f Γ k = ownAt Γ i fun xs => f (clean Γ) (fun d => xs.length < 1000000 ∧ k.nx (Γ.set i (some (.own (.lst (xs ++ [d])))))) k.ex := propext Iff.rfl
theorem zcV (i : Nat) : sAppP i f Γ k = ownAt Γ i fun xs => f (full Γ) (fun d => pureD d = true ∧ xs.length < 1000000 ∧ k.nx (Γ.set i (some (.own (.lst (xs ++ [d])))))) k.ex := propext Iff.rfl
theorem zcW (i : Nat) : sExt i f Γ k = ownAt Γ i fun xs => f (clean Γ) (extK fun ys => xs.length + ys.length ≤ 1000000 ∧ k.nx (Γ.set i (some (.own (.lst (xs ++ ys)))))) k.ex := propext Iff.rfl
theorem zcX (R : List D → Prop) (ys : List D) : extK R (.list ys) = R ys := propext Iff.rfl
theorem zcY (i j : Nat) : sParFF i j fa fb Γ k = fa (clean Γ) (fun xs => fb (clean Γ) (fun ys => k.nx ((Γ.set i (some (.own (.lst xs)))).set j (some (.own (.lst ys))))) k.ex) k.ex := propext Iff.rfl
theorem zcZ (i j m : Nat) : sPar3 i j m fa Γ k = fa (clean Γ) (par3K fun d e c => k.nx (((Γ.set i (some (.val d))).set j (some (.val e))).set m (some (.val c)))) k.ex := propext Iff.rfl
theorem zda (R : D → D → D → Prop) (d e c : D) : par3K R [d, e, c] = R d e c := propext Iff.rfl
theorem zdb (i j : Nat) : sParVF i j f fb Γ k = f (clean Γ) (fun d => fb (clean Γ) (fun ys => k.nx ((Γ.set i (some (.val d))).set j (some (.own (.lst ys))))) k.ex) k.ex := propext Iff.rfl
theorem zdc (i j m : Nat) : sPar3F i j m f g fb Γ k = f (clean Γ) (fun d => g (clean Γ) (fun e => fb (clean Γ) (fun ys => k.nx (((Γ.set i (some (.val d))).set j (some (.val e))).set m (some (.own (.lst ys))))) k.ex) k.ex) k.ex := propext Iff.rfl
theorem zdi (i : Nat) : sFrz i F Γ k = F (frz i Γ) k := propext Iff.rfl
theorem zdj : sBreak Γ k = k.bk Γ := propext Iff.rfl
theorem zdk : sCont Γ k = k.ct Γ := propext Iff.rfl
theorem zdl (h : List D → D → WD D) : eMt h f g ρ Q E = f ρ (fun x => seqD x fun ds => g ρ (fun y => h ds y Q E) E) E := propext Iff.rfl
theorem zdm (ds : List D) (R : List D → Prop) : seqD (.list ds) R = R ds := propext Iff.rfl
theorem zdn (ds : List D) (R : List D → Prop) : seqD (.tuple ds) R = R ds := propext Iff.rfl
theorem zdo (ds : List D) (d : D) : plcD ds d Q E = (SeqAt.shaped (.list ds) = true ∧ SeqAt.shaped d = true ∧ orStuck (SeqAt.dataPlace ds d) fun j => Q (.int (j : Nat))) := propext Iff.rfl
theorem zdp (ds : List D) (d : D) : cntD ds d Q E = (SeqAt.shaped (.list ds) = true ∧ SeqAt.shaped d = true ∧ Q (.int ((ds.countP fun z => PyData.eqv z d : Nat) : Int))) := propext Iff.rfl
theorem zdq (T T1 : Tg) (vs vs1 : List Nat) : eLc2 fa T vs ga fb T1 vs1 gb f ρ QL E = fa ρ (fun xs => lcLoop2 T vs ga fb T1 vs1 gb f ρ xs [] QL) E := propext Iff.rfl
theorem zdr (xs ys : List D) : zipD [.list xs, .list ys] QL E = QL ((xs.zip ys).map fun p => .tuple [p.1, p.2]) := propext Iff.rfl
theorem zds (xs : List D) : enumerateD [.list xs] QL E = QL (((upTo 0 xs.length).zip xs).map fun p => .tuple [p.1, p.2]) := propext Iff.rfl
theorem zdt (xs : List D) : enumerateD [.tuple xs] QL E = QL (((upTo 0 xs.length).zip xs).map fun p => .tuple [p.1, p.2]) := propext Iff.rfl
theorem zdu (neg : Bool) : isND neg .none .none Q E = Q (.bool (true != neg)) := propext Iff.rfl
theorem zdv (neg : Bool) (i : Int) : isND neg (.int i) .none Q E = Q (.bool (false != neg)) := propext Iff.rfl
theorem zdw (neg : Bool) (xs : List D) : isND neg (.tuple xs) .none Q E = Q (.bool (false != neg)) := propext Iff.rfl
theorem zdx (xs : List D) (k : Int) : mulD (.list xs) (.int k) Q E = (0 ≤ k ∧ k ≤ 1000 ∧ xs.length ≤ 1000 ∧ Q (.list (List.replicate k.toNat xs).flatten)) := propext Iff.rfl
theorem zdy (xs : List D) : listD (.list xs) QL E = QL xs := propext Iff.rfl
theorem zdz (xs : List D) : listD (.tuple xs) QL E = QL xs := propext Iff.rfl
theorem zdA (xs : List D) : allD (.list xs) Q E = orStuck (boolsD xs) fun bs => Q (.bool (bs.all id)) := propext Iff.rfl
theorem zdB (QB : Bool → Prop) : truK QB .none = QB false := propext Iff.rfl
theorem zdC (QB : Bool → Prop) (i : Int) : truK QB (.int i) = QB (i != 0) := propext Iff.rfl
theorem sWhile_r : sWhile ga F Γ k = ∃ n, whLoop ga F k n Γ := propext Iff.rfl
theorem frz_set (i : Nat) (Γ : Env) : frz i Γ = Γ.modify i fun o => match o with
  | some (.own c) => some (.val (dataOf c))
  | o => o := rfl
theorem zdO : eStuck ρ Q E = False := propext Iff.rfl
theorem zdD (xs : List D) : pureD (.tuple xs) = pureD.pureAll xs := rfl
theorem zdE (x : D) (xs : List D) : pureD.pureAll (x :: xs) = (pureD x && pureD.pureAll xs) := rfl
theorem zdF : pureD.pureAll [] = true := rfl
theorem zdG (i : Int) : pureD (.int i) = true := rfl
theorem zdH (b : Bool) : pureD (.bool b) = true := rfl
theorem zdI (s : Str) : pureD (.str s) = true := rfl
theorem zdJ : pureD .none = true := rfl
theorem pure_ints (ns : List Int) : pureD.pureAll (intsD ns) = true := by
  induction ns with
  | nil => rfl
  | cons n r ih => exact ih
end
/-! ### loops over what is coded -/
theorem lcLoop_fm {α : Type} {step : D → (Option D → Prop) → Prop} (enc : α → D) (p : α → Bool) (h : α → D) {as : List α} {Q : List D → Prop} (hs : ∀ a ∈ as, ∀ k : Option D → Prop, k (if p a = true then some (h a) else none) → step (enc a) k) (q : Q ((as.filter p).map h)) : lcLoop step (as.map enc) [] Q := by
  have key : ∀ (as : List α) (acc : List D), (∀ a ∈ as, ∀ k : Option D → Prop, k (if p a = true then some (h a) else none) → step (enc a) k) → Q (acc ++ (as.filter p).map h) → lcLoop step (as.map enc) acc Q := by
    intro as
    induction as with
    | nil =>
      intro acc _ q
      simpa [lcLoop] using q
    | cons a r ih =>
      intro acc hs q
      rw [List.map_cons]
      unfold lcLoop
      refine hs a List.mem_cons_self _ ?_
      by_cases e : p a = true
      · rw [if_pos e]
        refine ih _ (fun b hb => hs b (List.mem_cons_of_mem _ hb)) ?_
        simpa [List.filter_cons, e] using q
      · rw [if_neg e]
        refine ih _ (fun b hb => hs b (List.mem_cons_of_mem _ hb)) ?_
        simpa [List.filter_cons, e] using q
  exact key as [] hs (by simpa using q)
theorem lcLoop_mp {α : Type} {step : D → (Option D → Prop) → Prop} (enc : α → D) (h : α → D) {as : List α} {Q : List D → Prop} (hs : ∀ a ∈ as, ∀ k : Option D → Prop, k (some (h a)) → step (enc a) k) (q : Q (as.map h)) : lcLoop step (as.map enc) [] Q :=
  lcLoop_fm enc (fun _ => true) h (fun a ha k hk => hs a ha k (by simpa using hk)) (by rw [List.filter_eq_self.mpr fun _ _ => rfl]; exact q)
theorem forLoop_mp {α : Type} {T : Tg} {F : FS} {k : KS} (enc : α → D) (I : List α → Env → Prop) (hend : ∀ Γ, I [] Γ → k.nx Γ) : ∀ (as : List α), (∀ a r, ∀ Γ, I (a :: r) Γ → ∀ nx : Env → Prop, (∀ Γ', I r Γ' → nx Γ') → orStuck (bindT T (enc a)) fun l => F (setV Γ l) { k with nx := nx, ct := nx, bk := k.nx }) → ∀ Γ, I as Γ → forLoop T F k (as.map enc) Γ
  | [], _, Γ, h => hend Γ h
  | a :: as, hs, Γ, h => hs a as Γ h _ fun Γ' h' => forLoop_mp enc I hend as hs Γ' h'
theorem while_ind {c : Rho → WD Bool} {F : FS} {k : KS} (I : Nat → Env → Prop) (h : ∀ n Γ, I n Γ → ∀ nx : Env → Prop, (∀ m Γ', n = m + 1 → I m Γ' → nx Γ') → c (full Γ) (fun b => if b = true then F Γ { k with nx := nx, ct := nx, bk := k.nx } else k.nx Γ) k.ex) : ∀ (n : Nat) (Γ : Env), I n Γ → sWhile c F Γ k := by
  have key : ∀ (n : Nat) (Γ : Env), I n Γ → whLoop c F k (n + 1) Γ := by
    intro n
    induction n with
    | zero =>
      intro Γ i
      exact h 0 Γ i _ fun m Γ' e => by omega
    | succ n ih =>
      intro Γ i
      exact h (n + 1) Γ i _ fun m Γ' e i' => by
        have : m = n := by omega
        subst this
        exact ih Γ' i'
  exact fun n Γ i => ⟨n + 1, key n Γ i⟩
/-! ### places in lists of numbers -/
theorem place_ints (ns : List Int) (k : Int) (h : k ∈ ns) : SeqAt.dataPlace (intsD ns) (.int k) = some (ns.idxOf k) := by
  unfold SeqAt.dataPlace intsD
  rw [List.findIdx?_map]
  have e : ((fun y => PyData.eqv y (.int k)) ∘ PyData.int) = fun n => n == k := by
    funext n
    show PyData.eqv (.int n) (.int k) = _
    rw [zbN]
    by_cases z : n = k <;> simp [z]
  rw [e]
  have hlt := List.idxOf_lt_length_iff.mpr h
  rw [List.findIdx?_eq_some_iff_getElem]
  refine ⟨hlt, by simpa using List.getElem_idxOf hlt, fun j hj => ?_⟩
  have := List.not_of_lt_findIdx (p := (· == k)) (xs := ns) (by simpa [List.idxOf] using hj)
  simpa using this
theorem count_ints (ns : List Int) (k : Int) : ((intsD ns).countP fun z => PyData.eqv z (.int k)) = ns.count k := by
  unfold intsD
  rw [List.countP_map, List.count]
  have e : ((fun z => PyData.eqv z (.int k)) ∘ PyData.int) = fun n => n == k := by
    funext n
    show PyData.eqv (.int n) (.int k) = _
    rw [zbN]
    by_cases z : n = k <;> simp [z]
  rw [e]
theorem anyI (ns : List Int) (k : Int) : ((intsD ns).any fun z => PyData.eqv z (.int k)) = decide (k ∈ ns) := by
  unfold intsD
  rw [List.any_map]
  have e : ((fun z => PyData.eqv z (.int k)) ∘ PyData.int) = fun n => decide (n = k) := by
    funext n
    exact zbN n k
  rw [e]
  by_cases h : k ∈ ns
  · rw [decide_eq_true h, List.any_eq_true]
    exact ⟨k, h, by simp⟩
  · rw [decide_eq_false h, List.any_eq_false]
    intro x hx
    simp
    exact fun z => h (z ▸ hx)
theorem atI_ints {ns : List Int} {i : Int} (h0 : 0 ≤ i) (h1 : i < ns.length) : atI (intsD ns) i = some (.int (ns.getD i.toNat 0)) := by
  have hl : i.toNat < ns.length := by omega
  rw [atI_nat h0 (by simpa [intsD] using h1)]
  unfold intsD
  rw [List.getElem_map, List.getD_eq_getElem?_getD, List.getElem?_eq_getElem hl]
  rfl
/-! ### cuts -/
theorem cut_to {α : Type} (xs : List α) {s : Int} (h0 : 0 ≤ s) : cutL xs none (some s) = xs.take s.toNat := by
  unfold cutL HT.sIx
  simp only [if_neg (show ¬ s < 0 by omega), List.drop_zero, Nat.sub_zero]
  by_cases h : s.toNat ≤ xs.length
  · rw [Nat.min_eq_left h]
  · rw [Nat.min_eq_right (by omega), List.take_length, List.take_of_length_le (by omega)]
theorem cut_from {α : Type} (xs : List α) {s : Int} (h0 : 0 ≤ s) : cutL xs (some s) none = xs.drop s.toNat := by
  unfold cutL HT.sIx
  simp only [if_neg (show ¬ s < 0 by omega)]
  by_cases h : s.toNat ≤ xs.length
  · rw [Nat.min_eq_left h, List.take_of_length_le (by simp)]
  · rw [Nat.min_eq_right (by omega), Nat.sub_self, List.take_zero, List.drop_eq_nil_of_le (by omega)]
theorem set_cut {α : Type} (xs : List α) {s : Int} (x : α) (h0 : 0 ≤ s) (h1 : s < xs.length) : cutL xs none (some s) ++ [x] ++ cutL xs (some (s + 1)) none = xs.set s.toNat x := by
  rw [cut_to xs h0, cut_from xs (by omega), List.set_eq_take_append_cons_drop, if_pos (by omega)]
  have : (s + 1).toNat = s.toNat + 1 := by omega
  rw [this]
  simp
theorem intsD_set (ns : List Int) (i : Nat) (x : Int) : (intsD ns).set i (.int x) = intsD (ns.set i x) := by
  unfold intsD
  rw [List.map_set]
theorem intsD_len (ns : List Int) : (intsD ns).length = ns.length := by simp [intsD]
theorem intsD_app (a b : List Int) : intsD (a ++ b) = intsD a ++ intsD b := by simp [intsD]
end DL

namespace DL
open PySem PySem.Spec PyProof.Rows L2
/-! ### len(set(xs)), xs a list of whole numbers -/
def intsOf : List D → Option (List Int)
  | [] => some []
  | .int i :: r => (intsOf r).map (i :: ·)
  | _ => none
theorem intsOf_ints (ns : List Int) : intsOf (intsD ns) = some ns := by
  induction ns with
  | nil => rfl
  | cons n r ih =>
    show (intsOf (intsD r)).map (n :: ·) = _
    rw [ih]
    rfl
theorem intsOf_dv {O : Ob} {K : PySem.W.Frag} {H : Hp} {P : Addr → Prop} : ∀ {ds : List D} {vs : List V} {ns : List Int}, DvAll O K H P vs ds → intsOf ds = some ns → vs = ns.map V.int
  | [], _, _, .nil, e => by
    cases e
    rfl
  | d :: ds, _, _, .cons h r, e => by
    cases h with
    | int i =>
      unfold intsOf at e
      cases q : intsOf ds with
      | none =>
        rw [q] at e
        cases e
      | some ms =>
        rw [q] at e
        cases e
        rw [intsOf_dv r q]
        rfl
    | _ => cases e
def nub (ns : List Int) : List Int := firstMet (fun i => ns.getD i 0) ns.length
section
variable [Nm] {O : Ob} {X : Cx} {E : XK}
def tLenSet (K : PySem.W.Frag) (ta : TE) : TE := fun σ H Q => ta σ H fun x H1 => ∃ (l : Addr) (ns : List Int), x = .ref l ∧ SqL K H1 l (ns.map V.int) ∧ ns.length ≤ 4000 ∧ Q (.int ((nub ns).length : Nat)) H1
theorem pe_lenSet {a : Expr} {ta : TE} {p p2 q pos : Pos} (hc : X.calm = true) (hg : Gl X "len") (hm : X.mg "len" = none) (hg2 : Gl X "set") (hm2 : X.mg "set" = none) (ha : PE X a ta)
    (na : starEach [a] X.env = (false, eval a X.env) :: starEach [] X.env) : PE X (.Call (.Name "len" p) [.Call (.Name "set" p2) [a] [] q] [] pos) (tLenSet X.K ta) := by
  refine ⟨fun pins s σ H Q I h => Call_ (ld_blt I hg hm boot_len (PyProof.Rows.callWith_builtin1 (PyProof.Rows.args_cons (Call_ (ld_blt I hg2 hm2 boot_set ?_)) rfl) rfl rfl))⟩
  refine PyProof.Rows.callWith_type1 (PyProof.Rows.args_cons (thn (ha.run pins s σ H _ I h) fun v s1 ⟨x, H1, I1, r1, l, ns, ex, hq, hl, q1⟩ => PyProof.Rows.args_nil ?_) na) na rfl
  subst ex
  cases r1
  obtain ⟨its, r, pl, hz⟩ := I1.list hq
  have hn : its.toArray.size = ns.length := by rw [List.size_toArray, ← r.length, List.length_map]
  refine call_set_list (I1.ok.hd hc) pl.isList (by simpa using RZ.intsAre_vals r) (by rw [hn]; unfold scanBound; omega) fun h' tk hS hk => PyProof.Rows.args_nil ?_
  rw [hn] at hS
  obtain ⟨o, es, ep, t, ho, hex, hd, _, _, hb, hf, hs⟩ := hS
  have I2 : Inv X pins σ H1 { s1 with heap := h', toks := tk } := I1.kept fun b o e => hk b o (Heap.lt_size e) e
  have hs' : es.size = (nub ns).length := hs
  exact call_len_set ho hex hd hf (by unfold scanBound at hb; omega) ⟨.int ((nub ns).length : Nat), H1, I2.tok _, ⟨_, by rw [hs']⟩, q1⟩
def lenSetD : D → WD D
  | .list xs => fun Q _ => orStuck (intsOf xs) fun ns => ns.length ≤ 4000 ∧ Q (.int ((nub ns).length : Nat))
  | _ => fun _ _ => False
theorem de_lenSet {a : Expr} {fa : Rho → WD D} {p p2 q pos : Pos} (hc : X.calm = true) (hg : Gl X "len") (hm : X.mg "len" = none) (hg2 : Gl X "set") (hm2 : X.mg "set" = none) (ha : DE O X E a fa)
    (na : starEach [a] X.env = (false, eval a X.env) :: starEach [] X.env := by rfl) : DE O X E (.Call (.Name "len" p) [.Call (.Name "set" p2) [a] [] q] [] pos) (eUn1 lenSetD fa) := by
  obtain ⟨ta, a1, a2⟩ := ha
  refine ⟨_, pe_lenSet hc hg hm hg2 hm2 a1 na, fun P ρ σ H Qd Ed Q hd hr hf hQ hE => a2 P ρ σ H _ Ed _ hd hr hf (fun v d H1 s1 h q => ?_) hE⟩
  cases h with
  | lst e n r =>
    obtain ⟨ns, e2, l, q⟩ := of_orStuck q
    have := intsOf_dv r e2
    subst this
    exact ⟨_, ns, rfl, .inl (.inl e), l, hQ _ _ H1 s1 (.int _) q⟩
  | _ => exact q.elim
theorem zdf {Q : D → Prop} {E : Str → Prop} (ns : List Int) : lenSetD (.list (intsD ns)) Q E = (ns.length ≤ 4000 ∧ Q (.int ((nub ns).length : Nat))) := by
  show orStuck (intsOf (intsD ns)) _ = _
  rw [intsOf_ints]
  rfl
theorem nub_take (ns : List Int) : ∀ i, i ≤ ns.length → firstMet (fun i => ns.getD i 0) i = (ns.take i).foldl (fun acc x => if x ∈ acc then acc else acc ++ [x]) []
  | 0, _ => rfl
  | i + 1, h => by
    rw [firstMet_succ, nub_take ns i (by omega), List.take_add_one, List.getElem?_eq_getElem (by omega), List.foldl_append]
    have e : ns.getD i 0 = ns[i] := by rw [List.getD_eq_getElem?_getD, List.getElem?_eq_getElem (by omega)]; rfl
    show step_dedup _ _ = _
    unfold step_dedup
    simp only [Option.toList_some, List.foldl_cons, List.foldl_nil, e]
    by_cases hm : ns[i] ∈ (ns.take i).foldl (fun acc x => if x ∈ acc then acc else acc ++ [x]) []
    · rw [if_pos hm, if_pos (List.any_eq_true.mpr ⟨_, hm, by simp⟩)]
    · rw [if_neg hm, if_neg]
      intro z
      obtain ⟨y, hy, ey⟩ := List.any_eq_true.mp z
      exact hm (by rw [← eq_of_beq ey]; exact hy)
theorem nub_fold (ns : List Int) : nub ns = ns.foldl (fun acc x => if x ∈ acc then acc else acc ++ [x]) [] := by
  unfold nub
  rw [nub_take ns _ (Nat.le_refl _), List.take_length]
/-! ### x = y[e][e2], y a list of one's own -/
def sOwn2 (i j : Nat) (f1 f2 : Rho → WD D) : FS := fun Γ k => ownAt Γ j fun xs => f1 (clean Γ) (fun a => idxD (.list xs) a (fun d => f2 (clean Γ) (fun b => idxD d b (fun r => k.nx (Γ.set i (some (.val r)))) k.ex) k.ex) k.ex) k.ex
theorem ds_own2 (i j : Nat) {x y : Str} {e1 e2 : Expr} {f1 f2 : Rho → WD D} {pos pos' p1 p2 py : Pos} (hN : X.N.Nodup) (h1 : DE O X E e1 f1) (h2 : DE O X E e2 f2) (s1 : PlainIx e1) (s2 : PlainIx e2) (hi : X.N[i]? = some x := by rfl) (hx : Loc X.env.scope x := by first | exact Or.inl rfl | exact Or.inr rfl)
    (hs : swapsWith (.Subscript (.Subscript (.Name y py) e1 p1) e2 p2) (some (.Name x pos')) pos.line X.env = pure false := by rfl) (hf : X.fn x = true ∨ X.env.scope.names.lookup x = some .local := by first | exact .inl rfl | exact .inr rfl | assumption)
    (hj : X.N[j]? = some y := by rfl) (hv : Vis X.env.scope y := by first | exact Or.inl rfl | exact Or.inr (Or.inl rfl) | exact Or.inr (Or.inr rfl)) (hdd : (y == ("__debug__" : Str)) = false := by decide) (hcd : (y == ("__classdict__" : Str)) = false := by decide) :
    DS O X E (.Assign [.Name x pos'] (.Subscript (.Subscript (.Name y py) e1 p1) e2 p2) pos) (sOwn2 i j f1 f2) := by
  obtain ⟨ta, a1, a2⟩ := h1
  obtain ⟨tb, b1, b2⟩ := h2
  refine ⟨_, ps_set (i := i) hN hi hx (pe_ix ix_seq (pe_ix ix_seq (pe_var hj hv hdd hcd) a1 s1) b1 s2) hs hf, fun H0 P0 Γ σ H own k D hd r hf l => ?_⟩
  obtain ⟨xs, eg, hf⟩ := of_ownAt hf
  obtain ⟨p, eo, es, vs, ep, hv⟩ := r.ow j (.lst xs) eg
  refine ⟨.ref p, es, a2 _ _ σ H _ _ _ (r.dom hd) r.rs hf (fun u d H1 s1 h1 q1 => ?_) (l.exH r)⟩
  cases h1 with
  | int n =>
    obtain ⟨c, e3, q2⟩ := of_orStuck q1
    obtain ⟨v, e4, h3⟩ := atI_dv (hv.same s1) e3
    refine .inl ⟨_, _, n, v, rfl, rfl, .inl (.inl (s1.all _ _ ep no_lst)), e4, ?_⟩
    refine b2 _ _ σ H1 _ _ _ ((r.dom hd).same s1) (r.rs.same s1) q2 (fun z e H2 s2 h4 q3 => ?_) ((l.exH r).same s1)
    exact opd_idx (O := O) (X := X) (Pw P0 own) H2 v z c e _ _ _ (((r.dom hd).same s1).same s2) (h3.same s2) h4 q3 fun w d' H3 s3 h5 q5 => l.nx _ _ _ _ (((r.step s1).step s2).step s3 |>.set h5) q5
  | _ => exact q1.elim
theorem zde {f1 f2 : Rho → WD D} {Γ : Env} {k : KS} (i j : Nat) : sOwn2 i j f1 f2 Γ k = ownAt Γ j fun xs => f1 (clean Γ) (fun a => idxD (.list xs) a (fun d => f2 (clean Γ) (fun b => idxD d b (fun r => k.nx (Γ.set i (some (.val r)))) k.ex) k.ex) k.ex) k.ex := propext Iff.rfl
end
end DL

namespace DL
open PySem PySem.Spec PyProof.Rows L2
/-! ### sum, max, min of whole numbers -/
section
variable [Nm] {O : Ob} {X : Cx} {E : XK}
def rSumT (K : PySem.W.Frag) : List V → Hp → VK → Prop := fun vs H Q => ∃ (a : Addr) (ns : List Int), vs = [V.ref a] ∧ (SqL K H a (ns.map V.int) ∨ SqT K H a (ns.map V.int)) ∧ Q (.int ns.sum) H
theorem cr_sumT (hc : X.calm = true) : CallR X (.builtin "sum") (rSumT X.K) := by
  intro pins s σ H vs us Q I r h
  obtain ⟨a, ns, rfl, hs | hs, q⟩ := h
  · exact cr_sum hc pins s σ H _ us Q I r ⟨a, ns, rfl, hs, q⟩
  · obtain ⟨its, rv, ht, _⟩ := I.tuple hs
    rw [Vals.ref1 r]
    have hi : IntsAre its ns := rv.ints
    obtain ⟨xs, e⟩ := hi.allInts.items
    have hn : numsOf (intItems xs).toList = ns := by rw [← e]; exact hi.numsOf
    rw [nums_intItems] at hn
    rw [e] at ht
    refine PySem.W.ktm_sumG (I.ok.hd hc) ht fun h' tk t' hk => ?_
    rw [preSum_eq, List.take_of_length_le (by simp), hn]
    exact ⟨.int _, H, I.kept hk, ⟨_, rfl⟩, q⟩
def sumD : D → WD D
  | .list xs => fun Q _ => orStuck (intsOf xs) fun ns => Q (.int ns.sum)
  | .tuple xs => fun Q _ => orStuck (intsOf xs) fun ns => Q (.int ns.sum)
  | _ => fun _ _ => False
theorem cbd_sum : CbD O X (rSumT X.K) (one1 sumD) := fun P H xs ds Qd Ed Q hd hx hg hQ => by
  cases hx with
  | nil => exact hg.elim
  | cons h r =>
    cases r with
    | cons _ _ => exact hg.elim
    | nil =>
      cases h with
      | lst e n r =>
        obtain ⟨ns, e2, q⟩ := of_orStuck hg
        have := intsOf_dv r e2
        subst this
        exact ⟨_, ns, rfl, .inl (.inl (.inl e)), hQ.here (.int _) q⟩
      | tup e r =>
        obtain ⟨ns, e2, q⟩ := of_orStuck hg
        have := intsOf_dv r e2
        subst this
        exact ⟨_, ns, rfl, .inr e.sq, hQ.here (.int _) q⟩
      | _ => exact hg.elim
def isMax (ns : List Int) (m : Int) : Prop := m ∈ ns ∧ ∀ y, y ∈ ns → y ≤ m
def isMin (ns : List Int) (m : Int) : Prop := m ∈ ns ∧ ∀ y, y ∈ ns → m ≤ y
def maxD : D → WD D
  | .list xs => fun Q _ => orStuck (intsOf xs) fun ns => 0 < ns.length ∧ ∀ m, isMax ns m → Q (.int m)
  | _ => fun _ _ => False
def minD : D → WD D
  | .list xs => fun Q _ => orStuck (intsOf xs) fun ns => 0 < ns.length ∧ ∀ m, isMin ns m → Q (.int m)
  | _ => fun _ _ => False
theorem cbd_max : CbD O X (rMax X.K) (one1 maxD) := fun P H xs ds Qd Ed Q hd hx hg hQ => by
  cases hx with
  | nil => exact hg.elim
  | cons h r =>
    cases r with
    | cons _ _ => exact hg.elim
    | nil =>
      cases h with
      | lst e n r =>
        obtain ⟨ns, e2, l, q⟩ := of_orStuck hg
        have := intsOf_dv r e2
        subst this
        exact ⟨_, ns, rfl, .inl (.inl e), l, fun m h1 h2 => hQ.here (.int _) (q m ⟨h1, h2⟩)⟩
      | _ => exact hg.elim
theorem cbd_min : CbD O X (rMin X.K) (one1 minD) := fun P H xs ds Qd Ed Q hd hx hg hQ => by
  cases hx with
  | nil => exact hg.elim
  | cons h r =>
    cases r with
    | cons _ _ => exact hg.elim
    | nil =>
      cases h with
      | lst e n r =>
        obtain ⟨ns, e2, l, q⟩ := of_orStuck hg
        have := intsOf_dv r e2
        subst this
        exact ⟨_, ns, rfl, .inl (.inl e), l, fun m h1 h2 => hQ.here (.int _) (q m ⟨h1, h2⟩)⟩
      | _ => exact hg.elim
theorem zdh {Q : D → Prop} {E : Str → Prop} (ns : List Int) : sumD (.list (intsD ns)) Q E = Q (.int ns.sum) := by
  show orStuck (intsOf (intsD ns)) _ = _
  rw [intsOf_ints]
  rfl
theorem zdg {Q : D → Prop} {E : Str → Prop} (ns : List Int) : sumD (.tuple (intsD ns)) Q E = Q (.int ns.sum) := by
  show orStuck (intsOf (intsD ns)) _ = _
  rw [intsOf_ints]
  rfl
theorem maxD_l {Q : D → Prop} {E : Str → Prop} (ns : List Int) : maxD (.list (intsD ns)) Q E = (0 < ns.length ∧ ∀ m, isMax ns m → Q (.int m)) := by
  show orStuck (intsOf (intsD ns)) _ = _
  rw [intsOf_ints]
  rfl
theorem minD_l {Q : D → Prop} {E : Str → Prop} (ns : List Int) : minD (.list (intsD ns)) Q E = (0 < ns.length ∧ ∀ m, isMin ns m → Q (.int m)) := by
  show orStuck (intsOf (intsD ns)) _ = _
  rw [intsOf_ints]
  rfl
/-! ### x, y, z = two new lists and a value -/
def sPar3L (i j m : Nat) (fa fb : Rho → WD (List D)) (fc : Rho → WD D) : FS := fun Γ k => fa (clean Γ) (fun xs => fb (clean Γ) (fun ys => fc (clean Γ) (fun d => k.nx (((Γ.set i (some (.own (.lst xs)))).set j (some (.own (.lst ys)))).set m (some (.val d)))) k.ex) k.ex) k.ex
theorem ds_par3L {a b c : Expr} {pos : Pos} {i j m : Nat} {x y z : Str} {fa fb : Rho → WD (List D)} {fc : Rho → WD D} {px py pz pt : Pos} {kt k2 pt2} (hc : X.calm = true) (hN : X.N.Nodup) (ha : DF O X E a fa) (hb : DF O X E b fb) (hC : DE O X E c fc) (hw : swappedStores [.Tuple [.Name x px, .Name y py, .Name z pz] kt pt] (.Tuple [a, b, c] k2 pt2) X.env = pure (some [x, y, z]))
    (hi : X.N[i]? = some x := by rfl) (hj : X.N[j]? = some y := by rfl) (hm : X.N[m]? = some z := by rfl) (hij : i ≠ j := by decide) (him : i ≠ m := by decide) (hjm : j ≠ m := by decide)
    (hx : X.env.scope.names.lookup x = some .local := by rfl) (hy : X.env.scope.names.lookup y = some .local := by rfl) (hz : X.env.scope.names.lookup z = some .local := by rfl)
    (hs : swapsWithSole [.Tuple [.Name x px, .Name y py, .Name z pz] kt pt] (.Tuple [a, b, c] k2 pt2) pos.line X.env = pure false := by rfl)
    (h1 : starEach [a, b, c] X.env = (false, eval a X.env) :: starEach [b, c] X.env := by rfl) (h2 : starEach [b, c] X.env = (false, eval b X.env) :: starEach [c] X.env := by rfl) (h3 : starEach [c] X.env = (false, eval c X.env) :: starEach [] X.env := by rfl) :
    DS O X E (.Assign [.Tuple [.Name x px, .Name y py, .Name z pz] kt pt] (.Tuple [a, b, c] k2 pt2) pos) (sPar3L i j m fa fb fc) := by
  obtain ⟨ta, a1, a2⟩ := ha
  obtain ⟨tb, b1, b2⟩ := hb
  obtain ⟨tc, c1, c2⟩ := hC
  refine ⟨_, ps_par3 hc hN hi hj hm hij him hjm hx hy hz (pa_cons a1 (pa_cons b1 (pa_cons c1 pa_nil h3) h2) h1) hw hs, fun H0 P0 Γ σ H own k D hd r hf l => a2 _ _ σ H _ _ _ (r.dom hd) r.rs hf (fun p vs ds H1 s1 n1 e1 v1 q1 => ?_) (l.exH r)⟩
  have hp : ∀ c, (Pw P0 own c ∨ c = p) → Pw P0 own c ∨ Nn H c := fun c z => z.imp id fun q => by rw [q]; exact n1
  have hd1 : Dom H1 (fun c => Pw P0 own c ∨ c = p) := (r.dom hd).own s1 e1 mb_lst
  refine b2 (fun c => Pw P0 own c ∨ c = p) _ σ H1 _ _ _ hd1 (r.rs.kf hp (.of s1) (r.dom hd)) q1 (fun q ws es H2 s2 n2 e2 v2 q2 => ?_) ((l.exH r).same s1)
  have hp2 : ∀ c, ((Pw P0 own c ∨ c = p) ∨ c = q) → Pw P0 own c ∨ Nn H c := fun c z => by
    rcases z with z | z
    · exact hp c z
    · rw [z]
      exact .inr (s1.free n2)
  have hd2 : Dom H2 (fun c => (Pw P0 own c ∨ c = p) ∨ c = q) := hd1.own s2 e2 mb_lst
  refine c2 (fun c => (Pw P0 own c ∨ c = p) ∨ c = q) _ σ H2 _ _ _ hd2 (r.rs.kf hp2 (.of (s1.trans s2)) (r.dom hd)) q2 (fun v d H3 s3 v3 q3 => ⟨_, _, _, rfl, ?_⟩) (((l.exH r).same s1).same s2)
  have r1 := own_new (i := i) (c := .lst ds) r hd s1 n1 ⟨vs, e1, v1⟩
  have pw : ∀ c, Pw P0 (ownSet own i p) c → Pw P0 own c ∨ c = p := fun c z => by
    rcases z with z | ⟨m, z⟩
    · exact .inl (.inl z)
    · unfold ownSet at z
      split at z
      · exact .inr (Option.some.inj z).symm
      · exact .inl (.inr ⟨m, z⟩)
  have r2 := own_new (i := j) (c := .lst es) r1 hd s2 n2 ⟨ws, e2, v2.less fun c z => z.imp (pw c) id⟩
  have pw2 : ∀ c, Pw P0 (ownSet (ownSet own i p) j q) c → (Pw P0 own c ∨ c = p) ∨ c = q := fun c z => by
    rcases z with z | ⟨m, z⟩
    · exact .inl (.inl (.inl z))
    · unfold ownSet at z
      split at z
      · exact .inr (Option.some.inj z).symm
      · exact .inl (pw c (.inr ⟨m, z⟩))
  exact l.nx _ _ _ _ ((r2.step s3).set (i := m) (v3.less pw2)) q3
theorem zdd {fa fb : Rho → WD (List D)} {f : Rho → WD D} {Γ : Env} {k : KS} (i j m : Nat) : sPar3L i j m fa fb f Γ k = fa (clean Γ) (fun xs => fb (clean Γ) (fun ys => f (clean Γ) (fun d => k.nx (((Γ.set i (some (.own (.lst xs)))).set j (some (.own (.lst ys)))).set m (some (.val d)))) k.ex) k.ex) k.ex := propext Iff.rfl
end
end DL

namespace DL
open PySem PySem.Spec PyProof.Rows L2
section
variable [Nm] {O : Ob} {X : Cx} {E : XK}
/-! ### x, y = a value and a new list, by way of a tuple -/
theorem ds_tgtVF {a b : Expr} {pos : Pos} {i j : Nat} {x y : Str} {fa : Rho → WD D} {fb : Rho → WD (List D)} {px py pt : Pos} {kt k2 pt2} (hc : X.calm = true) (hN : X.N.Nodup) (ha : DE O X E a fa) (hb : DF O X E b fb)
    (hi : X.N[i]? = some x := by rfl) (hj : X.N[j]? = some y := by rfl)
    (hx : Loc X.env.scope x := by first | exact Or.inl rfl | exact Or.inr rfl) (hfx : X.fn x = true ∨ X.env.scope.names.lookup x = some .local := by first | exact .inl rfl | exact .inr rfl | assumption)
    (hy : Loc X.env.scope y := by first | exact Or.inl rfl | exact Or.inr rfl) (hfy : X.fn y = true ∨ X.env.scope.names.lookup y = some .local := by first | exact .inl rfl | exact .inr rfl | assumption)
    (hs : swapsWithSole [.Tuple [.Name x px, .Name y py] kt pt] (.Tuple [a, b] k2 pt2) pos.line X.env = pure false := by rfl) (hw : swappedStores [.Tuple [.Name x px, .Name y py] kt pt] (.Tuple [a, b] k2 pt2) X.env = pure none := by rfl)
    (h0 : (assignEach [Expr.Tuple [.Name x px, .Name y py] kt pt] X.env).map (·.2) = [assign (.Tuple [.Name x px, .Name y py] kt pt) X.env] := by rfl)
    (g1 : (assignEach [Expr.Name x px, .Name y py] X.env).map (·.2) = assign (.Name x px) X.env :: (assignEach [Expr.Name y py] X.env).map (·.2) := by rfl) (g2 : (assignEach [Expr.Name y py] X.env).map (·.2) = assign (.Name y py) X.env :: (assignEach [] X.env).map (·.2) := by rfl)
    (g3 : (assignEach [Expr.Name x px, .Name y py] X.env).length = 2 := by rfl) (g4 : (assignEach [Expr.Name x px, .Name y py] X.env).findIdx? (·.1) = none := by rfl)
    (h1 : starEach [a, b] X.env = (false, eval a X.env) :: starEach [b] X.env := by rfl) (h2 : starEach [b] X.env = (false, eval b X.env) :: starEach [] X.env := by rfl) :
    DS O X E (.Assign [.Tuple [.Name x px, .Name y py] kt pt] (.Tuple [a, b] k2 pt2) pos) (sParVF i j fa fb) := by
  obtain ⟨ta, a1, a2⟩ := ha
  obtain ⟨tb, b1, b2⟩ := hb
  refine ⟨_, ps_asg (pe_tupF (pa_cons a1 (pa_cons b1 pa_nil h2) h1)) (pg_tup hc (pgs_cons (pg_name hN hi hx hfx) (pgs_cons (pg_name hN hj hy hfy) pgs_nil g2) g1) g3 g4) hs hw h0, fun H0 P0 Γ σ H own k D hd r hf l => a2 _ _ σ H _ _ _ (r.dom hd) r.rs hf (fun v d H1 s1 v1 q1 => ?_) (l.exH r)⟩
  refine b2 _ _ σ H1 _ _ _ ((r.dom hd).same s1) (r.rs.same s1) q1 (fun p ws es H2 s2 n2 e2 v2 q2 => ?_) ((l.exH r).same s1)
  refine ⟨show 2 ≤ sizeLine from size_eq ▸ (by decide : 2 ≤ 16777216), fun q o nq no => ?_⟩
  have hq : Same H2 (upd H2 q (HO.frz o (HO.tup [v, V.ref p]))) := same_new nq
  have e3 : (upd H2 q (HO.frz o (HO.tup [v, V.ref p]))) p = some (HO.lst ws) := hq.all _ _ e2 no_lst
  have r3 := own_new (i := j) (c := .lst es) ((r.step s1).set (i := i) v1) hd (s2.trans hq) n2 ⟨ws, e3, v2.same hq⟩
  have sq : TqT X.K (upd H2 q (HO.frz o (HO.tup [v, V.ref p]))) q [v, V.ref p] := .inl ⟨o, no, upd_same⟩
  exact ⟨q, [v, .ref p], rfl, sq.sq, rfl, _, _, rfl, _, _, rfl, rfl, l.nx _ _ _ _ r3 q2⟩
end
end DL

/-! ### an exception that is caught and kept -/
namespace DL
open PySem PySem.Spec L2
theorem excO_ok {P : Program} {w : World} {H : Hp} {h : Heap} {a : Addr} {cls : Value} {d : Option Addr} {oe : Obj} {vs : Array Value} (e : h.get? a = some oe) (z : Zc cls d oe) (hd : oe.data = .fields vs) : ObjOk P w H h a (ExcO a cls d) :=
  ⟨⟨oe, vs, e, z, hd⟩, ⟨oe, e⟩, fun _ _ ⟨o, us, e1, e2, e3⟩ st => ⟨o, us, st _ e1, e2, e3⟩⟩
section
variable {X : Cx} {pins : List (Addr × Obj)} {σ : L2.St} {H : Hp} {s t : Shared}
/-- an object that is new to us is tracked from now on -/
theorem Inv.track (J : Inv X pins σ H t) (I : Inv X pins σ H s) (hex : X.ex = []) {a : Addr} {o : HO} (na : H a = none) (new : t.heap.get? a = none) (ok : ObjOk X.prog X.w (upd H a o) s.heap a o) : Inv X pins σ (upd H a o) s := by
  have nx : ∀ b, b ∉ X.ex := fun b z => by rw [hex] at z; cases z
  have old : ∀ {b : Addr} {u : Obj}, t.heap.get? b = some u → b ≠ a := fun {b u} e z => by
    rw [z, new] at e
    cases e
  have s0 : ∀ {b : Addr} {u : Obj}, X.s_0.heap.get? b = some u → b ≠ a := fun {b u} e => by
    obtain ⟨u', e'⟩ := J.base.there b u e (nx b)
    exact old e'
  have tr : ∀ {b : Addr} {u : HO}, H b = some u → b ≠ a := fun e => ne_of_none e na
  have nL : X.env.locals ≠ a := by
    obtain ⟨m, ⟨ob, _, _, e, _⟩, _⟩ := J.loc
    exact old e
  refine ⟨I.ok, I.os, I.bare, ⟨I.base.keep, I.base.slot, fun b u e n z => ?_, I.base.there, fun b xs e => ?_, fun b u xs e => ?_, fun b ps e => ?_⟩, I.loc, I.cell, ?_, fun x c e => ?_, fun p hp => ?_, fun b u e => ?_, I.len⟩
  · rw [upd_ne (s0 e)]
    exact I.base.free b u e n z
  · have q := I.base.tups b xs e
    rw [upd_ne (tr q)]
    exact q
  · have q := I.base.frzs b u xs e
    rw [upd_ne (tr q)]
    exact q
  · obtain ⟨more, q⟩ := I.base.tbls b ps e
    exact ⟨more, by rw [upd_ne (tr q)]; exact q⟩
  · rw [upd_ne nL]
    exact I.free
  · obtain ⟨v, ob, e1, _⟩ := J.cell x c e
    rw [upd_ne (old e1)]
    exact I.freeC x c e
  · obtain ⟨q1, q2, q3⟩ := I.pin p hp
    obtain ⟨j1, _⟩ := J.pin p hp
    exact ⟨q1, by rw [upd_ne (old j1)]; exact q2, q3⟩
  · by_cases hb : b = a
    · subst hb
      rw [upd_same] at e
      cases e
      exact ok
    · rw [upd_ne hb] at e
      exact (I.hok b u e).stay (fun _ _ _ q => q) (fun c q => by rw [upd_ne (tr q)]; exact q) fun c xs q => by rw [upd_ne (tr q)]; exact q
theorem Inv.inSuite (I : Inv X pins σ H s) (a : Addr) : Inv (X.suite a (X.pn ++ pins)) [] σ H s :=
  ⟨I.ok.suite a _, I.os, I.bare, I.base, I.loc, I.cell, I.free, I.freeC, fun p hp => I.pin p (by rw [List.append_nil] at hp; exact hp), I.hok, I.len⟩
theorem Inv.outSuite {a : Addr} {q : List (Addr × Obj)} (I : Inv (X.suite a (X.pn ++ pins)) q σ H s) (ok : X.Ok) : Inv X pins σ H s :=
  ⟨ok, I.os, I.bare, I.base, I.loc, I.cell, I.free, I.freeC, fun p hp => I.pin p (List.mem_append_left _ hp), I.hok, I.len⟩
end
/-- what 'except x as n' wishes, where the exception is kept -/
def wKeep (K : PySem.W.Frag) (m : Nat) (c : Value) (i : Nat) (ts : Addr → Value → Option Addr → TS) (W : WX) (D : Ends) : WX := fun cls d σ H => σ.length = m →
  ∃ b, PySem.W.exmOne K cls c = some b ∧ (b = false → W cls d σ H) ∧ (b = true → ∀ a, H a = none → ts a cls d ⟨fun σ' H' => D.nx (σ'.set i none) H', D.rt, fun σ' H' => D.bk (σ'.set i none) H', fun σ' H' => D.ct (σ'.set i none) H'⟩ (σ.set i (some (.ref a))) (upd H a (ExcO a cls d)))
section
variable {X : Cx} {x n : Str} {c : Value} {i : Nat} {body suite : List Stmt} {b0 : Stmt} {np pos pos' : Pos} {tb : WX → TS} {ts : Addr → Value → Option Addr → TS} {W0 : WX}
theorem ps_try_keep (hs : X.stack = X.env :: X.outer) (hf : X.env.frame = some X.env.locals) (hex : X.ex = []) (hN : X.N.Nodup) (hi : X.N[i]? = some n) (hln : X.env.kindOf n = some .local) (hc : Names X x c) (tk : Takes X W0)
    (hb : ∀ (W : WX) (pn : List (Addr × Obj)) (xe : Value → Shared → Prop), Takes (X.tr pn xe) W → PassesOwn (model X.prog X.w) X.A X.env xe → PSs (X.tr pn xe) body (tb W))
    (hsu : ∀ (a : Addr) (cls : Value) (d : Option Addr) (pn : List (Addr × Obj)), PSs (X.suite a pn) (b0 :: suite) (ts a cls d)) :
    PS X (.Try body [.ExceptHandler (some (.Name x np)) (some n) (b0 :: suite) pos'] [] [] pos) (fun D σ H => tb (wKeep X.K X.N.length c i ts W0 D) D σ H) := by
  refine ⟨fun pins s σ H D I h => ?_⟩
  have ok := I.ok
  have frm : X.A.frames = some (X.env :: X.outer) := by
    rw [ok.frames, hs]
  have lc : Loc X.env.scope n := .inl hln
  let hnd : List ExceptHandler := [.ExceptHandler (some (.Name x np)) (some n) (b0 :: suite) pos']
  refine wpAny_Try_except (wpAny_mono ((hb (wKeep X.K X.N.length c i ts W0 D) (X.pn ++ pins) (fun e s1 => wpAny (model X.prog X.w) X.A (noteFrame e X.env) (fun _ s2 => wpAny (model X.prog X.w) X.A (setFlight e none) (fun _ s3 =>
    wpAny (model X.prog X.w) X.A (handleBy e X.env hnd) (SP X pins D) X.xe s3) X.xe s2) X.xe s1) (fun u s1 xx => ?_) PassesOwn.looking).run [] s σ H D (I.toTry _) h) (fun f s1 sp => ?_) (fun _ _ q => q))
  · obtain ⟨a, B, t, ps, σ1, H1, cls, d, rfl, J0, nb, up, sky, na, os, ag, hw⟩ := xx
    have J : Inv X pins σ1 H1 t := J0.ofTry ok
    obtain ⟨b, hb1, hno, hyes⟩ := hw J.len
    rw [show (X.tr (X.pn ++ pins) _).stack = X.env :: X.outer from hs] at sky
    show wpAny (model X.prog X.w) X.A (noteFrame (.ref a) X.env) _ _ _
    refine Sky.land Zc.steady frm hf sky fun h3 f3 up3 => ?_
    have J3 : Inv X pins σ1 H1 { s1 with heap := h3 } := J.landed nb f3.1 (up.trans up3) os ag
    obtain ⟨o3, v3, g3, z3, d3⟩ := f3.there
    have nfr : a ∉ frs X.stack := fun hm => by
      rw [hs] at hm
      obtain ⟨_, o', e', q⟩ := f3.2.2.1.mem hm
      rw [g3] at e'
      cases e'
      exact q _ d3
    have new : t.heap.get? a = none := by
      cases q : t.heap.get? a with
      | none => rfl
      | some u =>
        have := nb a u q nfr
        rw [f3.2.1] at this
        cases this
    have S3 := Inv.inSuite (Inv.track (o := ExcO a cls d) J J3 hex na new (excO_ok g3 z3 d3)) a
    refine wpAny_handleBy_cons (codeAny_handlers_test ?_) (by intro q; cases q)
    have lt : PySem.W.Looks (model X.prog X.w) h3 (typeOf (.ref a)) cls := fun A Q E s k q => wpAny_typeOf_ref (k _ _ g3) (by rw [z3.1]; exact q)
    have lm := PySem.W.exm_one (M := model X.prog X.w) J3.kIn lt hb1
    have ask : ∀ {Q : Value → Shared → Prop} {E : Value → Shared → Prop}, Q c { s1 with heap := h3 } → wpAny (model X.prog X.w) (X.A.mark (some (.ref a))) (eval (.Name x np) X.env) Q E { s1 with heap := h3 } := fun {Q E} q => by
      obtain ⟨hg, hdbg, hm | ⟨hm, hv, hnn⟩⟩ := hc
      · exact ld_glob (X := X.suite a (X.pn ++ pins)) S3 hg hm q hdbg
      · exact ld_blt (X := X.suite a (X.pn ++ pins)) S3 hg hm hv q hnn hdbg
    refine ask (lm.here ?_)
    cases b with
    | true =>
      refine codeAny_handlers_suite_as (HandSPX.lands_againZ f3 fun h4 f4 up4 => ?_)
      have J4 : Inv X pins σ1 H1 { s1 with heap := h4 } := J.landed nb f4.1 ((up.trans up3).trans up4) os ag
      obtain ⟨o4, v4, g4, z4, d4⟩ := f4.there
      have S4 := Inv.inSuite (Inv.track (o := ExcO a cls d) J J4 hex na new (excO_ok g4 z4 d4)) a
      refine store_ok (X := X.suite a (X.pn ++ pins)) (v := .ref a) S4 hN hi lc rfl (fun s5 S5 => ?_) (.inr hln)
      refine wpAny_mono ((hsu a cls d (X.pn ++ pins)).run [] s5 _ _ _ S5 (hyes rfl a na)) (fun f s6 sp => ?_) (fun _ _ z => False.elim z)
      have fin : ∀ {σ6 : L2.St} {H6 : Hp} {Q : Shared → Prop}, Inv (X.suite a (X.pn ++ pins)) [] σ6 H6 s6 → (∀ s7, Inv X pins (σ6.set i none) H6 s7 → Q s7) →
          wpAny (model X.prog X.w) X.A (do bindName X.env n .none; unbindBehindTheSuite X.env n pos') (fun _ s7 => Q s7) X.xe s6 := fun {σ6 H6 Q} S6 hq => gone_ok (Inv.outSuite S6 ok) hN hi hln hq
      cases f with
      | next =>
        obtain ⟨σ6, H6, S6, q6⟩ := sp
        exact fin S6 fun s7 J7 => ⟨_, _, J7, q6⟩
      | brk =>
        obtain ⟨σ6, H6, S6, q6⟩ := sp
        exact fin S6 fun s7 J7 => ⟨_, _, J7, q6⟩
      | cont =>
        obtain ⟨σ6, H6, S6, q6⟩ := sp
        exact fin S6 fun s7 J7 => ⟨_, _, J7, q6⟩
      | ret u =>
        obtain ⟨v6, σ6, H6, S6, r6, q6⟩ := sp
        exact fin S6 fun s7 J7 => ⟨_, _, _, J7, r6, q6⟩
    | false =>
      show wpAny _ X.A (handleBy (.ref a) X.env []) _ _ _
      refine wpAny_handleBy_nil ?_
      obtain ⟨k1, k2, k3, oe, vs, T, oT, ts', he, hz, hd, h1, hr⟩ := id f3
      unfold PySem.passOn
      refine wpAny_bind (wpAny_field he hd h1 ?_)
      rw [if_neg (show ¬ ((Value.ref T == Value.none) = true) from by simp)]
      have out : wpAny (model X.prog X.w) X.A (setFlight (.ref a) X.env.frame) (fun _ s4 => wpAny (model X.prog X.w) X.A (throw (.ref a) : Sem Flow) (SP X pins D) X.xe s4) X.xe { s1 with heap := h3 } := by
        rw [hf]
        refine HandSPX.setFlight_upZ f3 fun h4 hh4 up4 => wpAny_throw (tk _ _ ?_)
        exact ⟨a, B, t, pins, σ1, H1, cls, d, rfl, J, nb, (up.trans up3).trans up4, .inr (.inr (by rw [hs]; exact hh4)), na, os, ag, hno rfl⟩
      first
        | exact wpAny_bind (wpAny_pure (wpAny_bind out))
        | exact wpAny_bind out
  · cases f with
    | next =>
      obtain ⟨σ', H', J', q⟩ := sp
      exact wpAny_execs_nil ⟨σ', H', J'.ofTry ok, q⟩
    | brk =>
      obtain ⟨σ', H', J', q⟩ := sp
      exact ⟨σ', H', J'.ofTry ok, q⟩
    | cont =>
      obtain ⟨σ', H', J', q⟩ := sp
      exact ⟨σ', H', J'.ofTry ok, q⟩
    | ret u =>
      obtain ⟨v, σ', H', J', r, q⟩ := sp
      exact ⟨v, σ', H', J'.ofTry ok, r, q⟩
end
end DL

namespace DL
open PySem PySem.Spec L2
/-! ### raise -/
abbrev veL : List Value := [.type "ValueError", .type "Exception", .type "BaseException", .type "object"]
/-- an exception class of the program's own -/
def XcF (K : PySem.W.Frag) (mg : Str → Option Value) (x : Str) : Prop := ∃ C, mg x = some (.ref C) ∧ PySem.W.excIn K C veL "ValueError.__new__" = true ∧ PySem.W.keepIn K (.ref C) = true ∧ PySem.W.subIn K (.ref C) (.type "BaseException") = some true ∧ PySem.W.typeIn K (.ref C) = some (.type "type")
def sRaise (x : Str) : FS := fun _ k => k.ex x
section
variable [Nm] {O : Ob} {X : Cx} {E : XK}
theorem ds_raise {x m : Str} {j : Nat} {p p2 cpos pos : Pos} (ai : Air X E) (hx : XcF X.K X.mg x) (hc : X.calm = true := by rfl) (hg : Gl X x := by rfl) (hdb : (x == ("__debug__" : Str)) = false := by decide) : DS O X E (.Raise (some (.Call (.Name x p) [.Constant (.str m) j p2] [] cpos)) none pos) (sRaise x) := by
  obtain ⟨C, hm, h1, h2, h3, h4⟩ := hx
  exact ⟨_, ps_raise hc ai.takes (pmk_own PySem.F.excBase_ValueError h1 hm h2 (raises_own h3 h4) hg hdb), fun H0 P0 Γ σ H own k D hd r hf l => l.exH r x C H (Same.refl H) hm hf⟩
end
/-! ### isinstance of an exception that is held -/
def resL : List (Str × Str) := [("InvalidWay", "way"), ("InvalidWays", "ways"), ("InvalidSize", "size"), ("InvalidKey", "key"), ("InvalidKeys", "all"), ("InvalidRow", "row"), ("InvalidSight", "sight"), ("InvalidSeen", "seen"), ("InvalidOrder", "order"), ("InvalidTable", "table"), ("InvalidNumber", "number"), ("InvalidDeed", "deed"), ("InvalidText", "text"), ("TooLarge", "large"), ("Alike", "alike"), ("Sound", "sound"), ("NotShown", "shown"), ("NoRow", "there"), ("TooMany", "many"), ("NothingToUndo", "undo")]
def resW (c : Str) : Option Str := resL.lookup c
/-- what is known of the classes -/
structure XcA (K : PySem.W.Frag) (mg : Str → Option Value) : Prop where
  slot : ∃ S, mg "SlotError" = some (.ref S) ∧ ∀ n w C, resW n = some w → mg n = some (.ref C) → PySem.W.exmOne K (.ref C) (.ref S) = some true
  own : ∀ n w, resW n = some w → ∃ C, mg n = some (.ref C)
  exc : ∀ n w C, resW n = some w → mg n = some (.ref C) → ExcC K C ∧ PySem.W.kitOne K (.ref C) (.type "ValueError") = some true
  one : ∀ n w C m u C', resW n = some w → mg n = some (.ref C) → resW m = some u → mg m = some (.ref C') → PySem.W.kitOne K (.ref C) (.ref C') = some (decide (n = m))
def rIsX (K : PySem.W.Frag) : List V → Hp → VK → Prop := fun xs H Q => ∃ (a C : Addr) (c : V) (cv : Value) (b : Bool), xs = [.ref a, c] ∧ H a = some (ExcO a (.ref C) none) ∧ ExcC K C ∧ (∀ u, RelV c u → u = cv) ∧ PySem.W.kitOne K (.ref C) cv = some b ∧ Q (.bl b) H
theorem call_isX {X : Cx} : CallR X (.builtin "isinstance") (rIsX X.K) := by
  intro pins s σ H xs us Q I r h
  obtain ⟨a, C, c, cv, b, rfl, ha, hC, hcv, e, q⟩ := h
  obtain ⟨⟨oe, vs, g, hz, hv⟩, _⟩ := I.hok a _ ha
  cases r with
  | cons rx rr =>
    cases rr with
    | cons rt rr =>
      cases rr
      cases rx
      have ec := hcv _ rt
      subst ec
      have J : PySem.W.InstAt s.heap a oe C none := by
        obtain ⟨oc, od, oda, osl⟩ := oe
        obtain ⟨h1, h2⟩ := hz
        dsimp only at h1 h2 hv
        subst h1 h2 hv
        exact ⟨g, rfl, rfl, trivial⟩
      exact PySem.W.kia_one (PySem.W.handS_kitx_exc hC.hg hC.hk hC.hs hC.hd hC.ha hC.hn hC.ht hC.hm) I.kIn J e (fun z => nomatch z) fun tk => ⟨.bl b, H, I.kept (t' := tk) fun _ _ z => z, rfl, q⟩
def isXD (c : Str) : D → WD D
  | .dict [(.none, .str n)] => fun Q _ => (∃ w, resW n = some w) ∧ Q (.bool (decide (n = c)))
  | _ => fun _ _ => False
def isVD : D → WD D
  | .dict [(.none, .str n)] => fun Q _ => (∃ w, resW n = some w) ∧ Q (.bool true)
  | _ => fun _ _ => False
theorem isX_inv {c : Str} {d : D} {Q : D → Prop} {E : Str → Prop} (h : isXD c d Q E) : ∃ n w, d = excD n ∧ resW n = some w ∧ Q (.bool (decide (n = c))) := by
  unfold isXD at h
  split at h
  · rename_i n
    exact ⟨n, h.1.choose, rfl, h.1.choose_spec, h.2⟩
  · exact h.elim
theorem isV_inv {d : D} {Q : D → Prop} {E : Str → Prop} (h : isVD d Q E) : ∃ n w, d = excD n ∧ resW n = some w ∧ Q (.bool true) := by
  unfold isVD at h
  split at h
  · rename_i n
    exact ⟨n, h.1.choose, rfl, h.1.choose_spec, h.2⟩
  · exact h.elim
section
variable [Nm] {X : Cx} {E : XK}
theorem de_isX {P : Program} {w : World} {T u : Str} {e : Expr} {fa : Rho → WD D} {p1 p2 pos : Pos} (A : XcA X.K X.mg) (hT : resW T = some u) (ha : DE (obT P w X.mg) X E e fa) (hg : Gl X "isinstance") (hm : X.mg "isinstance" = none) (hg2 : Gl X T) (hd2 : (T == ("__debug__" : Str)) = false := by decide)
    (hv : bootBuiltins "isinstance" = some (.builtin "isinstance") := by decide +kernel)
    (hs : starEach [e, .Name T p2] X.env = (false, eval e X.env) :: starEach [.Name T p2] X.env := by rfl) (hs2 : starEach [.Name T p2] X.env = (false, eval (.Name T p2) X.env) :: starEach [] X.env := by rfl)
    (hpl : (backTo pos (starEach [.Name T p2] X.env)).any (·.1) = false := by rfl) :
    DE (obT P w X.mg) X E (.Call (.Name "isinstance" p1) [e, .Name T p2] [] pos) (eUn1 (isXD T) fa) := by
  obtain ⟨ta, a1, a2⟩ := ha
  obtain ⟨C', hC'⟩ := A.own T u hT
  have hN : PE X (.Name T p2) (tC (.ref C')) := pe_glob (v := .ref C') hg2 hC' rfl hd2
  refine ⟨_, pe_callB call_isX hg hm hv (pa_cons a1 (pa_cons hN pa_nil hs2) hs) (by decide) (by decide) hs hpl, fun P ρ σ H Qd Ed Q hd hr hf hQ hE => a2 P ρ σ H _ Ed _ hd hr hf (fun v d H1 s1 h1 q1 => ?_) hE⟩
  obtain ⟨n, w, rfl, hn, q⟩ := isX_inv q1
  obtain ⟨a, C, rfl, hC, e1⟩ := of_exc h1
  exact ⟨a, C, .ref C', .ref C', _, rfl, e1, (A.exc n w C hn hC).1, fun u r => r, A.one n w C T _ C' hn hC hT hC', hQ _ _ H1 s1 (.bl _) q⟩
theorem de_isV {P : Program} {w : World} {e : Expr} {fa : Rho → WD D} {p1 p2 pos : Pos} (A : XcA X.K X.mg) (ha : DE (obT P w X.mg) X E e fa) (hg : Gl X "isinstance") (hm : X.mg "isinstance" = none) (hg2 : Gl X "ValueError") (hm2 : X.mg "ValueError" = none)
    (hv : bootBuiltins "isinstance" = some (.builtin "isinstance") := by decide +kernel) (hv2 : bootBuiltins "ValueError" = some (.type "ValueError") := by decide +kernel)
    (hs : starEach [e, .Name "ValueError" p2] X.env = (false, eval e X.env) :: starEach [.Name "ValueError" p2] X.env := by rfl) (hs2 : starEach [.Name "ValueError" p2] X.env = (false, eval (.Name "ValueError" p2) X.env) :: starEach [] X.env := by rfl)
    (hpl : (backTo pos (starEach [.Name "ValueError" p2] X.env)).any (·.1) = false := by rfl) :
    DE (obT P w X.mg) X E (.Call (.Name "isinstance" p1) [e, .Name "ValueError" p2] [] pos) (eUn1 isVD fa) := by
  obtain ⟨ta, a1, a2⟩ := ha
  have hN : PE X (.Name "ValueError" p2) (tC (.ty "ValueError")) := pe_bltn hg2 hm2 hv2 rfl (by decide) (by decide)
  refine ⟨_, pe_callB call_isX hg hm hv (pa_cons a1 (pa_cons hN pa_nil hs2) hs) (by decide) (by decide) hs hpl, fun P ρ σ H Qd Ed Q hd hr hf hQ hE => a2 P ρ σ H _ Ed _ hd hr hf (fun v d H1 s1 h1 q1 => ?_) hE⟩
  obtain ⟨n, w, rfl, hn, q⟩ := isV_inv q1
  obtain ⟨a, C, rfl, hC, e1⟩ := of_exc h1
  exact ⟨a, C, .ty "ValueError", .type "ValueError", true, rfl, e1, (A.exc n w C hn hC).1, fun u r => r, (A.exc n w C hn hC).2, hQ _ _ H1 s1 (.bl _) q⟩
end
end DL

namespace DL
open PySem PySem.Spec L2
/-! ### _law_result(lambda: e) -/
/-- what is made of the lambda's reading -/
def TTr [Nm] (O : Ob) (K : PySem.W.Frag) (mg : Str → Option Value) : (XK → Hp → VK → Prop) → Hp → VK → Prop := fun tl H Q => ∃ (P : Addr → Prop) (Qd : D → Prop), Dom H P ∧ VOk O K P H Qd Q ∧ ∀ (H' : Hp) (E' : XK) (Q' : VK), Same H H' →
  (∀ v H2 d, Same H' H2 → Dv O K H2 P v d → Qd (.tuple [.str "returns", d]) → Q' v H2) → (∀ n w C H2, Same H' H2 → mg n = some (.ref C) → resW n = some w → Qd (.tuple [.str w]) → E' (.ref C) none H2) → tl E' H' Q'
def noneG (n : Nat) : Env := List.replicate n none
theorem noneG_rg [Nm] {O : Ob} {K : PySem.W.Frag} {H H' : Hp} {P : Addr → Prop} {σ : L2.St} (s : Same H H') : Rg O K H P (noneG σ.length) σ H' (fun _ => none) := by
  refine ⟨s, fun _ _ _ e => (nomatch e), fun _ _ e => (nomatch e), ⟨by simp [clean, noneG], fun i d e => ?_⟩, fun i c e => ?_⟩
  · unfold clean noneG at e
    rw [List.map_replicate, List.getElem?_replicate] at e
    split at e <;> cases e
  · unfold noneG at e
    rw [List.getElem?_replicate] at e
    split at e <;> cases e
section
variable [Nm] {X : Cx}
/-- caught, answer = None, None -/
def tTwoN (K : PySem.W.Frag) (ic ia : Nat) : TS := tAsg (tTupF (tCons (tC .non) (tCons (tC .non) tNil))) (gTup K 2 (gCons (gName ic) (gCons (gName ia) gNil)))
theorem give_res {P : Program} {w : World} {N : List Str} {sc : Scope} {g : Addr} {cdg : Value} {q : Str} {s0 : Stmt} {rest : List Stmt} {G : FS} {ic ia ie : Nat} {pa p1 p2 p3 np pb pe p4 p5 p6 : Pos}
    (A : XcA X.K X.mg) (hge : sc.names.lookup ("SlotError" : Str) = some .globalImplicit) (nd : N.Nodup) (n0 : N[0]? = some ("call" : Str)) (nc : N[ic]? = some ("caught" : Str)) (na : N[ia]? = some ("answer" : Str)) (ne : N[ie]? = some ("e" : Str))
    (lc : sc.names.lookup ("caught" : Str) = some .local) (la : sc.names.lookup ("answer" : Str) = some .local) (le : sc.names.lookup ("e" : Str) = some .local) (i1 : 0 < ic) (i2 : ic < ia) (i3 : ic ≠ ie)
    (hs0 : ∀ s H, PS (cxOf C8.CX0 X.prog X.w X.K X.mg X.base N "_law_result" sc g cdg X.A X.stack s H C8.E0).nox s0 (tTwoN X.K ic ia))
    (hr : ∀ s H, DSs (obT P w X.mg) (cxOf C8.CX0 X.prog X.w X.K X.mg X.base N "_law_result" sc g cdg X.A X.stack s H C8.E0).nox E0 rest G)
    (hG0 : ∀ d (k : KS), k.rt (.tuple [.str "returns", d]) → G (((noneG N.length).set ic (some (.val .none))).set ia (some (.val d))) k)
    (hG1 : ∀ n w (k : KS), resW n = some w → k.rt (.tuple [.str w]) → G ((noneG N.length).set ic (some (.val (excD n)))) k) :
    LamX.GivesTo X N "_law_result" sc g cdg (s0 :: .Try [.Assign [.Name "answer" pa] (.Call (.Name "call" p1) [] [] p2) p3] [.ExceptHandler (some (.Name "SlotError" np)) (some "e") [.Assign [.Name "caught" pb] (.Name "e" pe) p4] p5] [] [] p6 :: rest) "call" q (TTr (obT P w X.mg) X.K X.mg) := by
  intro f c' s H Q tl act hc ⟨P', Qd, hd, hQ, htl⟩
  obtain ⟨S, hS, hSub⟩ := A.slot
  obtain ⟨r0, r1, r2⟩ := hr s H
  have lic : ic < N.length := (List.getElem?_eq_some_iff.mp nc).1
  have lia : ia < N.length := (List.getElem?_eq_some_iff.mp na).1
  have lie : ie < N.length := (List.getElem?_eq_some_iff.mp ne).1
  have l0 : 0 < N.length := (List.getElem?_eq_some_iff.mp n0).1
  refine ⟨_, pss_cons (hs0 s H) (pss_cons (ps_try_keep (i := ie) (c := .ref S) (W0 := fun _ _ _ _ => False)
      (tb := fun W D σ H => ∃ Ech : XK, (∀ cls d σ' H', Ech cls d H' → W cls d σ' H') ∧ σ[0]? = some (some (.ref f)) ∧ H c' = some (LamX.CodeO c' q) ∧ tl Ech H (fun v H' => D.nx (σ.set ia (some v)) H'))
      (ts := fun a cls d D σ H => ∃ v, σ[ie]? = some (some v) ∧ D.nx (σ.set ic (some v)) H)
      rfl rfl rfl nd ne le ⟨hge, by decide, .inl hS⟩ takes0 (fun W pn xe tk _ => ?_) (fun a cls d pn => ?_)) r1), ?_⟩
  · refine ⟨fun pins s' σ H' D I h' => ?_⟩
    obtain ⟨Ech, hW, h1, h2, h3⟩ := h'
    have hp := act W pn xe Ech p1 p2 tk hW
    have hq := pss_one (ps_set (i := ia) (pos := p3) (pos' := pa) nd na (.inl la) hp rfl (.inl rfl))
    exact hq.run pins s' σ H' D I ⟨h1, h2, h3⟩
  · exact pss_one (ps_set (i := ic) nd nc (.inl lc) (pe_var (i := ie) ne (.inl le) (by decide) (by decide)) rfl (.inl rfl))
  · have lst : (L2.start N [V.ref f]).length = N.length := by simp [L2.start]; omega
    have e0 : (L2.start N [V.ref f])[0]? = some (some (.ref f)) := rfl
    generalize L2.start N [V.ref f] = σ0 at lst e0
    refine ⟨show 2 ≤ sizeLine from size_eq ▸ (by decide : 2 ≤ 16777216), fun p o np no => ?_⟩
    have s1 : Same H (upd H p (.frz o (.tup [.non, .non]))) := same_new np
    have sq : TqT X.K (upd H p (.frz o (.tup [.non, .non]))) p [.non, .non] := .inl ⟨o, no, upd_same⟩
    have hc1 : (upd H p (.frz o (.tup [.non, .non]))) c' = some (LamX.CodeO c' q) := s1.all _ _ hc no_ext
    have tl1 := fun E' Q' => htl _ E' Q' s1
    generalize upd H p (.frz o (.tup [.non, .non])) = H1 at s1 sq hc1 tl1
    refine ⟨p, _, rfl, sq.sq, rfl, _, _, rfl, _, _, rfl, rfl, ?_⟩
    have lk : Lk (obT P w X.mg) (cxOf C8.CX0 X.prog X.w X.K X.mg X.base N "_law_result" sc g cdg X.A X.stack s H C8.E0).nox E0 H P' { nx := fun _ => False, rt := Qd } { nx := fun _ H' => Q .non H', rt := Q } :=
      ⟨fun _ _ _ _ _ z => z.elim, fun v d H' s h q => hQ v d H' s h q, fun _ _ _ _ _ z => z.elim, fun _ _ _ _ _ z => z.elim, fun _ _ _ _ _ z => z.elim⟩
    refine ⟨fun cls d H2 => ∃ n w C, cls = .ref C ∧ d = none ∧ Same H1 H2 ∧ X.mg n = some (.ref C) ∧ resW n = some w ∧ Qd (.tuple [.str w]), fun cls d σ' H2 h hl => ?_, ?_, hc1, tl1 _ _ (fun v H2 d s2 hv q => ?_) fun n w C H2 s2 hm hn q => ⟨n, w, C, rfl, rfl, s2, hm, hn, q⟩⟩
    · obtain ⟨n, u, C, rfl, rfl, s2, hm, hn, q⟩ := h
      have hl' : σ'.length = N.length := hl
      refine ⟨true, hSub n u C hn hm, fun z => (nomatch z), fun _ a na => ⟨.ref a, by rw [List.getElem?_set_self (by omega)], ?_⟩⟩
      have s3 : Same H (upd H2 a (ExcO a (.ref C) none)) := (s1.trans s2).trans (same_new na)
      have rg := noneG_rg (O := obT P w X.mg) (K := X.K) (P := P') (σ := ((σ'.set ie (some (.ref a))).set ic (some (.ref a))).set ie none) s3
      have rg2 := rg.set (i := ic) (v := .ref a) (d := excD n) (dv_exc ⟨a, C, rfl, hm, upd_same⟩)
      have el : (((σ'.set ie (some (V.ref a))).set ic (some (.ref a))).set ie none).length = N.length := by simp [hl']
      have es : (((σ'.set ie (some (V.ref a))).set ic (some (.ref a))).set ie none).set ic (some (.ref a)) = ((σ'.set ie (some (.ref a))).set ic (some (.ref a))).set ie none := by
        refine List.ext_getElem? fun m => ?_
        by_cases hm : ic = m
        · subst hm
          rw [List.getElem?_set_self (by simp; omega), List.getElem?_set_ne (Ne.symm i3), List.getElem?_set_self (by simp; omega)]
        · rw [List.getElem?_set_ne hm]
      rw [el, es] at rg2
      exact r2 H P' _ _ _ _ _ _ hd rg2 (hG1 n u _ hn q) lk
    · rw [List.getElem?_set_ne (by omega), List.getElem?_set_ne (by omega)]
      exact e0
    · have rg := noneG_rg (O := obT P w X.mg) (K := X.K) (P := P') (σ := ((σ0.set ic (some .non)).set ia (some .non)).set ia (some v)) (s1.trans s2)
      have rg2 := (rg.set (i := ic) (v := .non) (d := .none) .non).set (i := ia) (v := v) (d := d) (hv.less fun a z => z.elim id fun ⟨_, z⟩ => nomatch z)
      have el : (((σ0.set ic (some V.non)).set ia (some .non)).set ia (some v)).length = N.length := by simp [lst]
      have es : ((((σ0.set ic (some V.non)).set ia (some .non)).set ia (some v)).set ic (some .non)).set ia (some v) = ((σ0.set ic (some .non)).set ia (some .non)).set ia (some v) := by
        refine List.ext_getElem? fun m => ?_
        by_cases h1 : ia = m
        · subst h1
          rw [List.getElem?_set_self (by simp; omega), List.getElem?_set_self (by simp; omega)]
        · rw [List.getElem?_set_ne h1]
          by_cases h2 : ic = m
          · subst h2
            rw [List.getElem?_set_self (by simp; omega), List.getElem?_set_ne h1, List.getElem?_set_ne h1, List.getElem?_set_self (by omega)]
          · rw [List.getElem?_set_ne h2]
      rw [el, es] at rg2
      exact r2 H P' _ _ _ _ _ _ hd rg2 (hG0 d _ q) lk
/-! ### the call -/
def eRes (f : Rho → WD D) : Rho → WD D := fun ρ Q Ed => f ρ (fun d => Q (.tuple [.str "returns", d])) (fun c => ∃ w, resW c = some w ∧ Q (.tuple [.str w]))
theorem air_lam {A : Around} {outer : List PySem.Env} {s : Shared} {H : Hp} {E : XK} {scope : Scope} {f c' : Addr} : Air (LamX.lamCx X A outer s H E scope f c') E := by
  have tk : Takes (LamX.lamCx X A outer s H E scope f c') (fun cls d _ H => E cls d H) := takes_of (E := E) rfl rfl rfl rfl
  exact ⟨passes_call tk fun _ _ _ _ h => h, passes_of (K := fun e s'' => L2.CX X.prog X.w outer H s E e s'') rfl, tk⟩
theorem Same.ext {H H' : Hp} (e : LamX.ExtN H H') (t : TabOk H') : Same H H' := ⟨fun a o h n => e a o h fun ps z => n ⟨ps, z⟩, fun _ => t⟩
/-- what is known of _law_result's text -/
structure ResOk (P : Program) (w : World) (K : PySem.W.Frag) (mg : Str → Option Value) (base : Heap) (st : Stmt) (Ng : List Str) : Prop where
  fn : FnT K mg "_law_result" st
  sc : FnScope Ng ["call"] (defScope st)
  bn : Bn "_law_result" st ["call"]
  n0 : Ng[0]? = some ("call" : Str)
  vis : Vis (defScope st) "call"
  give : ∀ (X : Cx) (k : Nat) (q : Str) (g : Addr) (cdg : Value), X.prog = P → X.w = w → X.K = K → X.mg = mg → X.base = base → Room (k + 2) X.A → LamX.GivesTo X Ng "_law_result" (defScope st) g cdg (defBody st) "call" q (TTr (obT P w mg) K mg)
theorem de_res {E : XK} {st : Stmt} {Ng : List Str} {k j : Nat} {x : Str} {params : Arguments} {body : Expr} {scope : Scope} {f : Rho → WD D} {p lpos pos : Pos} (R : ResOk X.prog X.w X.K X.mg X.base st Ng) (tc : TabC X.mg X.base x X.env.code) (hr : Room j X.A)
    (hbody : ∀ (A : Around) (outer : List PySem.Env) (s : Shared) (H : Hp) (E : XK) (f' c' : Addr), Room k (A.deeper (LamX.lamEnv X scope s.heap.objs.size f' c')) → Air (LamX.lamCx X A outer s H E scope f' c') E → DE (obT X.prog X.w X.mg) (LamX.lamCx X A outer s H E scope f' c') E body f)
    (hk : k + 2 ≤ j := by decide) (hq : X.env.qual = x ++ ".<locals>." := by rfl) (hg : Gl X "_law_result" := by rfl) (L : LamX.LamS X.env.scope scope := by exact LamX.lamS_by (by kernel_rfl)) (hdef : defaultsOf params X.env = ([], []) := by rfl)
    (hbind : ∀ (q : Str) (cl : List (Str × Addr)) (pm cv ctv : Value), bindArgs (PySem.W.kla_fn "<lambda>" q params body scope cl pm cv ctv) ⟨[], []⟩ = pure [] := by exact fun _ _ _ _ _ => rfl) :
    DE (obT X.prog X.w X.mg) X E (.Call (.Name "_law_result" p) [.Lambda params body scope lpos] [] pos) (eRes f) := by
  obtain ⟨c, Q1, hc, TB, hin⟩ := tc
  obtain ⟨g, fd, hm, hF⟩ := R.fn
  have hb := hF.bindsN R.bn
  have hkp := hF.kp
  obtain ⟨oc, od, dV, kV, doc, pm, an, cdv, ct, osl, rfl, lk, hcd, _, _⟩ := hF.ex
  have hG := R.give X k (X.env.qual ++ "<lambda>") g cdv rfl rfl rfl rfl rfl (hr.mono hk)
  have hin' : (Q1, X.env.qual ++ "<lambda>") ∈ Nm.tabs := by
    rw [hq]
    exact hin
  refine ⟨_, LamX.pe_lamcall (T := Nm.tabs) (t := fun E => tE (obT X.prog X.w X.mg) X.K X.mg E f) hg hm hkp lk hcd hb R.sc R.n0 R.vis hG TB hc hin' (fun p hp e => Nm.uniq p hp _ hin' e) (hr.mono hk) L hdef hbind (fun A outer s H E f' c' hr' => (hbody A outer s H E f' c' hr' air_lam).pe),
    fun P ρ σ H Qd Ed Q hd hr hf hQ hE => ⟨hd.tab, fun H1 e1 t1 => ?_⟩⟩
  have s1 : Same H H1 := .ext e1 t1
  refine ⟨P, Qd, hd.same s1, fun v d H2 s2 h q => hQ v d H2 (s1.trans s2) h q, fun H' E' Q' s2 h1 h2 => ?_⟩
  exact ⟨P, ρ, _, _, (hd.same s1).same s2, (hr.same s1).same s2, hf, fun v d H3 s3 h q => h1 v H3 d s3 h q, fun c a H3 s3 m ⟨w, e, q⟩ => h2 c w a H3 s3 m e q⟩
end
end DL

namespace DL
open PySem PySem.Spec L2
/-! ### facts of the head: classes, tables -/
def xcB (K : PySem.W.Frag) (x : Str) : Bool := PySem.W.excIn K (He.ga K x) veL "ValueError.__new__" && (PySem.W.keepIn K (.ref (He.ga K x)) && (decide (PySem.W.subIn K (.ref (He.ga K x)) (.type "BaseException") = some true) && decide (PySem.W.typeIn K (.ref (He.ga K x)) = some (.type "type"))))
theorem xcB_ok {K : PySem.W.Frag} {mg : Str → Option Value} {x : Str} (h : xcB K x = true) (m : mg x = some (.ref (He.ga K x))) : XcF K mg x := by
  unfold xcB at h
  simp only [Bool.and_eq_true, decide_eq_true_eq] at h
  exact ⟨_, m, h.1, h.2.1, h.2.2.1, h.2.2.2⟩
def ecB (K : PySem.W.Frag) (D : Addr) : Bool := decide (PySem.W.findIn K (.ref D) "__getattribute__" = some (some (.builtin "BaseException.__getattribute__"))) && (decide (PySem.W.findIn K (.ref D) "__getattr__" = some none) && (decide (PySem.W.subIn K (.ref D) (.type "BaseException") = some true) && (PySem.W.hasDictIn K D
  && (decide (PySem.W.findIn K (.ref D) "__class__" = some (some (.builtin "object.__class__"))) && (decide (PySem.W.specialIn K (.builtin "object.__class__") "__get__" = some (some (.builtin "getset_descriptor.__get__"))) && (decide (PySem.W.takesIn K (.builtin "object.__class__") = some true) && decide (PySem.W.mroIn K D (.type "object") = some true)))))))
theorem ecB_ok {K : PySem.W.Frag} {D : Addr} (h : ecB K D = true) : ExcC K D := by
  unfold ecB at h
  simp only [Bool.and_eq_true, decide_eq_true_eq] at h
  exact ⟨h.1, h.2.1, h.2.2.1, h.2.2.2.1, h.2.2.2.2.1, h.2.2.2.2.2.1, h.2.2.2.2.2.2.1, h.2.2.2.2.2.2.2⟩
def xaB (K : PySem.W.Frag) : Bool := resL.all fun p => ecB K (He.ga K p.1) && (decide (PySem.W.kitOne K (.ref (He.ga K p.1)) (.type "ValueError") = some true) && (decide (PySem.W.exmOne K (.ref (He.ga K p.1)) (.ref (He.ga K "SlotError")) = some true) && resL.all fun q => decide (PySem.W.kitOne K (.ref (He.ga K p.1)) (.ref (He.ga K q.1)) = some (decide (p.1 = q.1)))))
theorem resW_mem {n w : Str} (h : resW n = some w) : (n, w) ∈ resL := PySem.mem_of_lookup h
theorem xaB_ok {K : PySem.W.Frag} {mg : Str → Option Value} (h : xaB K = true) (hs : mg "SlotError" = some (.ref (He.ga K "SlotError"))) (m : ∀ p ∈ resL, mg p.1 = some (.ref (He.ga K p.1))) : XcA K mg := by
  have all : ∀ p ∈ resL, ExcC K (He.ga K p.1) ∧ PySem.W.kitOne K (.ref (He.ga K p.1)) (.type "ValueError") = some true ∧ PySem.W.exmOne K (.ref (He.ga K p.1)) (.ref (He.ga K "SlotError")) = some true ∧ ∀ q ∈ resL, PySem.W.kitOne K (.ref (He.ga K p.1)) (.ref (He.ga K q.1)) = some (decide (p.1 = q.1)) := fun p hp => by
    have := List.all_eq_true.mp h p hp
    simp only [Bool.and_eq_true, decide_eq_true_eq, List.all_eq_true] at this
    exact ⟨ecB_ok this.1, this.2.1, this.2.2.1, this.2.2.2⟩
  have ad : ∀ {n w : Str} {C : Addr}, resW n = some w → mg n = some (.ref C) → C = He.ga K n := fun {n w C} e e1 => by
    have := m _ (resW_mem e)
    rw [e1] at this
    cases this
    rfl
  refine ⟨⟨_, hs, fun n w C e e1 => ?_⟩, fun n w e => ⟨_, m _ (resW_mem e)⟩, fun n w C e e1 => ?_, fun n w C n' w' C' e e1 e2 e3 => ?_⟩
  · rw [ad e e1]
    exact (all _ (resW_mem e)).2.2.1
  · rw [ad e e1]
    exact ⟨(all _ (resW_mem e)).1, (all _ (resW_mem e)).2.1⟩
  · rw [ad e e1, ad e2 e3]
    exact (all _ (resW_mem e)).2.2.2 _ (resW_mem e2)
def tabsOf (K : PySem.W.Frag) (tf : List He.Defn) : List (Addr × Str) := tf.map fun p => ((He.cT K p).2, p.1 ++ ".<locals>." ++ "<lambda>")
def uniqB (l : List (Addr × Str)) : Bool := l.all fun p => l.all fun q => !decide (p.1 = q.1) || decide (p.2 = q.2)
def nmOf (K : PySem.W.Frag) (tf : List He.Defn) (h : uniqB (tabsOf K tf) = true) : Nm := ⟨tabsOf K tf, fun p hp q hq e => by
  have := List.all_eq_true.mp (List.all_eq_true.mp h p hp) q hq
  simpa [e] using this⟩
theorem tabF_of {K : PySem.W.Frag} {mg : Str → Option Value} {base : Heap} {tf : List He.Defn} (hu : uniqB (tabsOf K tf) = true) {x : Str} (hx : (x, none) ∈ tf) (hm : mg x = some (.ref (He.ga K x))) {params : Arguments} {body : List Stmt} {scope : Scope} {dvs : List V} {kws : List (Str × V)} {fd : FuncData}
    (F : FunD K x x params body scope dvs kws (He.ga K x) fd) (tb : ∀ p ∈ tf.map (He.cT K), LamX.TabB base mg p.1 p.2) : @TabF (nmOf K tf hu) K mg base x := by
  intro f oc od fd' osl e lk
  obtain rfl : f = He.ga K x := by
    rw [hm] at e
    cases e
    rfl
  obtain ⟨oc2, od2, dV, kV, doc, pm, an, cdv, ct, osl2, e2, lk2, hcd, _, _⟩ := F.ex
  rw [lk] at lk2
  cases lk2
  obtain ⟨c, ec⟩ := He.codeIn_ref hcd
  have hc : fd.code = .ref c := by
    rw [e2]
    exact ec
  have e4 : He.codeOf K (x, none) = c := He.codeOf_eq (p := (x, none)) lk hc
  refine ⟨c, (He.cT K (x, none)).2, hc, ?_, List.mem_map.mpr ⟨_, hx, rfl⟩⟩
  have := tb _ (List.mem_map.mpr ⟨_, hx, rfl⟩)
  rw [show (He.cT K (x, none)).1 = c from e4] at this
  exact this
/-- the law's promise at the head -/
theorem law_at {l : PySem.W.OpenLaw} {w : World} {K : PySem.W.Frag} {mg : Str → Option Value} {fa : Addr} {h : Heap} {k : Nat} {fs : List He.Fa} {fn : List He.DefD} {tf : List He.Defn} {ex : PySem.W.Frag → Bool} {params : Arguments} {body : List Stmt} {scope : Scope} {fd : FuncData} (KX : K.In h) (c : He.SaysX fs fn [] tf ex w h K) (hu : uniqB (tabsOf K tf) = true)
    (F : FunD K "law" "law" params body scope [] [] fa fd) (hb : ∀ (kV doc pm : Value) (an : Option Addr) (cdv ct : Value) (us : List Value), us.length = ["script"].length → bindArgs (PySem.W.fnOf "law" "law" params body scope .none kV doc pm an cdv ct) ⟨us, []⟩ = pure ((["script"] : List Str).zip us))
    (hF : ∀ base : Heap, (∀ p ∈ tf.map (He.cT K), LamX.TabB base mg p.1 p.2) → FnOk l.prog w K mg base (L2.CX l.prog w) k fa fd ["script"] (@spLaw (nmOf K tf hu) K)) : LamX.LawAtS l w K (L2.CX l.prog w) k 63 "script" mg fa h := by
  have mp : ∀ {Q : Addr × Addr → Prop}, (∀ p ∈ tf, Q (He.cT K p)) → ∀ p ∈ tf.map (He.cT K), Q p := fun hq p hp => by
    obtain ⟨q, h1, rfl⟩ := List.mem_map.mp hp
    exact hq q h1
  have b := L2.FunD.bindsA (ps := ["script"]) F hb
  refine ⟨fd, tf.map (He.cT K), @spLaw (nmOf K tf hu) K, mp (Q := fun p => h.get? p.2 = _) c.empty, mp (Q := fun p => K.lookup p.2 = none) c.out, mp (Q := fun p => PySem.W.CodeHd h p.1 p.2) fun p hp => PySem.W.codeHd_of_K KX (c.hd p hp), fun s v => b s [v] rfl, fun H a ns hl _ hT hS => ⟨a, ns, rfl, hl, hS, fun p hp => ?_, fun _ => rfl⟩, fun base _ _ tb => hF base tb⟩
  obtain ⟨q, h1, rfl⟩ := List.mem_map.mp hp
  exact LamX.TabS.nil (hT _ (List.mem_map.mpr ⟨q, h1, rfl⟩))
theorem no_cx {P : Program} {w : World} {H : Hp} {s : Shared} {e : Value} {s' : Shared} (h : L2.CX P w [] H s (fun _ _ _ => False) e s') : False := by
  obtain ⟨_, _, _, _, _, _, _, _, _, _, _, _, z⟩ := h
  exact z
section
variable [Nm] {O : Ob} {X : Cx} {E : XK}
theorem de_stuckE {e : Expr} : DE O X E e eStuck := de_stuck pe_never
/-! ### f(a, .., x = b, ..) -/
def eCbK (g : List D → WD D) (fa fk : Rho → WD (List D)) : Rho → WD D := fun ρ Q Ed => fa ρ (fun ds => fk ρ (fun es => g (ds ++ es) Q Ed) Ed) Ed
def DK (O : Ob) (X : Cx) (E : XK) (kws : List Keyword) (f : Rho → WD (List D)) : Prop := ∃ t, PK X kws t ∧ ∀ (P : Addr → Prop) (ρ : Rho) (σ : L2.St) (H : Hp) (Qd : List D → Prop) (Ed : Str → Prop) (Q : List V → Hp → Prop),
  Dom H P → Rs O X.K P ρ σ H → f ρ Qd Ed → (∀ vs ds H', Same H H' → DvAll O X.K H' P vs ds → ds.length = kws.length → Qd ds → Q vs H') → XOk X E H Ed → t σ H Q
theorem dk_nil : DK O X E [] aNil := ⟨_, pk_nil, fun P ρ σ H Qd Ed Q hd hr hf hQ hE => hQ [] [] H (Same.refl H) .nil rfl hf⟩
theorem dk_cons {e : Expr} {nm : Option Str} {kpos : Pos} {kws : List Keyword} {fe : Rho → WD D} {fk : Rho → WD (List D)} (he : DE O X E e fe) (hk : DK O X E kws fk) : DK O X E (⟨nm, e, kpos⟩ :: kws) (aCons fe fk) := by
  obtain ⟨te, e1, e2⟩ := he
  obtain ⟨tk, k1, k2⟩ := hk
  refine ⟨_, pk_cons e1 k1, fun P ρ σ H Qd Ed Q hd hr hf hQ hE => e2 P ρ σ H _ Ed _ hd hr hf (fun v d H1 s1 h1 q1 => k2 P ρ σ H1 _ Ed _ (hd.same s1) (hr.same s1) q1 (fun vs ds H2 s2 h2 l2 q2 => ?_) (hE.same s1)) hE⟩
  exact hQ _ _ H2 (s1.trans s2) (.cons (h1.same s2) h2) (congrArg (· + 1) l2) q2
theorem kbinds_of {K : PySem.W.Frag} {x : Str} {st : Stmt} {f : Addr} {fd : FuncData} {ps ks : List Str} {n m : Nat} (hF : FunD K x x (defArgs st) (defBody st) (defScope st) [] [] f fd) (hl : n + m = ps.length) (hp : 0 < ps.length)
    (h : ∀ (kV doc pm : Value) (an : Option Addr) (cdv ct : Value) (us ws : List Value), us.length = n → ws.length = m → bindArgs (PySem.W.fnOf x x (defArgs st) (defBody st) (defScope st) .none kV doc pm an cdv ct) ⟨us, ks.zip ws⟩ = pure (ps.zip (us ++ ws))) :
    KBinds K fd ps ks (fun us ws => if us.length = n then us ++ ws else []) (fun us ws => if us.length = n then us ++ ws else []) := by
  refine ⟨fun s us ws hk he => ?_, fun {vs us zs ws} r rz => ?_⟩
  · by_cases hn : us.length = n
    · rw [if_pos hn] at he ⊢
      rw [List.length_append] at he
      obtain ⟨oc, od, dV, kV, doc, pm, an, cdv, ct, osl, rfl, lk, hcd, hD, hK⟩ := hF.ex
      rcases hD with ⟨_, rfl⟩ | ⟨z, _⟩
      · exact .of_eq (h kV doc pm an cdv ct us ws hn (by omega))
      · exact absurd rfl z
    · rw [if_neg hn] at he
      have : (0 : Nat) = ps.length := he
      omega
  · rw [r.length]
    split
    · exact r.append rz
    · exact .nil
theorem pe_callK0 {CX : CXT} {k : Nat} {f : Addr} {fd : FuncData} {ps ks : List Str} {sp : Sp} {x : Str} {p pos : Pos} {kws : List Keyword} {tk : TA} {g : List Value → List Value → List Value} {gV : List V → List V → List V} (F : FnOk X.prog X.w X.K X.mg X.base CX k f fd ps sp) (hr : Room k X.A) (hg : Gl X x) (hm : X.mg x = some (.ref f)) (hk : PySem.W.keepIn X.K (.ref f) = true) (hb : KBinds X.K fd ps ks g gV) (hx : Passes CX X E)
    (hkw : PK X kws tk) (hall : (backToKw pos (keywordEach kws X.env)).all (·.1.isSome) = true) (hks : (backToKw pos (keywordEach kws X.env)).filterMap (·.1) = ks)
    (hdb : (x == ("__debug__" : Str)) = false) (hpl : ((backTo pos (starEach [] X.env)).any (·.1) || (backToKw pos (keywordEach kws X.env)).any (·.1.isNone)) = false) :
    PE X (.Call (.Name x p) [] kws pos) (fun σ H Q => tk σ H fun zs H2 => sp (gV [] zs) H2 Q E) := by
  refine ⟨fun pins s σ H Q I h => wpAny_Call_Name_kw (ld_glob I hg hm (PySem.W.callWith_KW0 (h₀ := X.base) I.ok.mod.kin hk hall (thn (hkw.run pos pins s σ H _ I h) fun ws s2 ⟨zs, H2, I2, rz, q2⟩ => ⟨I2.kIn, ?_⟩) hpl) hdb)⟩
  rw [hks]
  exact run_fnk F hr hb hx I2 .nil rz q2
theorem de_fnK {x : Str} {k j : Nat} {ps ks : List Str} {st : Stmt} {F : List D → WD D} {e : Expr} {es : List Expr} {kws : List Keyword} {fa fk : Rho → WD (List D)} {p pos : Pos} (C : Cal O X.prog X.w X.K X.mg X.base x k ps F) (hT : FnT X.K X.mg x st)
    (h : ∀ (kV doc pm : Value) (an : Option Addr) (cdv ct : Value) (us ws : List Value), us.length = (e :: es).length → ws.length = kws.length → bindArgs (PySem.W.fnOf x x (defArgs st) (defBody st) (defScope st) .none kV doc pm an cdv ct) ⟨us, ks.zip ws⟩ = pure (ps.zip (us ++ ws)))
    (hr : Room j X.A) (hx : Passes (L2.CX X.prog X.w) X E) (ha : DA O X E (e :: es) fa) (hkw : DK O X E kws fk) (hk : k ≤ j := by decide) (hg : Gl X x := by rfl) (hl : (e :: es).length + kws.length = ps.length := by rfl)
    (hall : (backToKw pos (keywordEach kws X.env)).all (·.1.isSome) = true := by rfl) (hks : (backToKw pos (keywordEach kws X.env)).filterMap (·.1) = ks := by rfl)
    (hdb : (x == ("__debug__" : Str)) = false := by decide) (he : starEach (e :: es) X.env = (false, eval e X.env) :: starEach es X.env := by rfl)
    (hpl : ((backTo pos (starEach (e :: es) X.env)).any (·.1) || (backToKw pos (keywordEach kws X.env)).any (·.1.isNone)) = false := by rfl) :
    DE O X E (.Call (.Name x p) (e :: es) kws pos) (eCbK F fa fk) := by
  obtain ⟨f, fd, a, b, c, d, oc, od, osl, lk⟩ := C
  obtain ⟨f', fd', a', hF⟩ := hT
  obtain rfl : f' = f := by
    rw [a] at a'
    cases a'
    rfl
  obtain ⟨oc2, od2, dV, kV, doc, pm, an, cdv, ct, osl2, e2, lk2, hcd, hD, hK⟩ := hF.ex
  obtain rfl : fd' = fd := by
    rw [lk] at lk2
    cases lk2
    rfl
  have kb := kbinds_of (ks := ks) hF hl (by rw [← hl]; simp only [List.length_cons]; omega) h
  obtain ⟨ta, a1, a2⟩ := ha
  obtain ⟨tk, k1, k2⟩ := hkw
  refine ⟨_, pe_callK d (hr.mono hk) hg a b kb hx a1 k1 hall hks hdb he hpl, fun P ρ σ H Qd Ed Q hd hr hf hQ hE => a2 P ρ σ H _ Ed _ hd hr hf (fun vs ds H1 s1 h1 l1 q1 => k2 P ρ σ H1 _ Ed _ (hd.same s1) (hr.same s1) q1 (fun zs es' H2 s2 h2 l2 q2 => ?_) (hE.same s1)) hE⟩
  show spD O X.K X.mg F ps.length (if vs.length = (e :: es).length then vs ++ zs else []) H2 Q E
  rw [if_pos (by rw [h1.length, l1])]
  exact ⟨P, ds ++ es', Qd, Ed, (hd.same s1).same s2, (h1.same s2).append h2, by rw [List.length_append, l1, l2, hl], q2, fun v d H3 s3 h3 q3 => hQ v d H3 ((s1.trans s2).trans s3) h3 q3, fun c a H3 s3 m z => hE c a H3 ((s1.trans s2).trans s3) m z⟩
theorem de_fnK0 {x : Str} {k j : Nat} {ps ks : List Str} {st : Stmt} {F : List D → WD D} {kws : List Keyword} {fk : Rho → WD (List D)} {p pos : Pos} (C : Cal O X.prog X.w X.K X.mg X.base x k ps F) (hT : FnT X.K X.mg x st)
    (h : ∀ (kV doc pm : Value) (an : Option Addr) (cdv ct : Value) (us ws : List Value), us.length = 0 → ws.length = kws.length → bindArgs (PySem.W.fnOf x x (defArgs st) (defBody st) (defScope st) .none kV doc pm an cdv ct) ⟨us, ks.zip ws⟩ = pure (ps.zip (us ++ ws)))
    (hr : Room j X.A) (hx : Passes (L2.CX X.prog X.w) X E) (hkw : DK O X E kws fk) (hk : k ≤ j := by decide) (hg : Gl X x := by rfl) (hl : 0 + kws.length = ps.length := by rfl) (h0 : 0 < ps.length := by decide)
    (hall : (backToKw pos (keywordEach kws X.env)).all (·.1.isSome) = true := by rfl) (hks : (backToKw pos (keywordEach kws X.env)).filterMap (·.1) = ks := by rfl)
    (hdb : (x == ("__debug__" : Str)) = false := by decide) (hpl : ((backTo pos (starEach [] X.env)).any (·.1) || (backToKw pos (keywordEach kws X.env)).any (·.1.isNone)) = false := by rfl) :
    DE O X E (.Call (.Name x p) [] kws pos) (eCb F fk) := by
  obtain ⟨f, fd, a, b, c, d, oc, od, osl, lk⟩ := C
  obtain ⟨f', fd', a', hF⟩ := hT
  obtain rfl : f' = f := by
    rw [a] at a'
    cases a'
    rfl
  obtain ⟨oc2, od2, dV, kV, doc, pm, an, cdv, ct, osl2, e2, lk2, hcd, hD, hK⟩ := hF.ex
  obtain rfl : fd' = fd := by
    rw [lk] at lk2
    cases lk2
    rfl
  have kb := kbinds_of (ks := ks) hF hl h0 h
  obtain ⟨tk, k1, k2⟩ := hkw
  refine ⟨_, pe_callK0 d (hr.mono hk) hg a b kb hx k1 hall hks hdb hpl, fun P ρ σ H Qd Ed Q hd hr hf hQ hE => k2 P ρ σ H _ Ed _ hd hr hf (fun zs es' H2 s2 h2 l2 q2 => ?_) hE⟩
  exact ⟨P, es', Qd, Ed, hd.same s2, h2, by rw [l2, ← hl]; omega, q2, fun v d H3 s3 h3 q3 => hQ v d H3 (s2.trans s3) h3 q3, fun c a H3 s3 m z => hE c a H3 (s2.trans s3) m z⟩
/-! ### x = x + [..], x one's own -/
def sCat (i : Nat) (f : Rho → WD (List D)) : FS := fun Γ k => ownAt Γ i fun xs => f (clean Γ) (fun ys => (xs.length + ys.length ≤ 1000000) ∧ k.nx (Γ.set i (some (.own (.lst (xs ++ ys)))))) k.ex
theorem ds_cat (i : Nat) {x : Str} {b : Expr} {pos' px bpos pos : Pos} {f : Rho → WD (List D)} (hN : X.N.Nodup) (h : DF O X E b f) (hi : X.N[i]? = some x := by rfl) (hv : Vis X.env.scope x := by first | exact Or.inl rfl | exact Or.inr (Or.inl rfl) | exact Or.inr (Or.inr rfl)) (hdd : (x == ("__debug__" : Str)) = false := by decide) (hcd : (x == ("__classdict__" : Str)) = false := by decide)
    (hx : Loc X.env.scope x := by first | exact Or.inl rfl | exact Or.inr rfl) (hs : swapsWith (.BinOp (.Name x px) .Add b bpos) (some (.Name x pos')) pos.line X.env = pure false := by rfl)
    (hf : X.fn x = true ∨ X.env.scope.names.lookup x = some .local := by first | exact .inl rfl | exact .inr rfl | assumption) : DS O X E (.Assign [.Name x pos'] (.BinOp (.Name x px) .Add b bpos) pos) (sCat i f) := by
  obtain ⟨t, h1, h2⟩ := h
  refine ⟨_, ps_set (i := i) hN hi hx (pe_op op_addD (pe_var hi hv hdd hcd) h1) hs hf, fun H0 P0 Γ σ H own k D hd r hf l => ?_⟩
  obtain ⟨xs, eg, hf⟩ := of_ownAt hf
  obtain ⟨p, eo, es, vs, ep, hv'⟩ := r.ow i (.lst xs) eg
  refine ⟨.ref p, es, h2 _ _ σ H _ _ _ (r.dom hd) r.rs hf (fun q ws ys H1 s1 n1 e1 v1 q1 => ?_) (l.exH r)⟩
  obtain ⟨hle, q1⟩ := q1
  refine .inr (.inr (.inr ⟨p, q, vs, ws, rfl, rfl, s1.all _ _ ep no_lst, e1, ?_, fun z nz => ?_⟩))
  · rw [hv'.length, v1.length]
    exact size_eq ▸ (by omega : xs.length + ys.length ≤ 16777216)
  · have s2 : Same H1 (upd H1 z (.lst (vs ++ ws))) := same_new nz
    have v2 : DvAll O X.K H1 (Pw P0 own) (vs ++ ws) (xs ++ ys) := (hv'.same s1).append (v1.less fun a z => .inl z)
    have r3 := own_new (i := i) (c := .lst (xs ++ ys)) r hd (s1.trans s2) (s1.free (nn nz)) ⟨_, upd_same, v2.fresh (nn nz) s2⟩
    exact l.nx _ _ _ _ r3 q1
theorem zdN {i : Nat} {f : Rho → WD (List D)} {Γ : Env} {k : KS} : sCat i f Γ k = ownAt Γ i fun xs => f (clean Γ) (fun ys => (xs.length + ys.length ≤ 1000000) ∧ k.nx (Γ.set i (some (.own (.lst (xs ++ ys)))))) k.ex := propext Iff.rfl
end
/-! ### rules for rewriting -/
section
variable {ρ : Rho} {Q : D → Prop} {E : Str → Prop} {Γ : Env} {k : KS}
theorem zdK {x : Str} : sRaise x Γ k = k.ex x := propext Iff.rfl
theorem zdL {f : Rho → WD D} : eRes f ρ Q E = f ρ (fun d => Q (.tuple [.str "returns", d])) (fun c => ∃ w, resW c = some w ∧ Q (.tuple [.str w])) := propext Iff.rfl
theorem zdM {g : List D → WD D} {fa fk : Rho → WD (List D)} : eCbK g fa fk ρ Q E = fa ρ (fun ds => fk ρ (fun es => g (ds ++ es) Q E) E) E := propext Iff.rfl
theorem isXD_r {n c : Str} : isXD c (excD n) Q E = ((∃ w, resW n = some w) ∧ Q (.bool (decide (n = c)))) := propext Iff.rfl
theorem isVD_r {n : Str} : isVD (excD n) Q E = ((∃ w, resW n = some w) ∧ Q (.bool true)) := propext Iff.rfl
theorem isND_x {n : Str} : isND false (excD n) .none Q E = Q (.bool false) := propext Iff.rfl
end
/-- an exception of a class that is told -/
theorem res_of {n w : Str} {Q : D → Prop} (e : resW n = some w) (q : Q (.tuple [.str w])) : ∃ w, resW n = some w ∧ Q (.tuple [.str w]) := ⟨w, e, q⟩
end DL

namespace DL
open PySem PySem.Spec PyProof.Rows L2
/-! ### set(xs) of a list of ints (the library has it of a tuple) -/
section
variable {P : Program} {w : World} {A : Around} {E : Value → Shared → Prop} {s : Shared}
theorem call_set_listI {l : Addr} {items : Array Value} (ns : List Int) {Q : Value → Shared → Prop} (hh : A.handled = none) (hl : s.heap.IsList l items) (hit : IntsAre items.toList ns) (hb : ns.length + 1 < scanBound)
    (h : ∀ (h' : Heap) (tk c : Nat), SetR w h' s.heap.objs.size (fun j => decide (j ∈ ns)) c → c ≤ ns.length → (∀ b o, s.heap.get? b = some o → h'.get? b = some o) → Q (.ref s.heap.objs.size) { s with heap := h', toks := tk }) :
    wpAny (model P w) A (call (.type "set") [.ref l]) Q E s := by
  have hisz : items.size = ns.length := by
    have q := IntsAre.length hit
    rw [Array.length_toList] at q
    exact q
  obtain ⟨c, tl, hmro⟩ := F.called_set.mro
  have hmade := F.called_set.made
  have hsub := F.called_set.sub
  refine wpAny_call (codeAny_of_tree ?_)
  show wpAny _ _ (callAny (.type "set") _) _ _ _
  refine wpAny_pure ⟨Code.quiet_builtin _ (by decide +kernel), codeAny_builtin F.entry_type_call ?_⟩
  rw [Around.under_plain (weight_type_call_type "set" [.ref l] []) rfl]
  have h1 := F.called_set.notType
  have h2 := F.called_set.canCreate
  have hct := F.typeCall_set_1 (.ref l)
  repeat (any_goals (first | assumption | wp_step))

  refine codeAny_mono (code_set_led1 (.ref l) (E := E) (Q₁ := fun obj s₁ => obj = .ref s.heap.objs.size ∧ s₁ = { s with heap := s.heap.push { cls := .type "set", dict := none, data := .set #[] 0 (.fresh 0 0 (!w.params.followText "set-order")) } }) ⟨rfl, rfl⟩) fun r s₁ hr => ?_
  cases r with
  | error e => exact hr
  | ok fl =>
    cases fl with
    | ret obj =>
      obtain ⟨rfl, rfl⟩ := hr
      have hS : (s.heap.push { cls := .type "set", dict := none, data := .set #[] 0 (.fresh 0 0 (!w.params.followText "set-order")) }).get? s.heap.objs.size = some { cls := .type "set", dict := none, data := .set #[] 0 (.fresh 0 0 (!w.params.followText "set-order")) } := Heap.get?_push_size _ rfl
      have hT : Shared.TypeIs { s with heap := s.heap.push { cls := .type "set", dict := none, data := .set #[] 0 (.fresh 0 0 (!w.params.followText "set-order")) } } (.ref s.heap.objs.size) "set" := ⟨_, hS, rfl⟩
      have hli := F.called_set.init.lookup
      have hbi := F.called_set.init.bind (.ref s.heap.objs.size)
      repeat (any_goals (first | assumption | wp_step))

      refine codeAny_mono (codeAny_call_builtin (R := wants (fun r s₂ => r = .none ∧ ∃ h' tk c, s₂ = { s with heap := h', toks := tk } ∧ SetR w h' s.heap.objs.size (fun j => decide (j ∈ ns)) c ∧ c ≤ ns.length ∧
          (∀ b o, s.heap.get? b = some o → h'.get? b = some o)) E) F.called_set.init.plain F.entry_set_init (check_set_init_1 hT ?_)) fun r₂ s₂ hr₂ => ?_
      · obtain ⟨ol, hol, hcl, nl, hdl⟩ := hl
        obtain ⟨ocls, odict, odata, oslots⟩ := ol
        simp only at hcl hdl
        subst hcl; subst hdl
        have hol' : (s.heap.push { cls := .type "set", dict := none, data := .set #[] 0 (.fresh 0 0 (!w.params.followText "set-order")) }).get? l = some { cls := .type "list", dict := odict, data := .seq items nl, slots := oslots } := Heap.get?_push_of_some _ hol
        have hsls := F.sub_list_set
        have hslf := F.sub_list_frozenset
        have hne : (Value.type "list" == Value.type "dict") = false := by decide
        have hl1 : (s.heap.push { cls := .type "set", dict := none, data := .set #[] 0 (.fresh 0 0 (!w.params.followText "set-order")) }).IsList l items := ⟨_, hol', rfl, nl, rfl⟩
        unfold Builtin.«set.__init__» noKeywords Builtin.Frozenset.updateFrom
        generalize hPI : pyIter = PI
        wp_walk
        subst hPI

        refine wpAny_pyIter_list hl1 ?_
        refine wpAny_bind (wpAny_runValue ?_)
        have hlS : l < s.heap.objs.size := Heap.lt_size hol
        have hh3 : A.in1.in1.in1.handled = none := by simp [hh]
        have hz1 : (s.heap.push { cls := .type "set", dict := none, data := .set #[] 0 (.fresh 0 0 (!w.params.followText "set-order")) }).objs.size = s.heap.objs.size + 1 := Heap.size_push ..
        have hneI : l ≠ (s.heap.push { cls := .type "set", dict := none, data := .set #[] 0 (.fresh 0 0 (!w.params.followText "set-order")) }).objs.size := by
          rw [Heap.size_push]; exact Nat.ne_of_lt (Nat.lt_succ_of_lt hlS)
        have hSf : s.heap.objs.size ∉ [(s.heap.push { cls := .type "set", dict := none, data := .set #[] 0 (.fresh 0 0 (!w.params.followText "set-order")) }).objs.size, l] := by
          rw [Heap.size_push]; simp only [List.mem_cons, List.mem_singleton, List.not_mem_nil, or_false, not_or]
          exact ⟨Nat.ne_of_lt (Nat.lt_succ_self _), Nat.ne_of_gt hlS⟩
        have hval : ∀ (i : Nat) (v : Value), items[i]? = some v → ∃ k t, ns[i]? = some k ∧ v = .int k t := fun i v hv => by
          have hi : i < ns.length := by rw [← hisz]; exact (Array.getElem?_eq_some_iff.mp hv).1
          obtain ⟨t, e⟩ := PyProof.Rows.IntsAre.int_at hit i v (by rw [Array.getElem?_toList]; exact hv)
          refine ⟨ns[i], t, List.getElem?_eq_getElem hi, ?_⟩
          rw [e, List.getD_eq_getElem?_getD, List.getElem?_eq_getElem hi] <;> rfl
        refine set_update_ints ((Walks.list hh3 _ l hneI items).toS) s.heap.objs.size
          hSf ns hisz hb hval (items.size - 0) 0 _ (by omega) (Nat.zero_le _)
          ⟨⟨_, Heap.get?_push_size _ rfl, rfl, rfl⟩, (hl1.push _)⟩ ?hS0 ?hR
        case hS0 =>
          have hget : ((s.heap.push { cls := .type "set", dict := none, data := .set #[] 0 (.fresh 0 0 (!w.params.followText "set-order")) }).push { cls := .type "list_iterator", data := .fields #[.ref l, .int 0 0] }).get? s.heap.objs.size
              = some { cls := .type "set", dict := none, data := .set #[] 0 (.fresh 0 0 (!w.params.followText "set-order")) } := Heap.get?_push_of_some _ hS
          exact ⟨0, Nat.le_refl 0, setR_new_at hget⟩
        case hR =>
          intro s' c' hm hc' hS'
          obtain ⟨h', g2, d', tk', os'⟩ := s'
          have eg : g2 = s.gens := hm.gens
          have ed : d' = s.drawn := hm.drawn
          have eo : os' = s.os := hm.os
          subst eg; subst ed; subst eo
          show wpAny _ _ _ _ _ _
          refine wpAny_pure ?_
          show wpAny _ _ (ret Value.none) _ _ _
          rw [hisz] at hc'
          refine wpAny_pure ⟨rfl, h', tk', c', rfl, hS', hc', fun b o e => ?_⟩
          have hb0 : b < s.heap.objs.size := Heap.lt_size e
          have hb1 : b ≠ s.heap.objs.size := Nat.ne_of_lt hb0
          have hb2 : b ≠ (s.heap.push { cls := .type "set", dict := none, data := .set #[] 0 (.fresh 0 0 (!w.params.followText "set-order")) }).objs.size := by
            rw [Heap.size_push]; exact Nat.ne_of_lt (Nat.lt_succ_of_lt hb0)
          exact hm.heap b o (by simp only [List.mem_cons, List.mem_singleton, List.not_mem_nil, or_false, not_or]; exact ⟨hb1, hb2⟩) (Heap.get?_push_of_some _ (Heap.get?_push_of_some _ e))

      · cases r₂ with
        | error e => exact hr₂
        | ok fl₂ =>
          cases fl₂ with
          | ret r =>
            obtain ⟨rfl, h', tk, c', rfl, hS', hc', hk'⟩ := hr₂
            repeat (any_goals (first | assumption | wp_step))
            exact h _ _ _ hS' hc' hk'
          | _ => exact hr₂.elim
    | _ => exact hr.elim

end


/-! ### sorted(set(xs)), xs a list or a tuple of ints -/
def insU (k : Int) : List Int → List Int
  | [] => [k]
  | x :: r => if k < x then k :: x :: r else if k = x then x :: r else x :: insU k r
def sortSet : List Int → List Int
  | [] => []
  | k :: r => insU k (sortSet r)
theorem insU_mem {k j : Int} : ∀ {l : List Int}, j ∈ insU k l ↔ j = k ∨ j ∈ l
  | [] => by simp [insU]
  | x :: r => by
    unfold insU
    split
    · simp
    · split
      · rename_i e
        subst e
        simp
      · simp only [List.mem_cons, insU_mem (l := r)]
        constructor
        · rintro (h | h | h) <;> simp [h]
        · rintro (h | h | h) <;> simp [h]
theorem insU_asc {k : Int} : ∀ {l : List Int}, l.Pairwise (· < ·) → (insU k l).Pairwise (· < ·)
  | [], _ => by simp [insU]
  | x :: r, h => by
    obtain ⟨h1, h2⟩ := List.pairwise_cons.mp h
    unfold insU
    split
    · rename_i lt
      refine List.pairwise_cons.mpr ⟨fun y hy => ?_, h⟩
      rcases List.mem_cons.mp hy with e | e
      · omega
      · have := h1 y e
        omega
    · split
      · exact h
      · refine List.pairwise_cons.mpr ⟨fun y hy => ?_, insU_asc h2⟩
        rcases insU_mem.mp hy with e | e
        · omega
        · exact h1 y e
theorem sortSet_mem {j : Int} : ∀ {l : List Int}, j ∈ sortSet l ↔ j ∈ l
  | [] => by simp [sortSet]
  | x :: r => by
    unfold sortSet
    rw [insU_mem, sortSet_mem (l := r), List.mem_cons]
theorem sortSet_asc : ∀ (l : List Int), (sortSet l).Pairwise (· < ·)
  | [] => List.Pairwise.nil
  | _ :: r => insU_asc (sortSet_asc r)
theorem asc_uniq : ∀ {a b : List Int}, a.Pairwise (· < ·) → b.Pairwise (· < ·) → (∀ k, k ∈ a ↔ k ∈ b) → a = b
  | [], [], _, _, _ => rfl
  | [], y :: _, _, _, h => absurd ((h y).mpr List.mem_cons_self) List.not_mem_nil
  | x :: _, [], _, _, h => absurd ((h x).mp List.mem_cons_self) List.not_mem_nil
  | x :: a, y :: b, p, q, h => by
    obtain ⟨p1, p2⟩ := List.pairwise_cons.mp p
    obtain ⟨q1, q2⟩ := List.pairwise_cons.mp q
    have e : x = y := by
      have h1 := (h x).mp List.mem_cons_self
      have h2 := (h y).mpr List.mem_cons_self
      rcases List.mem_cons.mp h1 with e | e
      · exact e
      · rcases List.mem_cons.mp h2 with e2 | e2
        · exact e2.symm
        · have a1 := q1 x e
          have a2 := p1 y e2
          omega
    subst e
    rw [asc_uniq p2 q2 fun k => ?_]
    constructor
    · intro hk
      rcases List.mem_cons.mp ((h k).mp (List.mem_cons_of_mem _ hk)) with e | e
      · have := p1 k hk
        omega
      · exact e
    · intro hk
      rcases List.mem_cons.mp ((h k).mpr (List.mem_cons_of_mem _ hk)) with e | e
      · have := q1 k hk
        omega
      · exact e
section
variable {X : Cx}
def rSetI (K : PySem.W.Frag) (w : World) : List V → Hp → VK → Prop := fun xs H Q => ∃ (l : Addr) (ns : List Int), xs = [V.ref l] ∧ (SqL K H l (ns.map V.int) ∨ SqT K H l (ns.map V.int)) ∧ ns.length < 64 ∧
  ∀ a c, H a = none → c ≤ ns.length → Q (.ref a) (upd H a (SetO w a (fun j => decide (j ∈ ns)) c))
theorem cr_setI (hc : X.calm = true) : CallR X (.type "set") (rSetI X.K X.w) := by
  intro pins s σ H xs us Q I r h
  obtain ⟨l, ns, rfl, hl, hn, q⟩ := h
  rw [Vals.ref1 r]
  have hf : H s.heap.objs.size = none := I.hok.fresh (Nat.le_refl _)
  rcases hl with hl | hl
  · obtain ⟨its, rv, pl, hz⟩ := I.list hl
    refine call_set_listI (P := X.prog) (w := X.w) ns (I.ok.hd hc) pl.isList (by simpa using rv.ints) (by unfold scanBound; omega) fun h' tk c R hc' k => ?_
    exact ⟨.ref s.heap.objs.size, upd H s.heap.objs.size (SetO X.w s.heap.objs.size (fun j => decide (j ∈ ns)) c), I.laid (t' := tk) k (Nat.le_refl _) (setO_new R), rfl, q _ c hf hc'⟩
  · obtain ⟨its, rv, pl, hz⟩ := I.tuple hl
    refine call_set_tupI (P := X.prog) (w := X.w) ns (I.ok.hd hc) pl (by simpa using rv.ints) (by unfold scanBound; omega) fun h' tk c R hc' k => ?_
    exact ⟨.ref s.heap.objs.size, upd H s.heap.objs.size (SetO X.w s.heap.objs.size (fun j => decide (j ∈ ns)) c), I.laid (t' := tk) k (Nat.le_refl _) (setO_new R), rfl, q _ c hf hc'⟩
end
/-! ### the data layer -/
def sortSetD : D → WD (List D)
  | .list ds => fun Q _ => orStuck (intsOf ds) fun ns => ns.length < 64 ∧ Q (intsD (sortSet ns))
  | .tuple ds => fun Q _ => orStuck (intsOf ds) fun ns => ns.length < 64 ∧ Q (intsD (sortSet ns))
  | _ => fun _ _ => False
section
variable [Nm] {O : Ob} {X : Cx} {E : XK}
theorem vs_ints {K : PySem.W.Frag} {H : Hp} {P : Addr → Prop} : ∀ {ns : List Int} {vs : List V}, DvAll O K H P vs (intsD ns) → vs = ns.map V.int
  | [], _, .nil => rfl
  | n :: ns, _, .cons h r => by
    cases h with
    | int _ => rw [vs_ints r]; rfl
theorem ints_vs {K : PySem.W.Frag} {H : Hp} {P : Addr → Prop} : ∀ (ns : List Int), DvAll O K H P (ns.map V.int) (intsD ns)
  | [] => .nil
  | n :: ns => .cons (.int n) (ints_vs ns)
theorem stuck_some {α : Type} {o : Option α} {Q : α → Prop} (h : orStuck o Q) : ∃ a, o = some a ∧ Q a := by
  cases o with
  | none => exact h.elim
  | some a => exact ⟨a, rfl, h⟩
theorem intsOf_inv : ∀ {ds : List D} {ns : List Int}, intsOf ds = some ns → ds = intsD ns
  | [], ns, h => by
    cases h
    rfl
  | d :: ds, ns, h => by
    cases d with
    | int k =>
      have h2 : (intsOf ds).map (k :: ·) = some ns := h
      obtain ⟨ms, e, rfl⟩ := Option.map_eq_some_iff.mp h2
      rw [intsOf_inv e]
      rfl
    | _ => cases h
theorem df_sortSet {a : Expr} {f : Rho → WD D} {p p2 q pos : Pos} (hc : X.calm = true) (hg : Gl X "sorted") (hm : X.mg "sorted" = none) (hg2 : Gl X "set") (hm2 : X.mg "set" = none) (ha : DE O X E a f)
    (he : starEach [a] X.env = (false, eval a X.env) :: starEach [] X.env := by rfl) : DF O X E (.Call (.Name "sorted" p) [.Call (.Name "set" p2) [a] [] q] [] pos) (eUnF sortSetD f) := by
  obtain ⟨ta, a1, a2⟩ := ha
  refine ⟨_, pe_callB (cr_sortedSet hc) hg hm (by rfl) (pa_cons (pe_callTy (cr_setI hc) hg2 hm2 PyProof.Rows.boot_set (pa_cons a1 pa_nil he) (he := he)) pa_nil), fun P ρ σ H Qd Ed Q hd hr hf hQ hE => a2 P ρ σ H _ Ed _ hd hr hf (fun v d H1 s1 h1 q1 => ?_) hE⟩
  have fin : ∀ (l : Addr) (ns : List Int), (SqL X.K H1 l (ns.map V.int) ∨ SqT X.K H1 l (ns.map V.int)) → ns.length < 64 → Qd (intsD (sortSet ns)) → rSetI X.K X.w [V.ref l] H1 (fun x H2 => rSortedSet X.w [x] H2 Q) := fun l ns hl hn hq => by
    refine ⟨l, ns, rfl, hl, hn, fun b c hb hcl => ⟨b, _, c, rfl, upd_same, by omega, fun ms p asc mem _ hp => ?_⟩⟩
    have e : ms = sortSet ns := asc_uniq asc (sortSet_asc ns) fun k => by rw [mem, sortSet_mem, decide_eq_true_eq]
    subst e
    exact hQ p _ _ _ ((s1.trans (same_new hb)).trans (same_new hp)) (s1.free ((same_new hb).free (nn hp))) upd_same (ints_vs _) hq
  cases h1 with
  | lst e n r =>
    obtain ⟨ns, e2, hn, hq⟩ := stuck_some q1
    obtain rfl := intsOf_inv e2
    obtain rfl := vs_ints r
    exact fin _ ns (.inl (.inl (.inl e))) hn hq
  | tup e r =>
    obtain ⟨ns, e2, hn, hq⟩ := stuck_some q1
    obtain rfl := intsOf_inv e2
    obtain rfl := vs_ints r
    exact fin _ ns (.inr e.sq) hn hq
  | _ => exact q1.elim
end
theorem sortSetD_l (ns : List Int) {QL : List D → Prop} {E : Str → Prop} : sortSetD (.list (intsD ns)) QL E = (ns.length < 64 ∧ QL (intsD (sortSet ns))) := by
  show orStuck (intsOf (intsD ns)) _ = _
  rw [intsOf_ints]
  rfl
theorem sortSetD_t (ns : List Int) {QL : List D → Prop} {E : Str → Prop} : sortSetD (.tuple (intsD ns)) QL E = (ns.length < 64 ∧ QL (intsD (sortSet ns))) := by
  show orStuck (intsOf (intsD ns)) _ = _
  rw [intsOf_ints]
  rfl
/-! ### max of a tuple or of a list of ints -/
theorem reads_ints {h : Heap} : ∀ {us : List Value} {ns : List Int}, IntsAre us ns → ∃ as, ReadsAll h us (ns.map PyData.int) as
  | _, _, .nil => ⟨_, .nil⟩
  | _, _, .cons n t r => by
    obtain ⟨as, q⟩ := reads_ints (h := h) r
    exact ⟨_, .cons (.int n t) q⟩
theorem depth_ints : ∀ ns : List Int, PyData.depthAll (ns.map PyData.int) = 0
  | [] => by simp [PyData.depthAll]
  | n :: r => by simp [PyData.depthAll, PyData.depth, depth_ints r]
theorem foldmax {n : Int} : ∀ {ns : List Int}, isMax (n :: ns) (ns.foldl max n)
  | [] => ⟨List.mem_singleton.mpr rfl, fun y hy => by rw [List.mem_singleton.mp hy]; exact Int.le_refl _⟩
  | k :: r => by
    obtain ⟨h1, h2⟩ := foldmax (n := max n k) (ns := r)
    refine ⟨?_, fun y hy => ?_⟩
    · rcases List.mem_cons.mp h1 with e | e
      · rw [List.foldl_cons, e]
        by_cases q : n ≤ k
        · rw [Int.max_eq_right q]
          exact List.mem_cons_of_mem _ List.mem_cons_self
        · rw [Int.max_eq_left (by omega)]
          exact List.mem_cons_self
      · exact List.mem_cons_of_mem _ (List.mem_cons_of_mem _ e)
    · have hm := h2 (max n k) List.mem_cons_self
      rw [List.foldl_cons]
      rcases List.mem_cons.mp hy with e | e
      · rw [e]
        exact Int.le_trans (Int.le_max_left _ _) hm
      · rcases List.mem_cons.mp e with e | e
        · rw [e]
          exact Int.le_trans (Int.le_max_right _ _) hm
        · exact h2 y (List.mem_cons_of_mem _ e)
section
variable [Nm] {O : Ob} {X : Cx} {E : XK}
def rMaxA (K : PySem.W.Frag) : List V → Hp → VK → Prop := fun xs H Q => ∃ (a : Addr) (ns : List Int), xs = [V.ref a] ∧ (SqL K H a (ns.map V.int) ∨ SqT K H a (ns.map V.int)) ∧ 0 < ns.length ∧ ∀ m, isMax ns m → Q (.int m) H
theorem cr_maxA (hc : X.calm = true) (hu : X.A.units + 65 < cLine) : CallR X (.builtin "max") (rMaxA X.K) := by
  intro pins s σ H vs us Q I r h
  obtain ⟨a, ns, rfl, hs, hne, q⟩ := h
  rcases hs with hs | hs
  · exact cr_max hc pins s σ H _ us Q I r ⟨a, ns, rfl, hs, hne, fun m h1 h2 => q m ⟨h1, h2⟩⟩
  · obtain ⟨its, rv, hl, _⟩ := I.tuple hs
    rw [Vals.ref1 r]
    cases ns with
    | nil => exact absurd hne (by simp)
    | cons n ns =>
      have hi : IntsAre its (n :: ns) := rv.ints
      obtain ⟨as, ra⟩ := reads_ints (h := s.heap) hi
      refine PySem.W.max_tuple_data (x := .int n) (xs := ns.map PyData.int) (I.ok.hd hc) hl (by simpa using ra) ⟨fun x hx y hy => ?_, fun x hx => ?_⟩ ?_ fun i v h' tk bs hv rd hk => ?_
      · have f : ∀ z ∈ PyData.int n :: ns.map PyData.int, ∃ k, z = PyData.int k := fun z hz => by
          obtain ⟨k, _, rfl⟩ := List.mem_map.mp (show z ∈ (n :: ns).map PyData.int from hz)
          exact ⟨k, rfl⟩
        obtain ⟨k, rfl⟩ := f x hx
        obtain ⟨j, rfl⟩ := f y hy
        rfl
      · obtain ⟨k, _, rfl⟩ := List.mem_map.mp (show x ∈ (n :: ns).map PyData.int from hx)
        exact fun z => by cases z
      · have := depth_ints (n :: ns)
        rw [List.map_cons] at this
        rw [this]
        omega
      · rw [PySem.W.maxD_ints] at rd
        cases rd
        exact ⟨.int _, H, I.kept hk, ⟨_, rfl⟩, q _ foldmax⟩
def maxAD : D → WD D
  | .list xs => fun Q _ => orStuck (intsOf xs) fun ns => 0 < ns.length ∧ ∀ m, isMax ns m → Q (.int m)
  | .tuple xs => fun Q _ => orStuck (intsOf xs) fun ns => 0 < ns.length ∧ ∀ m, isMax ns m → Q (.int m)
  | _ => fun _ _ => False
theorem cbd_maxA : CbD O X (rMaxA X.K) (one1 maxAD) := fun P H xs ds Qd Ed Q hd hx hg hQ => by
  cases hx with
  | nil => exact hg.elim
  | cons h r =>
    cases r with
    | cons _ _ => exact hg.elim
    | nil =>
      cases h with
      | lst e n r =>
        obtain ⟨ns, e2, l, q⟩ := of_orStuck hg
        have := intsOf_dv r e2
        subst this
        exact ⟨_, ns, rfl, .inl (.inl (.inl e)), l, fun m h1 => hQ.here (.int _) (q m h1)⟩
      | tup e r =>
        obtain ⟨ns, e2, l, q⟩ := of_orStuck hg
        have := intsOf_dv r e2
        subst this
        exact ⟨_, ns, rfl, .inr e.sq, l, fun m h1 => hQ.here (.int _) (q m h1)⟩
      | _ => exact hg.elim
end
theorem maxAD_l {Q : D → Prop} {E : Str → Prop} (ns : List Int) : maxAD (.list (intsD ns)) Q E = (0 < ns.length ∧ ∀ m, isMax ns m → Q (.int m)) := by
  show orStuck (intsOf (intsD ns)) _ = _
  rw [intsOf_ints]
  rfl
theorem maxAD_t {Q : D → Prop} {E : Str → Prop} (ns : List Int) : maxAD (.tuple (intsD ns)) Q E = (0 < ns.length ∧ ∀ m, isMax ns m → Q (.int m)) := by
  show orStuck (intsOf (intsD ns)) _ = _
  rw [intsOf_ints]
  rfl
/-! ### defs that call themselves: the mirror at no fuel -/
section
variable [Nm] {O : Ob} {P : Program} {w : World} {K : PySem.W.Frag} {mg : Str → Option Value} {base : Heap}
theorem cal_no {x : Str} {st : Stmt} {N ps : List Str} {k : Nat} (h : FnT K mg x st) (S : FnScope N ps (defScope st)) (hb : Bn x st ps) : Cal O P w K mg base x (k + 1) ps (fun _ _ _ => False) := by
  obtain ⟨f, fd, hm, hF⟩ := h
  refine ⟨f, fd, hm, hF.kp, hF.bindsN hb, ?_, fun_lk hF⟩
  refine hF.ok S (fun vs H Q E h => ?_) (fun cdv A outer s H vs Q E hr h => ?_)
  · obtain ⟨P, ds, Qd, Ed, _, h1, h2, _⟩ := h
    rw [h1.length, h2]
  · obtain ⟨P', ds, Qd, Ed, hd, h1, h2, hf, hQ, hE⟩ := h
    exact hf.elim
end
end DL

namespace DL
open PySem PySem.Spec PyProof.Rows L2 TL
/-! ### texts: slices, split, join; dicts of pairs -/
theorem strOk_sub {x y : Str} (h : PyData.strOk x = true) (hs : ∀ c ∈ y.cps.toList, c ∈ x.cps.toList) : PyData.strOk y = true := by
  unfold PyData.strOk at *
  rw [← Array.all_toList, List.all_eq_true] at *
  exact fun c hc => h c (hs c hc)
theorem cutS_ok {x : Str} (h : PyData.strOk x = true) (lo hi : Option Int) : PyData.strOk (L2.cutS x lo hi) = true := by
  refine strOk_sub h fun c hc => ?_
  have hc' : c ∈ (x.cps.toList.drop (HT.sIx x.length 0 lo)).take (HT.sIx x.length x.length hi - HT.sIx x.length 0 lo) := hc
  exact List.mem_of_mem_drop (List.mem_of_mem_take hc')
theorem strOk_tl {x : Str} : PyData.strOk x = true ↔ ∀ c ∈ tl x, c < 0x110000 := by
  unfold PyData.strOk tl
  rw [← Array.all_toList, List.all_eq_true]
  simp
theorem join_ok {a : Str} {ys : List Str} (ha : PyData.strOk a = true) (hy : ∀ y ∈ ys, PyData.strOk y = true) : PyData.strOk (Txt.join a ys) = true := by
  rw [join_eq, strOk_tl, tl_join]
  have ha' := strOk_tl.mp ha
  have hy' : ∀ p ∈ ys.map tl, ∀ c ∈ p, c < 0x110000 := fun p hp => by
    obtain ⟨y, h1, rfl⟩ := List.mem_map.mp hp
    exact strOk_tl.mp (hy y h1)
  generalize ys.map tl = ps at hy'
  clear hy
  induction ps with
  | nil => intro c hc; exact absurd hc (by simp [joinL])
  | cons p r ih =>
    intro c hc
    cases r with
    | nil => exact hy' p List.mem_cons_self c (by simpa [joinL] using hc)
    | cons q r =>
      have e : joinL (tl a) (p :: q :: r) = p ++ (tl a ++ joinL (tl a) (q :: r)) := by
        first | rfl | simp [joinL]
      rw [e] at hc
      rcases List.mem_append.mp hc with z | z
      · exact hy' p List.mem_cons_self c z
      · rcases List.mem_append.mp z with z | z
        · exact ha' c z
        · exact ih (fun p hp => hy' p (List.mem_cons_of_mem _ hp)) c z
theorem spl_mem {S : List Nat} : ∀ (l : List Nat) (k : Nat) (acc : List Nat) (p : List Nat), p ∈ spl S k acc l → ∀ c ∈ p, c ∈ acc ∨ c ∈ l := by
  intro l
  induction l with
  | nil =>
    intro k acc p hp c hc
    rw [spl_nil] at hp
    rw [List.mem_singleton.mp hp] at hc
    exact .inl hc
  | cons x r ih =>
    intro k acc p hp c hc
    cases k with
    | succ k =>
      rw [spl_pass] at hp
      have e : spl S 0 acc ((x :: r).drop (k + 1)) = spl S k acc r := by
        rw [List.drop_succ_cons, ← spl_pass]
      rw [e] at hp
      rcases ih k acc p hp c hc with z | z
      · exact .inl z
      · exact .inr (List.mem_cons_of_mem _ z)
    | zero =>
      cases h : pre S (x :: r) with
      | true =>
        rw [spl_hit h] at hp
        rcases List.mem_cons.mp hp with z | z
        · rw [z] at hc
          exact .inl hc
        · rcases ih _ _ p z c hc with q | q
          · exact absurd q List.not_mem_nil
          · exact .inr (List.mem_cons_of_mem _ q)
      | false =>
        rw [spl_miss h] at hp
        rcases ih _ _ p hp c hc with q | q
        · rcases List.mem_append.mp q with z | z
          · exact .inl z
          · rw [List.mem_singleton.mp z]
            exact .inr List.mem_cons_self
        · exact .inr (List.mem_cons_of_mem _ q)
section
variable [Nm] {O : Ob} {X : Cx} {E : XK} {K : PySem.W.Frag} {H H' : Hp} {P P' : Addr → Prop}
/-- x[lo:hi] of a text -/
def slSD (d : D) (lo hi : Option Int) : WD D := match d with
  | .str x => fun Q _ => x.length ≤ 16777216 ∧ Q (.str (L2.cutS x lo hi))
  | _ => fun _ _ => False
def eSlS (fa : Rho → WD D) (fl fh : Rho → WD (Option Int)) : Rho → WD D := fun ρ Q Ed => fa ρ (fun d => fl ρ (fun lo => fh ρ (fun hi => slSD d lo hi Q Ed) Ed) Ed) Ed
theorem de_sliceS {a : Expr} {lo hi : Option Expr} {fa : Rho → WD D} {fl fh : Rho → WD (Option Int)} {p2 pos : Pos} (ha : DE O X E a fa) (hl : DO O X E lo fl) (hh : DO O X E hi fh) : DE O X E (.Subscript a (.Slice lo hi none p2) pos) (eSlS fa fl fh) := by
  obtain ⟨ta, a1, a2⟩ := ha
  obtain ⟨tl, l1, l2⟩ := hl
  obtain ⟨th, h1, h2⟩ := hh
  refine ⟨_, pe_slice sl_str a1 l1 h1, fun P ρ σ H Qd Ed Q hd hr hf hQ hE => a2 P ρ σ H _ Ed _ hd hr hf (fun v d H1 s1 k1 q1 => l2 P ρ σ H1 _ Ed _ (hd.same s1) (hr.same s1) q1 (fun lo H2 s2 q2 =>
    h2 P ρ σ H2 _ Ed _ ((hd.same s1).same s2) ((hr.same s1).same s2) q2 (fun hi H3 s3 q3 => ?_) ((hE.same s1).same s2)) (hE.same s1)) hE⟩
  have s13 : Same H H3 := (s1.trans s2).trans s3
  cases k1 with
  | str x hx => exact ⟨x, rfl, by rw [← size_eq]; exact q3.1, hQ _ _ _ s13 (.str _ (cutS_ok hx lo hi)) q3.2⟩
  | _ => exact q3.elim
/-- x.join(ys) -/
def strsD : List D → Option (List Str)
  | [] => some []
  | .str x :: r => (strsD r).map (x :: ·)
  | _ :: _ => none
theorem strsD_map (ys : List Str) : strsD (ys.map PyData.str) = some ys := by
  induction ys with
  | nil => rfl
  | cons y r ih =>
    rw [List.map_cons]
    unfold strsD
    rw [ih]
    rfl
def joinD : D → D → WD D
  | .str a, .list ds => fun Q _ => orStuck (strsD ds) fun ys => (ys.map (·.length)).sum + ys.length * a.length ≤ 16777216 ∧ Q (.str (Txt.join a ys))
  | .str a, .tuple ds => fun Q _ => orStuck (strsD ds) fun ys => (ys.map (·.length)).sum + ys.length * a.length ≤ 16777216 ∧ Q (.str (Txt.join a ys))
  | _, _ => fun _ _ => False
/-- x.split(y) -/
def splitD : D → D → WD (List D)
  | .str a, .str b => fun Q _ => b.length = 1 ∧ b.cps.all (· < 256) = true ∧ a.length ≤ 1000000 ∧ Q ((Txt.split a b).map PyData.str)
  | _, _ => fun _ _ => False
def isS : D → Prop
  | .str _ => True
  | _ => False
def eSplit (fa fb : Rho → WD D) : Rho → WD (List D) := fun ρ Q Ed => fa ρ (fun x => isS x ∧ fb ρ (fun y => splitD x y Q Ed) Ed) Ed
def eJoin (fa fb : Rho → WD D) : Rho → WD D := fun ρ Q Ed => fa ρ (fun x => isS x ∧ fb ρ (fun y => joinD x y Q Ed) Ed) Ed
theorem split_ok {a b : Str} (ha : PyData.strOk a = true) (hb : b.length = 1) (h8 : b.cps.all (· < 256) = true) : ∀ p ∈ Txt.split a b, PyData.strOk p = true := fun p hp => by
  have hy : tl b ≠ [] := fun z => by
    rw [len_tl, z] at hb
    cases hb
  have e := split_spl a b hy (kind_ok h8)
  have hp' : tl p ∈ spl (tl b) 0 [] (tl a) := by
    rw [← e]
    exact List.mem_map_of_mem hp
  rw [strOk_tl]
  intro c hc
  rcases spl_mem _ _ _ _ hp' c hc with z | z
  · exact absurd z List.not_mem_nil
  · exact strOk_tl.mp ha c z
theorem dv_strs {ys : List Str} (h : ∀ y ∈ ys, PyData.strOk y = true) : DvAll O K H P (ys.map V.str) (ys.map PyData.str) := by
  induction ys with
  | nil => exact .nil
  | cons y r ih => exact .cons (.str y (h y List.mem_cons_self)) (ih fun z hz => h z (List.mem_cons_of_mem _ hz))
theorem df_split {o e : Expr} {f g : Rho → WD D} {apos pos : Pos} (ho : DE O X E o f) (he : DE O X E e g)
    (hs : starEach [e] X.env = [(false, eval e X.env)] := by rfl) (hbase : attributeBase o "split" X.env (eval o X.env) = eval o X.env := by rfl) (hline : (apos.endLine == pos.line) = true := by rfl) :
    DF O X E (.Call (.Attribute o "split" apos) [e] [] pos) (eSplit f g) := by
  obtain ⟨to, o1, o2⟩ := ho
  obtain ⟨te, e1, e2⟩ := he
  refine ⟨_, pe_split o1 e1 hs hbase hline, fun P ρ σ H Qd Ed Q hd hr hf hQ hE => o2 P ρ σ H _ Ed _ hd hr hf (fun x d H1 s1 h1 q1 => ?_) hE⟩
  cases h1 with
  | str a ha =>
    refine ⟨⟨a, rfl⟩, e2 P ρ σ H1 _ Ed _ (hd.same s1) (hr.same s1) q1.2 (fun y e H2 s2 h2 q2 => ?_) (hE.same s1)⟩
    cases h2 with
    | str b hb =>
      obtain ⟨z1, z2, z3, z4⟩ := q2
      exact ⟨a, b, rfl, rfl, by rw [z1]; rfl, by rw [← size_eq]; omega, fun p np => hQ p _ _ _ ((s1.trans s2).trans (same_new np)) ((s1.trans s2).free (nn np)) upd_same (dv_strs (split_ok ha z1 z2)) z4⟩
    | _ => exact q2.elim
  | _ => exact q1.1.elim
theorem strs_dv : ∀ {vs : List V} {ds : List D} {ys : List Str}, DvAll O K H P vs ds → strsD ds = some ys → vs = ys.map V.str ∧ ∀ y ∈ ys, PyData.strOk y = true := by
  intro vs ds
  induction ds generalizing vs with
  | nil =>
    intro ys h e
    cases h
    cases e
    exact ⟨rfl, fun y hy => absurd hy List.not_mem_nil⟩
  | cons d r ih =>
    intro ys h e
    cases h with
    | cons h1 h2 =>
      cases h1 with
      | str x hx =>
        unfold strsD at e
        obtain ⟨zs, e1, e2⟩ := Option.map_eq_some_iff.mp e
        subst e2
        obtain ⟨i1, i2⟩ := ih h2 e1
        refine ⟨by rw [i1]; rfl, fun y hy => ?_⟩
        rcases List.mem_cons.mp hy with z | z
        · rw [z]
          exact hx
        · exact i2 y z
      | _ => first | cases e | (unfold dictE at e; cases e) | (unfold dictZ at e; cases e)
theorem de_join {o e : Expr} {f g : Rho → WD D} {apos pos : Pos} (ho : DE O X E o f) (he : DE O X E e g)
    (hs : starEach [e] X.env = [(false, eval e X.env)] := by rfl) (hbase : attributeBase o "join" X.env (eval o X.env) = eval o X.env := by rfl) (hline : (apos.endLine == pos.line) = true := by rfl) :
    DE O X E (.Call (.Attribute o "join" apos) [e] [] pos) (eJoin f g) := by
  obtain ⟨to, o1, o2⟩ := ho
  obtain ⟨te, e1, e2⟩ := he
  refine ⟨_, pe_join o1 e1 hs hbase hline, fun P ρ σ H Qd Ed Q hd hr hf hQ hE => o2 P ρ σ H _ Ed _ hd hr hf (fun x d H1 s1 h1 q1 => ?_) hE⟩
  cases h1 with
  | str a ha =>
    refine ⟨⟨a, rfl⟩, e2 P ρ σ H1 _ Ed _ (hd.same s1) (hr.same s1) q1.2 (fun y e H2 s2 h2 q2 => ?_) (hE.same s1)⟩
    cases h2 with
    | lst e3 n3 r3 =>
      obtain ⟨ys, ey, q3, q4⟩ := of_orStuck q2
      obtain ⟨rfl, oy⟩ := strs_dv r3 ey
      exact ⟨a, _, ys, rfl, rfl, .inl (.inl (.inl e3)), q3, hQ _ _ _ (s1.trans s2) (.str _ (join_ok ha oy)) q4⟩
    | tup e3 r3 =>
      obtain ⟨ys, ey, q3, q4⟩ := of_orStuck q2
      obtain ⟨rfl, oy⟩ := strs_dv r3 ey
      exact ⟨a, _, ys, rfl, rfl, .inr e3.sq, q3, hQ _ _ _ (s1.trans s2) (.str _ (join_ok ha oy)) q4⟩
    | _ => exact q2.elim
  | _ => exact q1.1.elim
/-! ### dict(xs), xs a list or a tuple of pairs -/
theorem pairs_ofV {pins : List (Addr × Obj)} {σ : L2.St} {H : Hp} {s : Shared} (I : Inv X pins σ H s) : ∀ {ps : List Addr} {kvs : List (Key × V)}, Paired (fun p kv => SqT X.K H p [kV kv.1, kv.2]) ps kvs →
    ∃ (prs : List (Key × Value)) (pvs : List (Value × Value)), KV kvs prs ∧ prs.length = ps.length ∧ pvs.length = ps.length ∧ ∀ (j : Nat) (k v : Value), pvs[j]? = some (k, v) → ∃ (b : Addr) (key : Key), ps[j]? = some b ∧ s.heap.IsTuple b #[k, v] ∧ prs[j]? = some (key, v) ∧ keyIs key k = true
  | _, _, .nil => ⟨[], [], .nil, rfl, rfl, fun j k v e => by simp at e⟩
  | _, _, .cons (a := p) (b := kv) h t => by
    obtain ⟨prs, pvs, r, hl, hl2, hp⟩ := pairs_ofV I t
    obtain ⟨its, rv, ht, _⟩ := I.tuple h
    obtain ⟨u, y, ei, ru, ry⟩ := vals2 rv
    subst ei
    refine ⟨(kv.1, y) :: prs, (u, y) :: pvs, .cons ⟨rfl, ry⟩ r, by rw [List.length_cons, List.length_cons, hl], by rw [List.length_cons, List.length_cons, hl2], fun j k v e => ?_⟩
    cases j with
    | zero =>
      have e' : (u, y) = (k, v) := Option.some.inj e
      cases e'
      exact ⟨p, kv.1, rfl, ht, rfl, kV_is (P := X.prog) (w := X.w) ru⟩
    | succ j =>
      obtain ⟨b, key, e1, e2, e3, e4⟩ := hp j k v (by simpa using e)
      exact ⟨b, key, by simpa using e1, e2, by simpa using e3, e4⟩
theorem call_dictT (hcalm : X.calm = true) : CallR X (.type "dict") (fun xs H Q => ∃ (a : Addr) (ps : List Addr) (kvs : List (Key × V)), xs = [.ref a] ∧ TqT X.K H a (ps.map V.ref) ∧ Paired (fun p kv => SqT X.K H p [kV kv.1, kv.2]) ps kvs ∧
    ∀ p, H p = none → Q (.ref p) (upd H p (.dK (mergeK [] kvs)))) := by
  intro pins s σ H xs us Q I r q
  obtain ⟨a, ps, kvs, ex, hq, hp, q⟩ := q
  subst ex
  obtain ⟨u, eu, rx⟩ := vals1 r
  subst eu
  cases rx
  obtain ⟨its, rv, pl, hz⟩ := I.tuple hq.sq
  obtain ⟨hty, hdi⟩ := hq.ty I
  have ei := refs_at rv
  subst ei
  rw [List.length_map] at hz
  obtain ⟨prs, pvs, rel, hl, hl2, hpr⟩ := pairs_ofV I hp
  obtain ⟨o, ho, hc, n, hdat⟩ := pl
  obtain ⟨ob, hob, hdn⟩ := hdi a rfl
  have eo : ob = o := Option.some.inj (hob.symm.trans ho)
  subst eo
  have PA := PairArg.tuple (prog := X.prog) (w := X.w) a (ps.map Value.ref).toArray (fun j => ps.getD j 0) pvs
  have ok : PlainSeq "tuple" s.heap a (ps.map Value.ref).toArray ∧ PairItems s.heap (ps.map Value.ref).toArray (fun j => ps.getD j 0) pvs := by
    refine ⟨⟨ob, n, ho, hc, hdn, hdat⟩, by simp [hl2], fun j k v e => ?_⟩
    obtain ⟨b, key, e1, e2, e3, e4⟩ := hpr j k v e
    have eb : (fun j => ps.getD j 0) j = b := by
      show ps.getD j 0 = b
      rw [List.getD_eq_getElem?_getD, e1]
      rfl
    rw [eb]
    exact ⟨by simp [e1], .inl e2⟩
  refine PySem.call_dict_pairs (knd := mixKind X.prog X.w) (kvs := prs) PA (I.ok.hd hcalm) ok ⟨by rw [hl, hl2], fun i key v e => ?_⟩ (by rw [hl2]; exact hz) fun h' tk hd' k => ?_
  · obtain ⟨b, kk, e1, e2, e3, e4⟩ := hpr i key v e
    exact ⟨kk, e3, e4⟩
  · have hm : (s.heap.objs.size == sysModules) = false := beq_eq_false_iff_ne.mpr (Nat.ne_of_gt I.big)
    have hlen : (mergeK [] kvs).length ≤ sizeLine := by
      refine Nat.le_trans (length_mergeK kvs []) ?_
      rw [List.length_nil, Nat.zero_add, rel.length, hl]
      exact hz
    exact ⟨.ref s.heap.objs.size, upd H s.heap.objs.size (.dK (mergeK [] kvs)), I.laid (t' := tk) (fun b o e => k b o List.not_mem_nil e) (Nat.le_refl _) (show ObjOk X.prog X.w _ _ _ (.dK (mergeK [] kvs)) from ⟨hlen, hm, merged [] prs, KV.merge rel .nil, hd'⟩), rfl, q _ (I.hok.fresh (Nat.le_refl _))⟩
def pairD : D → Option (Key × D)
  | .tuple [k, d] => (keyOf k).map fun k => (k, d)
  | _ => none
def pairsD : List D → Option (List (Key × D))
  | [] => some []
  | d :: r => (pairD d).bind fun p => (pairsD r).map (p :: ·)
def dictOfD : D → WD (List (Key × D))
  | .list ds => fun Q _ => orStuck (pairsD ds) fun kvs => Q (mergeG [] kvs)
  | .tuple ds => fun Q _ => orStuck (pairsD ds) fun kvs => Q (mergeG [] kvs)
  | _ => fun _ _ => False
def eDictOf (fa : Rho → WD (List D)) : Rho → WD (List (Key × D)) := fun ρ Q Ed => fa ρ (fun ds => match ds with
  | [d] => dictOfD d Q Ed
  | _ => False) Ed
theorem pairs_dv : ∀ {ds : List D} {vs : List V} {kvs : List (Key × D)}, DvAll O K H P vs ds → pairsD ds = some kvs → ∃ (ps : List Addr) (l : List (Key × V)), vs = ps.map V.ref ∧ Paired (fun p kv => SqT K H p [kV kv.1, kv.2]) ps l ∧ Kds O K H P l kvs := by
  intro ds
  induction ds with
  | nil =>
    intro vs kvs h e
    cases h
    cases e
    exact ⟨[], [], rfl, .nil, .nil⟩
  | cons d r ih =>
    intro vs kvs h e
    cases h with
    | cons h1 h2 =>
      unfold pairsD at e
      obtain ⟨p, e1, e2⟩ := Option.bind_eq_some_iff.mp e
      obtain ⟨ks, e3, e4⟩ := Option.map_eq_some_iff.mp e2
      subst e4
      obtain ⟨ps, l, i1, i2, i3⟩ := ih h2 e3
      subst i1
      cases h1 with
      | tup hq hr =>
        cases hr with
        | nil => cases e1
        | cons a1 hr =>
          cases hr with
          | nil => cases e1
          | cons a2 hr =>
            cases hr with
            | cons _ _ => cases e1
            | nil =>
              obtain ⟨k, ek, e5⟩ := Option.map_eq_some_iff.mp e1
              subst e5
              have := keyOf_ok a1 ek
              subst this
              exact ⟨_ :: ps, (k, _) :: l, rfl, .cons hq.sq i2, .cons a2 i3⟩
      | _ => first | cases e1 | (unfold dictE at e1; cases e1) | (unfold dictZ at e1; cases e1)
theorem dd_dictOf {e : Expr} {fa : Rho → WD (List D)} {p pos : Pos} (hc : X.calm = true) (hg : Gl X "dict") (hm : X.mg "dict" = none) (ha : DA O X E [e] fa)
    (he : starEach [e] X.env = (false, eval e X.env) :: starEach [] X.env := by rfl) (hpl : (backTo pos (starEach [] X.env)).any (·.1) = false := by rfl) : DD O X E (.Call (.Name "dict" p) [e] [] pos) (eDictOf fa) := by
  obtain ⟨ta, a1, a2⟩ := ha
  refine ⟨_, pe_callTy (CallR.or (call_dictP hc) (call_dictT hc)) hg hm (by decide +kernel) a1 (by decide) (by decide) he hpl, fun P ρ σ H Qd Ed Q hd hr hf hQ hE => a2 P ρ σ H _ Ed _ hd hr hf (fun vs ds H1 s1 h1 _ q1 => ?_) hE⟩
  cases h1 with
  | nil => exact q1.elim
  | cons b1 h1 =>
    cases h1 with
    | cons _ _ => exact q1.elim
    | nil =>
      have fin : ∀ (l : List (Key × V)) (kvs : List (Key × D)), Kds O X.K H1 P l kvs → Qd (mergeG [] kvs) → ∀ p, H1 p = none → Q (.ref p) (upd H1 p (.dK (mergeK [] l))) := fun l kvs hk q p np => by
        have sn : Same H1 (upd H1 p (.dK (mergeK [] l))) := same_new np
        refine hQ p _ (mergeG [] kvs) _ (s1.trans sn) (s1.free (nn np)) upd_same ?_ q
        have h3 := Kds.merge hk (a := []) (b := []) .nil
        refine h3.mapD fun h => h.keep (.of sn) (fun a o e m _ => sn.all a o e (no_mb m)) fun a o e m n z => ?_
        rcases z with z | z
        · exact n z
        · rw [z, np] at e
          cases e
      cases b1 with
      | lst e1 n1 r1 =>
        obtain ⟨kvs, ek, q⟩ := of_orStuck q1
        obtain ⟨ps, l, rfl, i2, i3⟩ := pairs_dv r1 ek
        exact .inl ⟨_, ps, l, rfl, .inl (.inl e1), i2, fin l kvs i3 q⟩
      | tup e1 r1 =>
        obtain ⟨kvs, ek, q⟩ := of_orStuck q1
        obtain ⟨ps, l, rfl, i2, i3⟩ := pairs_dv r1 ek
        exact .inr ⟨_, ps, l, rfl, e1, i2, fin l kvs i3 q⟩
      | _ => exact q1.elim
/-! ### k in d -/
def inKD : D → D → WD D
  | k, .dict l => fun Q _ => (∃ p ∈ l.head?, (keyOf p.1).isSome = true) ∧ orStuck (keyOf k) fun k => Q (.bool (dlook l k).isSome)
  | _, _ => fun _ _ => False
def rInKd : R2 := fun x y H Q => ∃ a o, y = .ref a ∧ DGet H a x o ∧ Q (.bl o.isSome) H
theorem op_inK (hu : X.A.units + 65 < cLine) : OpR X (compareOp .In) rInKd := by
  intro pins s σ H x y v u Q I rx ry h
  obtain ⟨a, o, rfl, g, q⟩ := h
  cases ry
  exact d_in (by omega) I g rx fun s' I' => ⟨.bl o.isSome, H, I', rfl, q⟩
theorem Kds.isSome {a : List (Key × V)} {b : List (Key × D)} {k : Key} (h : Kds O K H P a b) : (valV a k).isSome = (lookG b k).isSome := by
  cases e : lookG b k with
  | none => rw [h.none e]; rfl
  | some d =>
    obtain ⟨v, ev, _⟩ := h.look e
    rw [ev]
    rfl
theorem opd_inK (hO : NoObj O) : OpD O X rInKd inKD := fun P H x y d e Qd Ed Q hd hx hy hg hQ => by
  cases hy with
  | dct e1 n1 k1 r1 =>
    obtain ⟨k, ek, q⟩ := of_orStuck hg.2
    rw [dlook_E] at q
    have := keyOf_ok hx ek
    subst this
    refine ⟨_, _, rfl, .inl ⟨_, k, .inl e1, rfl, rfl⟩, hQ.here (.bl _) ?_⟩
    rw [(Kds.of k1 r1).isSome]
    exact q
  | dcz e1 k1 r1 =>
    obtain ⟨k, ek, q⟩ := of_orStuck hg.2
    rw [dlook_Z] at q
    have := keyOf_ok hx ek
    subst this
    refine ⟨_, _, rfl, .inl ⟨_, k, .inr ⟨_, e1⟩, rfl, rfl⟩, hQ.here (.bl _) ?_⟩
    rw [(Kds.of k1 r1).isSome]
    exact q
  | obj h =>
    obtain ⟨⟨p, hp, hk⟩, _⟩ := hg
    rw [hO.no h p (List.mem_of_mem_head? hp)] at hk
    cases hk
  | _ => cases hx <;> exact hg.elim
/-! ### d.get(k, z) -/
def isDk : D → Prop
  | .dict l => ∃ p ∈ l.head?, (keyOf p.1).isSome = true
  | _ => False
def getDD : D → D → D → WD D
  | .dict l, k, z => fun Q _ => orStuck (keyOf k) fun k => Q ((dlook l k).getD z)
  | _, _, _ => fun _ _ => False
def eGet2 (fa fb fc : Rho → WD D) : Rho → WD D := fun ρ Q Ed => fa ρ (fun d => isDk d ∧ fb ρ (fun k => fc ρ (fun z => getDD d k z Q Ed) Ed) Ed) Ed
theorem Kds.getD {a : List (Key × V)} {b : List (Key × D)} {k : Key} {v : V} {d : D} (h : Kds O K H P a b) (hv : Dv O K H P v d) : Dv O K H P ((valV a k).getD v) ((lookG b k).getD d) := by
  cases e : lookG b k with
  | none => rw [h.none e]; exact hv
  | some d' =>
    obtain ⟨v', ev, hd⟩ := h.look e
    rw [ev]
    exact hd
theorem de_get2 {o e f : Expr} {fa fb fc : Rho → WD D} {apos cpos : Pos} (hO : NoObj O) (hu : X.A.units + 65 < cLine) (ho : DE O X E o fa) (he : DE O X E e fb) (hf : DE O X E f fc) (m : M2 X o "get" apos e f cpos) : DE O X E (.Call (.Attribute o "get" apos) [e, f] [] cpos) (eGet2 fa fb fc) := by
  obtain ⟨to, o1, o2⟩ := ho
  obtain ⟨te, e1, e2⟩ := he
  obtain ⟨tf, f1, f2⟩ := hf
  refine ⟨_, pe_dget2 (by omega) o1 e1 f1 m, fun P ρ σ H Qd Ed Q hd hr hf hQ hE => o2 P ρ σ H _ Ed _ hd hr hf (fun x d H1 s1 h1 q1 => ?_) hE⟩
  obtain ⟨qd, q1⟩ := q1
  cases h1 with
  | dct a1 n1 k1 r1 =>
    refine ⟨_, rfl, .inl ⟨_, .inl a1⟩, e2 P ρ σ H1 _ Ed _ (hd.same s1) (hr.same s1) q1 (fun y e H2 s2 h2 q2 => f2 P ρ σ H2 _ Ed _ ((hd.same s1).same s2) ((hr.same s1).same s2) q2 (fun z g H3 s3 h3 q3 => ?_) ((hE.same s1).same s2)) (hE.same s1)⟩
    obtain ⟨k, ek, q⟩ := of_orStuck q3
    rw [dlook_E] at q
    have := keyOf_ok h2 ek
    subst this
    have s13 := s2.trans s3
    exact ⟨_, .inl ⟨_, k, .inl (s13.all _ _ a1 no_dk), rfl, rfl⟩, hQ _ _ _ (s1.trans s13) (((Kds.of k1 r1).same s13).getD h3) q⟩
  | dcz a1 k1 r1 =>
    obtain ⟨p, hp, hk⟩ := qd
    cases hp
    cases hk
  | obj h =>
    obtain ⟨p, hp, hk⟩ := qd
    rw [hO.no h p (List.mem_of_mem_head? hp)] at hk
    cases hk
  | _ => exact qd.elim
/-! ### a tuple of the module that lies in another one -/
theorem tupM_ok {K : PySem.W.Frag} {a : Addr} {vs : List He.Dv} (h : DH.tupM K a vs = true) (H : Hp) : TqT K H a (vs.map (He.Dv.v K)) := by
  unfold DH.tupM at h
  split at h
  · rename_i c its n sl q
    obtain ⟨h1, h2⟩ := Bool.and_eq_true_iff.mp h
    obtain ⟨h3, h4⟩ := Bool.and_eq_true_iff.mp h2
    exact .inr ⟨_, its, n, q, congrArg Value.type (of_decide_eq_true h1), rfl, rfl, of_decide_eq_true h3, He.relAll_ok h4⟩
  · cases h
/-! ### str(i), int(x) -/
def strD : D → WD D
  | .int i => fun Q _ => (-1000000 < i ∧ i < 1000000) ∧ Q (.str (Str.ofString (toString i)))
  | _ => fun _ _ => False
theorem num_ok {i : Int} (h : 0 ≤ i) : PyData.strOk (Str.ofString (toString i)) = true := by
  obtain ⟨n, rfl⟩ := Int.eq_ofNat_of_zero_le h
  rw [strOk_tl, tl_num]
  intro c hc
  have := numL_digits n c hc
  omega
theorem cbd_str : CbD O X (fun xs H Q => ∃ i : Int, xs = [.int i] ∧ i.natAbs.log2 < 1920 ∧ Q (.str (toString i)) H) (one1 strD) := fun P H xs ds Qd Ed Q hd hx hg hQ => by
  cases hx with
  | nil => exact hg.elim
  | cons h r =>
    cases r with
    | cons _ _ => exact hg.elim
    | nil =>
      cases h with
      | int i =>
        obtain ⟨⟨h0, h1⟩, q⟩ := hg
        refine ⟨i, rfl, ?_, hQ.here (.str _ (strOk_of _)) q⟩
        by_cases hz : i.natAbs = 0
        · rw [hz]
          decide
        · rw [Nat.log2_lt hz]
          exact Nat.lt_of_lt_of_le (show i.natAbs < 2 ^ 20 by omega) (Nat.pow_le_pow_right (by decide) (by decide))
      | _ => exact hg.elim
def intOfD : D → WD D
  | .str a => fun Q _ => a.length ≤ 640 ∧ orStuck (PySem.intText? a) fun n => Q (.int n)
  | _ => fun _ _ => False
theorem cbd_int : CbD O X (fun xs H Q => ∃ a n, xs = [.str a] ∧ PySem.intText? a = some n ∧ a.length ≤ 640 ∧ Q (.int n) H) (one1 intOfD) := fun P H xs ds Qd Ed Q hd hx hg hQ => by
  cases hx with
  | nil => exact hg.elim
  | cons h r =>
    cases r with
    | cons _ _ => exact hg.elim
    | nil =>
      cases h with
      | str a ha =>
        obtain ⟨h0, q⟩ := hg
        obtain ⟨n, en, q⟩ := of_orStuck q
        exact ⟨a, n, rfl, en, h0, hQ.here (.int _) q⟩
      | _ => exact hg.elim
/-! ### rules -/
section
variable {Q : D → Prop} {QL : List D → Prop} {E : Str → Prop} {fa fb : Rho → WD D} {fl fh : Rho → WD (Option Int)} {ρ : Rho}
theorem eSlS_r : eSlS fa fl fh ρ Q E = fa ρ (fun d => fl ρ (fun lo => fh ρ (fun hi => slSD d lo hi Q E) E) E) E := propext Iff.rfl
theorem slSD_s (x : Str) (lo hi : Option Int) : slSD (.str x) lo hi Q E = (x.length ≤ 16777216 ∧ Q (.str (L2.cutS x lo hi))) := propext Iff.rfl
theorem eSplit_r : eSplit fa fb ρ QL E = fa ρ (fun x => isS x ∧ fb ρ (fun y => splitD x y QL E) E) E := propext Iff.rfl
theorem eJoin_r : eJoin fa fb ρ Q E = fa ρ (fun x => isS x ∧ fb ρ (fun y => joinD x y Q E) E) E := propext Iff.rfl
theorem isS_s (x : Str) : isS (.str x) = True := propext Iff.rfl
theorem splitD_s (a b : Str) : splitD (.str a) (.str b) QL E = (b.length = 1 ∧ b.cps.all (· < 256) = true ∧ a.length ≤ 1000000 ∧ QL ((Txt.split a b).map PyData.str)) := propext Iff.rfl
theorem joinD_l (a : Str) (ds : List D) : joinD (.str a) (.list ds) Q E = orStuck (strsD ds) fun ys => (ys.map (·.length)).sum + ys.length * a.length ≤ 16777216 ∧ Q (.str (Txt.join a ys)) := propext Iff.rfl
theorem joinD_t (a : Str) (ds : List D) : joinD (.str a) (.tuple ds) Q E = orStuck (strsD ds) fun ys => (ys.map (·.length)).sum + ys.length * a.length ≤ 16777216 ∧ Q (.str (Txt.join a ys)) := propext Iff.rfl
variable {QK : List (Key × D) → Prop} {ga : Rho → WD (List D)}
theorem eDictOf_r : eDictOf ga ρ QK E = ga ρ (fun ds => match ds with | [d] => dictOfD d QK E | _ => False) E := propext Iff.rfl
theorem dictOfD_t (ds : List D) : dictOfD (.tuple ds) QK E = orStuck (pairsD ds) fun kvs => QK (mergeG [] kvs) := propext Iff.rfl
theorem dictOfD_l (ds : List D) : dictOfD (.list ds) QK E = orStuck (pairsD ds) fun kvs => QK (mergeG [] kvs) := propext Iff.rfl
theorem inKD_r (k : D) (l : List (D × D)) : inKD k (.dict l) Q E = ((∃ p ∈ l.head?, (keyOf p.1).isSome = true) ∧ orStuck (keyOf k) fun k => Q (.bool (dlook l k).isSome)) := by
  cases k <;> exact propext Iff.rfl
theorem eGet2_r {fc : Rho → WD D} : eGet2 fa fb fc ρ Q E = fa ρ (fun d => isDk d ∧ fb ρ (fun k => fc ρ (fun z => getDD d k z Q E) E) E) E := propext Iff.rfl
theorem getDD_r (l : List (D × D)) (k z : D) : getDD (.dict l) k z Q E = orStuck (keyOf k) fun k => Q ((dlook l k).getD z) := propext Iff.rfl
theorem strD_i (i : Int) : strD (.int i) Q E = ((-1000000 < i ∧ i < 1000000) ∧ Q (.str (Str.ofString (toString i)))) := propext Iff.rfl
theorem intOfD_s (a : Str) : intOfD (.str a) Q E = (a.length ≤ 640 ∧ orStuck (PySem.intText? a) fun n => Q (.int n)) := propext Iff.rfl
theorem addD_ss (x y : Str) : addD (.str x) (.str y) Q E = (x.length + y.length ≤ 16777216 ∧ Q (.str (x ++ y))) := propext Iff.rfl
theorem idxD_s (x : Str) (i : Int) : idxD (.str x) (.int i) Q E = (x.length ≤ 16777216 ∧ orStuck (atI x.cps.toList i) fun c => Q (.str ⟨#[c]⟩)) := propext Iff.rfl
theorem lenD_s (x : Str) : lenD (.str x) Q E = (x.length ≤ 16777216 ∧ Q (.int x.length)) := propext Iff.rfl
end
end
end DL

namespace DL
open PySem PySem.Spec PyProof.Rows L2
/-! ### a list comprehension whose element may raise -/
theorem noteFrame_frame {e : Value} {env env' : PySem.Env} (h : env.frame = env'.frame) : noteFrame e env = noteFrame e env' := by
  unfold noteFrame PySem.frameOf
  rw [h]
section
variable {X : Cx} {pins : List (Addr × Obj)} {σ : L2.St} {H : Hp} {s s' : Shared} {E : XK} {C : Addr} {ce : PySem.Env}
/-- an exception of the element leaves the comprehension: its block goes, the def's own frame is noted -/
theorem comp_fails (hs : X.stack = X.env :: X.outer) (hf : X.env.frame = some X.env.locals) (tk : Takes X (fun cls d _ H => E cls d H)) (I : Inv X pins σ H s) (fC : FpOk X pins H C) (hn : ∃ m, s.heap.Ns C m) (nfr : C ∉ frs X.stack)
    (hce : ce.frame = X.env.frame) (hcl : ce.locals = C) {u : Value} (c : L2.CX X.prog X.w X.stack H s E u s') : notedBy (model X.prog X.w) X.A ce (fun e s2 => CompFails (model X.prog X.w) X.A X.xe ce e s2) u s' := by
  obtain ⟨a, B, H', cls, d, rfl, fl, hok, ub, na, os, ag, hE⟩ := c
  have hfr : X.A.frames = some (X.env :: X.outer) := by rw [I.ok.frames, hs]
  have st : B.StaysIn s'.heap := fl.1
  obtain ⟨m, oC, es, ep, hC, hdC, hkC, hmC⟩ := hn
  have bC : B.get? C = some oC := ub.keep C oC hC fC.1 nfr
  have nC' : H' C = none := ub.free C oC hC fC.1
  -- the state without the exception
  obtain ⟨G, g1, g2⟩ := restrict s'.heap fun b => (B.get? b).isSome || decide (b ∈ frs X.stack)
  have gB : ∀ b o, B.get? b = some o → G.get? b = some o := fun b o e => by
    rw [g1 b (by simp [e])]
    exact st b o e
  have gF : ∀ b, b ∈ frs X.stack → G.get? b = s'.heap.get? b := fun b hb => g1 b (by simp [hb])
  have og : ∀ b o, G.get? b = some o → s'.heap.get? b = some o ∧ ((B.get? b).isSome = true ∨ b ∈ frs X.stack) := fun b o e => by
    cases q : ((B.get? b).isSome || decide (b ∈ frs X.stack)) with
    | false => rw [g2 b q] at e; cases e
    | true =>
      rw [g1 b q] at e
      exact ⟨e, by simpa [Bool.or_eq_true] using q⟩
  have J : Inv X pins σ H' { s with heap := G, gens := s'.gens, drawn := s'.drawn, toks := s'.toks } := by
    refine I.call (ch := []) ⟨fun b o e n hb _ => gB b o (ub.keep b o e n hb), fun b o e n hb _ => ?_, fun b o e n _ => ub.free b o e n, fun b o e _ => ?_, ub.tups, ub.frzs, ub.tbls⟩ (hok.kept gB) ag (fun _ z => nomatch z)
    · obtain ⟨sl, q⟩ := ub.slot b o e hb
      exact ⟨sl, by rw [gF b hb]; exact q⟩
    · by_cases hb : b ∈ frs X.stack
      · obtain ⟨sl, q⟩ := ub.slot b o e hb
        exact ⟨_, by rw [gF b hb]; exact q⟩
      · obtain ⟨o', q⟩ := ub.there b o e hb
        exact ⟨o', gB b o' q⟩
  obtain ⟨B', b1, b2⟩ := restrict B fun b => decide (b ≠ C)
  obtain ⟨G2, c1, c2⟩ := restrict G fun b => decide (b ≠ C)
  have bB : ∀ b o, B'.get? b = some o → b ≠ C ∧ B.get? b = some o := fun b o e => by
    by_cases q : b = C
    · rw [b2 b (by simp [q])] at e
      cases e
    · exact ⟨q, by rw [← b1 b (by simp [q])]; exact e⟩
  have bB' : ∀ b, B.get? b = none → B'.get? b = none := fun b e => by
    cases q : B'.get? b with
    | none => rfl
    | some o => rw [(bB b o q).2] at e; cases e
  have gG : ∀ b o, G2.get? b = some o → b ≠ C ∧ G.get? b = some o := fun b o e => by
    by_cases q : b = C
    · rw [c2 b (by simp [q])] at e
      cases e
    · exact ⟨q, by rw [← c1 b (by simp [q])]; exact e⟩
  have J2 : Inv X pins σ H' { s with heap := G2, gens := s'.gens, drawn := s'.drawn, toks := s'.toks } :=
    J.turned (it := C) (h' := G2) (t' := s'.toks) (fun b o hb e => by rw [c1 b (by simp [hb])]; exact e) nC' fC.2.1 fC.2.2.2.1 fC.2.2.2.2.1 fC.2.2.2.2.2
  show wpAny (model X.prog X.w) X.A (noteFrame (.ref a) ce) _ _ s'
  rw [noteFrame_frame hce]
  have fl' : HandSPX.FlyingZ B (X.env :: X.outer) a (Zc cls d) s'.heap := by rw [← hs]; exact fl
  refine HandSPX.looks_onZ Zc.steady hfr hf fl' fun h3 held up3 => ?_
  obtain ⟨k1, k2, k3, oe, vs, T, oT, ts, he, hz, hd, hv1, hnT, hTe, hT, hdT, hv3⟩ := id held
  have c3 : h3.get? C = some oC := k1 C oC bC
  have neC : ∀ {b : Addr} {o : Obj} {xs : Array Value}, h3.get? b = some o → o.data = .fields xs → b ≠ C := fun {b o xs} e dd z => by
    rw [z, c3] at e
    cases e
    rw [hdC] at dd
    cases dd
  have aC : a ≠ C := neC he hd
  have tC : T ≠ C := neC hT hdT
  refine ⟨m, by rw [hcl]; exact ⟨oC, es, ep, c3, hdC, hkC, hmC⟩, fun h' m' hn' sb => ?_⟩
  rw [hcl] at sb
  have sm : ∀ b o, b ≠ C → h3.get? b = some o → h'.get? b = some o := fun b o hb e => (sb.2 b hb).trans e
  unfold PySem.passOn
  refine wpAny_bind (wpAny_field (s := { s' with heap := h' }) (sm a oe aC he) hd hv1 ?_)
  rw [if_neg (show ¬ ((Value.ref T == Value.none) = true) from by simp)]
  have fin : wpAny (model X.prog X.w) X.A (setFlight (.ref a) ce.frame) (fun _ s4 => wpAny (model X.prog X.w) X.A (throw (.ref a) : Sem Value) (fun _ _ => False) X.xe s4) X.xe { s' with heap := h' } := by
    rw [hce, hf]
    have l1 : B'.StaysIn h' := fun b o e => let ⟨p, q⟩ := bB b o e; sm b o p (k1 b o q)
    have l2 : h'.FunFrames B' (X.env :: X.outer) := by
      have f3 : h3.FunFrames B' (X.env :: X.outer) := funFrames_none k3 fun L hL => bB' L (k3.mem hL).1
      have frC : ∀ L ∈ frs (X.env :: X.outer), L ≠ C := fun L hL z => nfr (by rw [hs, ← z]; exact hL)
      clear fl' held
      generalize X.env :: X.outer = l at f3 frC
      induction l with
      | nil => trivial
      | cons env rest ih =>
        obtain ⟨hk, ⟨L, o, hf', hn2, ho, hd2⟩, hr⟩ := f3
        have hLm : L ∈ frs (env :: rest) := List.mem_filterMap.mpr ⟨env, List.mem_cons_self, hf'⟩
        exact ⟨hk, ⟨L, o, hf', hn2, sm L o (frC L hLm) ho, hd2⟩, ih hr fun b hb => frC b (by
          obtain ⟨e, he', q⟩ := List.mem_filterMap.mp hb
          exact List.mem_filterMap.mpr ⟨e, List.mem_cons_of_mem _ he', q⟩)⟩
    have l3 : HandSPX.TracedZ h' B' a (Zc cls d) (rawInt X.env.locals) := ⟨oe, vs, T, oT, ts, sm a oe aC he, hz, hd, hv1, bB' T hnT, hTe, sm T oT tC hT, hdT, hv3⟩
    refine HandSPX.setFlight_anyZ (s := { s' with heap := h' }) l1 l2 l3 fun h4 q1 q2 q3 q4 => wpAny_throw (tk _ _ ?_)
    refine ⟨a, B', _, pins, σ, H', cls, d, rfl, J2, fun b o e hb => ?_, fun b o e nf => ?_, .inr (.inr ⟨q1, bB' a fl.2.1, by rw [hs]; exact q2, q3⟩), na, os, ag, hE⟩
    · obtain ⟨p, q⟩ := gG b o e
      obtain ⟨e', h⟩ := og b o q
      rcases h with h | h
      · obtain ⟨o', q'⟩ := Option.isSome_iff_exists.mp h
        have z := st b o' q'
        rw [e'] at z
        cases z
        rw [b1 b (by simp [p])]
        exact q'
      · exact absurd h hb
    · obtain ⟨p, q⟩ := gG b o e
      obtain ⟨sl, e3⟩ := up3 b o (og b o q).1 nf
      obtain ⟨sl2, e4⟩ := q4 b { o with slots := sl } (sm b _ p e3) nf
      exact ⟨sl2, e4⟩
  first
    | exact wpAny_bind (wpAny_pure (wpAny_bind fin))
    | exact wpAny_bind fin
/-- the block of a comprehension, with another wish about exceptions -/
abbrev blkE (X : Cx) (s : Shared) (H : Hp) (scope : Scope) (cenv : PySem.Env) (fp : List Addr) (xe : Value → Shared → Prop) : Cx := (X.blk s H scope cenv fp).wish xe
theorem pe_lcX {elt tg iter : Expr} {ifs : List Expr} {scope : Scope} {own : List (Str × Nat)} {pos : Pos} {wi : TI} {g : TG} {tt : TT} {te : TE} (hc : X.calm = true) (hN : X.N.Nodup) (hs0 : X.stack = X.env :: X.outer) (hf0 : X.env.frame = some X.env.locals) (tk : Takes X (fun cls d _ H => E cls d H)) (hi : PI X tg iter wi) (ok : BlkOk X.N X.env.scope scope own)
    (hg : ∀ (s : Shared) (H : Hp) (C : Addr) (cl : List (Str × Addr)) (fp : List Addr), PG (X.blk s H scope (compEnvC scope cl C X.env) fp) tg g) (ht : ∀ (s : Shared) (H : Hp) (C : Addr) (cl : List (Str × Addr)) (fp : List Addr), PTs (X.blk s H scope (compEnvC scope cl C X.env) fp) ifs tt)
    (he : ∀ (s : Shared) (H : Hp) (C : Addr) (cl : List (Str × Addr)) (fp : List Addr) (xe : Value → Shared → Prop), Passes (L2.CX X.prog X.w) (blkE X s H scope (compEnvC scope cl C X.env) fp xe) E → PE (blkE X s H scope (compEnvC scope cl C X.env) fp xe) elt te) (hs : ∀ x, foldedSetIterable iter X.env x = pure x := by intro _; rfl) :
    PE X (.ListComp elt [⟨tg, iter, ifs, 0⟩] scope pos) (tLc wi g tt te (own.map (·.2))) := by
  refine ⟨fun pins s σ H Q I h => ?_⟩
  rw [eval_ListComp]
  have hfree : ∀ y ∈ scope.names, y.2 = .free → ∃ c, X.env.cells.lookup y.1 = some c := fun y hy e => by
    rcases ok.free y hy e with k | k
    · exact I.ok.has _ (.inl k)
    · exact I.ok.has _ (.inr k)
  refine comprehension_at rfl hs (closure_ok hfree) ok.kind (fun y hy e => by rw [ok.uniq y hy, e])
    (thn (hi.run pins s σ H _ I h) fun xv s1 hx => thn hx fun itv s2 h2 => ?_)
  obtain ⟨it, fp, tn, J, H2, e, I2, T, st2, f2, q⟩ := h2
  subst e
  refine wpAny_newObj_type (newEnv_comp ?_) (by show 0 ≤ sizeLine; decide)
  generalize hD : s2.heap.objs.size = D
  have hDn : H2 D = none := I2.hok.fresh (Nat.le_of_eq hD)
  obtain ⟨W, ⟨m0, w0⟩, turn⟩ := q D hDn
  generalize hs3 : ({ s2 with heap := s2.heap.push { cls := .type "list", data := .seq ([] : List Value).toArray } } : Shared) = s3
  have I3 : Inv X pins σ (upd H2 D (.lst [])) s3 := by
    rw [← hs3]
    refine I2.laid (t' := s2.toks) (fun b o e => Heap.get?_push_of_some _ e) (Nat.le_of_eq hD) ⟨Nat.zero_le _, [], 0, .nil, ?_⟩
    rw [← hD]
    exact Heap.get?_push_size _ rfl
  have h3 : s3.heap = s2.heap.push { cls := .type "list", data := .seq ([] : List Value).toArray } := by rw [← hs3]
  have sz : ∀ b ∈ fp, b < s2.heap.objs.size := fun b hb => by
    obtain ⟨o, e, _⟩ := T.obj _ _ st2 b hb
    exact Heap.lt_size e
  have f3 : ∀ b ∈ fp, FpOk X pins (upd H2 D (.lst [])) b ∧ b < s3.heap.objs.size := fun b hb => by
    have hlt := sz b hb
    refine ⟨⟨?_, (f2 b hb).2⟩, by rw [h3, Heap.size_push]; exact Nat.lt_succ_of_lt hlt⟩
    rw [upd_ne (by rw [← hD]; exact Nat.ne_of_lt hlt)]
    exact (f2 b hb).1
  have st3 : tn 0 s3.heap := T.keep _ _ _ st2 fun b _ o e => by rw [h3]; exact Heap.get?_push_of_some _ e
  have I4 := block_start I3 ok hN f3
  have pg := hg s3 (upd H2 D (.lst [])) s3.heap.objs.size (cellsFrom (s3.heap.objs.size + 1) scope.names (cloFrom X.env.cells scope.names [])) fp
  have pt := ht s3 (upd H2 D (.lst [])) s3.heap.objs.size (cellsFrom (s3.heap.objs.size + 1) scope.names (cloFrom X.env.cells scope.names [])) fp
  have pe := he s3 (upd H2 D (.lst [])) s3.heap.objs.size (cellsFrom (s3.heap.objs.size + 1) scope.names (cloFrom X.env.cells scope.names [])) fp
  show codeAny _ _ (.compStart (.ListComp elt [⟨tg, iter, ifs, 0⟩] scope pos) 0 (.ref it) (.ref D) (compEnvC scope (cellsFrom (s3.heap.objs.size + 1) scope.names (cloFrom X.env.cells scope.names [])) s3.heap.objs.size X.env)) (compEnds (model X.prog X.w) X.A X.xe none (EP X pins σ Q) (.ref D) (compEnvC scope (cellsFrom (s3.heap.objs.size + 1) scope.names (cloFrom X.env.cells scope.names [])) s3.heap.objs.size X.env)) { s3 with heap := pushCells (s3.heap.push { cls := .type "dict", data := .dict #[] }) scope.names }
  have nfp : ∀ b ∈ fp, (upd H2 D (.lst [])) b = none := fun b hb => (f3 b hb).1.1
  generalize hce : compEnvC scope (cellsFrom (s3.heap.objs.size + 1) scope.names (cloFrom X.env.cells scope.names [])) s3.heap.objs.size X.env = ce at I4 pg pt pe ⊢
  have cL : ce.locals = s3.heap.objs.size := by subst hce; rfl
  have cF : ce.frame = X.env.frame := by subst hce; rfl
  generalize hH3 : upd H2 D (.lst []) = H3 at I3 I4 pg pt pe w0 nfp f3
  generalize hs4 : ({ s3 with heap := pushCells (s3.heap.push { cls := .type "dict", data := .dict #[] }) scope.names } : Shared) = s4 at I4 ⊢
  have st4 : tn 0 s4.heap := T.keep _ _ _ st3 fun b _ o e => by rw [← hs4]; exact pushCells_keeps _ _ _ _ (Heap.get?_push_of_some _ e)
  have stat : ∀ {σ' : L2.St} {H' : Hp} {s' : Shared}, Inv (X.blk s3 H3 scope ce fp) [] σ' H' s' → (∀ b ∈ fp, H' b = none) → ∀ b ∈ fp, FpOk (X.blk s3 H3 scope ce fp) [] H' b := fun {σ' H' s'} I' hn b hb =>
    ⟨hn b hb, (I'.ok.exf b hb).1, I'.ok.exfs b hb, .inl hb, fun x c e => (I'.ok.exf b hb).2 x c e, fun p hp => absurd (show p ∈ ([] : List (Addr × Obj)) ++ [] from hp) (by simp)⟩
  have out : ∀ {pins' : List (Addr × Obj)} {σ' : L2.St} {H' : Hp} {s' : Shared}, Inv (X.blk s3 H3 scope ce fp) pins' σ' H' s' → Inv X pins σ H' s' ∧ FpOk X pins H' s3.heap.objs.size ∧ ∃ m, s'.heap.Ns s3.heap.objs.size m := fun {pins' σ' H' s'} I6 => by
    have nC : H' s3.heap.objs.size = none := by
      have z : H' ce.locals = none := I6.free
      rw [cL] at z
      exact z
    obtain ⟨m, hn, _⟩ := I6.loc
    have hn : s'.heap.Ns ce.locals m := hn
    rw [cL] at hn
    exact ⟨I3.call' (ch := fp) I6.os I6.base I6.hok I6.bare fun b hb => ⟨(f3 b hb).1.2.2.2.1, (f3 b hb).1.2.1, (f3 b hb).1.2.2.2.2.1, (f3 b hb).1.2.2.2.2.2⟩, I3.fpOk (Nat.le_refl _) nC, m, hn⟩
  have nfr : s3.heap.objs.size ∉ frs X.stack := fun z => by
    obtain ⟨_, o, e, _⟩ := I3.stack.mem z
    exact absurd (Heap.lt_size e) (Nat.lt_irrefl _)
  have pe := pe (notedBy (model X.prog X.w) X.A ce fun e s' => compEnds (model X.prog X.w) X.A X.xe none (EP X pins σ Q) (.ref D) ce (.error e) s') fun pins' σ' H' s' e s'' I' c => by
    obtain ⟨J1, J2, J3⟩ := out I'.unwish
    exact comp_fails hs0 hf0 tk J1 J2 J3 nfr cF cL c
  have loop : codeAny (model X.prog X.w) X.A (.compLoop (.ListComp elt [⟨tg, iter, ifs, 0⟩] scope pos) 0 (.ref it) (.ref D) ce) (compEnds (model X.prog X.w) X.A X.xe none (EP X pins σ Q) (.ref D) ce) s4 := by
    refine compLoop_any (fun n s' => ∃ i H', Inv (X.blk s3 H3 scope ce fp) [] (wipe σ (own.map (·.2))) H' s' ∧ tn i s'.heap ∧ (∀ b ∈ fp, H' b = none) ∧ W i n H') ?_ m0 ⟨0, H3, I4, st4, nfp, w0⟩
    rintro n s5 ⟨i, H5, I5, st5, n5, w5⟩
    rcases turn i n H5 w5 with ⟨stop, qq⟩ | ⟨go, Nx, hNx, step⟩
    · have td := T.done (X.blk s3 H3 scope ce fp) rfl rfl rfl hc i [] s5 _ H5 (fun _ _ => False) I5 (stat I5 n5) st5 stop
      refine thnF td fun r s6 ⟨hr, I6⟩ => ?_
      subst hr
      obtain ⟨I7, ⟨f0, f1, f2', f3', f4, f5⟩, m, hn⟩ := out I6
      refine ⟨m, by rw [cL]; exact hn, fun h'' sb => ?_⟩
      rw [cL] at sb
      exact ⟨.ref D, H5, I7.turned (t' := s6.toks) (fun b o hb e => (sb.2 b hb).trans e) f0 f1 f3' f4 f5, rfl, qq⟩
    · have ti := T.item (X.blk s3 H3 scope ce fp) rfl rfl rfl hc i [] s5 _ H5 (fun _ _ => False) I5 (stat I5 n5) st5 go
      refine thnF ti fun r s6 ⟨u, hr, h6⟩ => ?_
      subst hr
      refine thnF h6 fun _ s7 ⟨x, H7, I7, r7, y7, st7, n7⟩ => ?_
      have I7' := I7.pinned (stat I7 n7) (T.obj _ _ st7)
      refine thnF (pg.run _ s7 _ H7 x u _ I7' r7 (step x H7 y7)) fun _ s8 ⟨σ8, H8, I8, hw8, q8⟩ => ?_
      refine thnF (pt.run _ s8 σ8 H8 _ I8 q8) fun b s9 ⟨H9, I9, q9⟩ => ?_
      have fin : ∀ {s' : Shared} {H' : Hp}, Inv (X.blk s3 H3 scope ce fp) ([] ++ pinsAt fp s7.heap) σ8 H' s' → Nx H' → ∃ m, m < n ∧ ∃ i H', Inv (X.blk s3 H3 scope ce fp) [] (wipe σ (own.map (·.2))) H' s' ∧ tn i s'.heap ∧ (∀ b ∈ fp, H' b = none) ∧ W i m H' := fun {s' H'} I' nx => by
        obtain ⟨m', hm, w'⟩ := hNx H' nx
        have pin' : ∀ b ∈ fp, ∀ o, s7.heap.get? b = some o → s'.heap.get? b = some o ∧ H' b = none := fun b hb o e =>
          let z := I'.pin (b, o) (List.mem_append_right _ (List.mem_append_right _ (mem_pinsAt hb e)))
          ⟨z.1, z.2.1⟩
        have hl : (wipe σ (own.map (·.2))).length = σ8.length := by rw [← hw8, wipe_length]
        refine ⟨m', hm, i + 1, H', (I'.unpinned (pins := [])).weak hl (fun j v e => ?_), T.keep _ _ _ st7 fun b hb o e => (pin' b hb o e).1, fun b hb => ?_, w'⟩
        · rw [← hw8] at e
          exact (wipe_some e).1
        · obtain ⟨o, e, _⟩ := T.obj _ _ st7 b hb
          exact (pin' b hb o e).2
      cases b with
      | false =>
        simp only [Bool.false_eq_true, if_false] at q9 ⊢
        exact fin I9 q9
      | true =>
        simp only [if_true] at q9 ⊢
        refine wpAny_mono (pe.run _ s9 σ8 H9 _ (I9.wish _) q9) (fun z s10 ⟨yv, H10, I10, r10, acc, hD10, hz10, nx⟩ => ?_) fun _ _ z => z
        exact app_ok (X := X.blk s3 H3 scope ce fp) I10.unwish hD10 hz10 r10 fun s11 I11 => fin I11 nx
  exact codeAny_compStart_list loop (T.self X.A 0 _ _ _ st4 loop)
end
section
variable [Nm] {O : Ob} {X : Cx} {E : XK}
def lcStepX (T : Tg) (vs : List Nat) (ft : Rho → WD Bool) (fe : Rho → WD D) (ρ : Rho) (Ed : Str → Prop) : D → (Option D → Prop) → Prop := fun x k => orStuck (bindT T x) fun l => ft (setAll (wipeR ρ vs) l) (fun b => if b = true then fe (setAll (wipeR ρ vs) l) (fun y => k (some y)) Ed else k none) (fun _ => False)
def eLcX (fi : Rho → WD (List D)) (T : Tg) (vs : List Nat) (ft : Rho → WD Bool) (fe : Rho → WD D) : Rho → WD (List D) := fun ρ Q Ed => fi ρ (fun xs => xs.length ≤ 1000000 ∧ lcLoop (lcStepX T vs ft fe ρ Ed) xs [] Q) Ed
theorem eLcX_r (fi : Rho → WD (List D)) (T : Tg) (vs : List Nat) (ft : Rho → WD Bool) (fe : Rho → WD D) (ρ : Rho) (Q : List D → Prop) (Ed : Str → Prop) : eLcX fi T vs ft fe ρ Q Ed = fi ρ (fun xs => xs.length ≤ 1000000 ∧ lcLoop (lcStepX T vs ft fe ρ Ed) xs [] Q) Ed := propext Iff.rfl
theorem lcStepX_r (T : Tg) (vs : List Nat) (ft : Rho → WD Bool) (fe : Rho → WD D) (ρ : Rho) (Ed : Str → Prop) (x : D) (k : Option D → Prop) : lcStepX T vs ft fe ρ Ed x k = orStuck (bindT T x) fun l => ft (setAll (wipeR ρ vs) l) (fun b => if b = true then fe (setAll (wipeR ρ vs) l) (fun y => k (some y)) Ed else k none) (fun _ => False) := propext Iff.rfl
theorem df_lcX {elt tg iter : Expr} {ifs : List Expr} {scope : Scope} {pos : Pos} {own : List (Str × Nat)} {fi : Rho → WD (List D)} {T : Tg} {ft : Rho → WD Bool} {fe : Rho → WD D} (hc : X.calm = true) (hN : X.N.Nodup) (hs0 : X.stack = X.env :: X.outer) (hf0 : X.env.frame = some X.env.locals) (ai : Air X E) (hi : DI O X E tg iter fi) (ok : BlkOk X.N X.env.scope scope own)
    (hg : ∀ (s : Shared) (H : Hp) (C : Addr) (cl : List (Str × Addr)) (fp : List Addr), DG O (X.blk s H scope (compEnvC scope cl C X.env) fp) tg T) (ht : ∀ (s : Shared) (H : Hp) (C : Addr) (cl : List (Str × Addr)) (fp : List Addr), DTs O (X.blk s H scope (compEnvC scope cl C X.env) fp) E0 ifs ft)
    (he : ∀ (s : Shared) (H : Hp) (C : Addr) (cl : List (Str × Addr)) (fp : List Addr) (xe : Value → Shared → Prop), Passes (L2.CX X.prog X.w) (blkE X s H scope (compEnvC scope cl C X.env) fp xe) E → DE O (blkE X s H scope (compEnvC scope cl C X.env) fp xe) E elt fe) (hT : ∀ i ∈ T.slots, i ∈ own.map (·.2)) (hs : ∀ x, foldedSetIterable iter X.env x = pure x := by intro _; rfl) :
    DF O X E (.ListComp elt [⟨tg, iter, ifs, 0⟩] scope pos) (eLcX fi T (own.map (·.2)) ft fe) := by
  obtain ⟨wi, i1, i2⟩ := hi
  refine ⟨_, pe_lcX (E := E) (g := fun v σ H Q => ∃ (P : Addr → Prop) (d : D) (l : List (Nat × D)), Dv O X.K H P v d ∧ bindT T d = some l ∧ ∀ a, Bnd O X.K H P a l → Q (setAll σ a) H) (tt := tT O X.K X.mg E0 ft) (te := tE O X.K X.mg E fe) hc hN hs0 hf0 ai.takes i1 ok (fun s H C cl fp => (hg s H C cl fp).pg) (fun s H C cl fp => (ht s H C cl fp).pts) (fun s H C cl fp xe px => (he s H C cl fp xe px).pe) hs, fun P ρ σ H Qd Ed Q hd hr hf hQ hE => i2 P ρ σ H _ Ed _ hd hr hf (fun J xs H1 s1 dv q Dl hD => ?_) hE⟩
  obtain ⟨hlen, q⟩ := q
  refine ⟨fun i m H2 => m = xs.length - i ∧ i ≤ xs.length ∧ Same H1 H2 ∧ ∃ vs acc, H2 Dl = some (.lst vs) ∧ DvAll O X.K H2 (fun a => P a ∨ a = Dl) vs acc ∧ acc.length ≤ i ∧ lcLoop (lcStepX T (own.map (·.2)) ft fe ρ Ed) (xs.drop i) acc Qd,
    ⟨xs.length, by simp, Nat.zero_le _, same_new hD, [], [], upd_same, .nil, Nat.le_refl _, q⟩, ?_⟩
  rintro i m H2 ⟨rfl, hi, s2, vs, acc, eD, hv, hacc, lp⟩
  have hd1 := hd.same s1
  have pp : ∀ a, P a → P a ∨ a = Dl := fun a z => .inl z
  have hp : ∀ a, (P a ∨ a = Dl) → P a ∨ Nn H1 a := fun a z => z.imp id fun e => by rw [e]; exact nn hD
  have hd2 : Dom H2 (fun a => P a ∨ a = Dl) := ⟨fun a z => by
    rcases z with z | z
    · exact (hd1.same s2).has a z
    · exact ⟨_, by rw [z]; exact eD, .inl ⟨_, rfl⟩⟩, (hd1.same s2).tab⟩
  have dr := dv _ H2 pp hp (.of s2)
  by_cases hlt : i < xs.length
  · refine .inr ⟨dr.go i hlt, fun H' => Same H1 H' ∧ ∃ vs acc, H' Dl = some (.lst vs) ∧ DvAll O X.K H' (fun a => P a ∨ a = Dl) vs acc ∧ acc.length ≤ i + 1 ∧ lcLoop (lcStepX T (own.map (·.2)) ft fe ρ Ed) (xs.drop (i + 1)) acc Qd,
      fun H' ⟨a, b⟩ => ⟨xs.length - (i + 1), by omega, rfl, hlt, a, b⟩, fun x H3 y => ?_⟩
    obtain ⟨d, ed⟩ := get_lt hlt
    obtain ⟨s3, hx⟩ := dr.yld i x H3 d y ed
    have st := lcLoop_drop ed lp
    obtain ⟨l, el, st⟩ := of_orStuck st
    refine ⟨fun a => P a ∨ a = Dl, d, l, hx, el, fun a ha => ⟨wipe_setAll fun j hj => ?_, ?_⟩⟩
    · rw [ha.keys, bindT_slots el] at hj
      exact hT j hj
    have hd3 := hd2.same s3
    have rs3 : Rs O X.K (fun a => P a ∨ a = Dl) (setAll (wipeR ρ (own.map (·.2))) l) (setAll (wipe σ (own.map (·.2))) a) H3 := by
      exact Rs.many ha (Rs.wipe (((hr.same s1).kf hp (.of s2) hd1).same s3) _)
    refine ⟨fun a => P a ∨ a = Dl, _, _, _, hd3, rs3, st, fun b H4 s4 q4 => ?_, fun _ _ _ _ _ z => z.elim⟩
    have s24 := s3.trans s4
    have hd4 := hd3.same s4
    have hv4 := hv.same s24
    have eD4 := s24.all _ _ eD no_lst
    cases b with
    | true =>
      refine ⟨fun a => P a ∨ a = Dl, _, _, Ed, hd4, rs3.same s4, q4, fun y dy H5 s5 h5 q5 => ?_, fun c a H' s m e => hE c a H' ((((s1.trans s2).trans s3).trans s4).trans s) m e⟩
      have eD5 := s5.all _ _ eD4 no_lst
      refine ⟨vs, eD5, ?_, ?_, vs ++ [y], acc ++ [dy], upd_same, ?_, ?_, q5⟩
      · rw [hv.length]
        exact Nat.lt_of_le_of_lt (Nat.le_trans hacc (Nat.le_of_lt (Nat.lt_of_lt_of_le hlt hlen))) (by decide)
      · exact ((s2.trans s24).trans s5).upd (nn hD) eD5 mb_lst
      · refine DvAll.keep (fun a o e m _ => ?_) (fun a o e m n => ?_) (fun a o e _ n => n) ((hv4.same s5).append (.cons h5 .nil))
        · have : a ≠ Dl := fun z => by
            subst z
            rw [eD5] at e
            cases e
            exact m (.inl ⟨_, rfl⟩)
          rw [upd_ne this]
          exact e
        · have : a ≠ Dl := fun z => n (.inr z)
          rw [upd_ne this]
          exact e
      · rw [List.length_append]
        exact Nat.add_le_add hacc (Nat.le_refl 1)
    | false => exact ⟨s2.trans s24, vs, acc, eD4, hv4, Nat.le_succ_of_le hacc, q4⟩
  · have e : i = xs.length := by omega
    subst e
    rw [List.drop_length] at lp
    exact .inl ⟨dr.stop _ (Nat.le_refl _), hQ Dl vs acc H2 (s1.trans s2) (s1.free (nn hD)) eD hv lp⟩
/-! ### a text, so many times -/
def mulSD : D → D → WD D
  | .str x, .int n => fun Q _ => PySem.MulOk x n ∧ PyData.strOk (Txt.mul x n) = true ∧ Q (.str (Txt.mul x n))
  | _, _ => fun _ _ => False
def rMulS : R2 := fun x y H Q => ∃ (z : Str) (n : Int), x = .str z ∧ y = .int n ∧ PySem.MulOk z n ∧ Q (.str (Txt.mul z n)) H
theorem op_mulS : OpR X (binaryOp .Mult) rMulS := by
  intro pins s σ H x y v u Q I rx ry h
  obtain ⟨z, n, rfl, rfl, ok, q⟩ := h
  obtain ⟨t, rfl⟩ := rx
  obtain ⟨t', rfl⟩ := ry
  exact PySem.SB.mul ok fun t'' k => ⟨.str (Txt.mul z n), H, I.tok _, ⟨_, rfl⟩, q⟩
theorem opd_mulS : OpD O X rMulS mulSD := fun P H x y d e Qd Ed Q hd hx hy hg hQ => by
  cases hx with
  | str z hz =>
    cases hy with
    | int n => exact ⟨z, n, rfl, rfl, hg.1, hQ.here (.str _ hg.2.1) hg.2.2⟩
    | _ => exact hg.elim
  | _ => cases hy <;> exact hg.elim
theorem mulSD_r (x : Str) (n : Int) (Q : D → Prop) (Ed : Str → Prop) : mulSD (.str x) (.int n) Q Ed = (PySem.MulOk x n ∧ PyData.strOk (Txt.mul x n) = true ∧ Q (.str (Txt.mul x n))) := propext Iff.rfl
end
end DL

/-! DLsA: tables of sets of up to 512 slots: each slot is met, each hash is found again. -/
namespace DL
open PySem PySem.Spec PyProof.Rows L2
/-- the masks that come -/
def Mk4 (m : Nat) : Prop := m = 7 ∨ m = 31 ∨ m = 127 ∨ m = 511
/-- the round from x on -/
def orbL (m : Nat) : Nat → Nat → List Nat
  | _, 0 => []
  | x, n + 1 => x :: orbL m ((x * 5 + 1) % (m + 1)) n
theorem lcgI_shift (m : Nat) : ∀ (k x : Nat), lcgI m ((x * 5 + 1) % (m + 1)) k = lcgI m x (k + 1)
  | 0, _ => rfl
  | k + 1, x => by
    show (lcgI m ((x * 5 + 1) % (m + 1)) k * 5 + 1) % (m + 1) = (lcgI m x (k + 1) * 5 + 1) % (m + 1)
    rw [lcgI_shift m k x]
theorem mem_orb (m : Nat) : ∀ (n x j : Nat), j ∈ orbL m x n → ∃ k, k < n ∧ lcgI m x k = j
  | 0, _, _, h => by cases h
  | n + 1, x, j, h => by
    rcases List.mem_cons.mp h with e | e
    · exact ⟨0, Nat.succ_pos _, e.symm⟩
    · obtain ⟨k, hk, e2⟩ := mem_orb m n _ j e
      exact ⟨k + 1, Nat.succ_lt_succ hk, by rw [← lcgI_shift]; exact e2⟩
theorem orb511 : ((List.range 512).all fun j => (orbL 511 0 512).contains j) = true := by decide +kernel
theorem round511 : lcgN 511 512 = 0 := by decide +kernel
theorem lcg4_all {m : Nat} (hm : Mk4 m) {j : Nat} (hj : j ≤ m) : ∃ b, b ≤ m ∧ lcgN m b = j := by
  rcases hm with e | e | e | e
  · exact lcg_all (.inl e) hj
  · exact lcg_all (.inr (.inl e)) hj
  · exact lcg_all (.inr (.inr e)) hj
  · subst e
    have h1 := List.all_eq_true.mp orb511 j (List.mem_range.mpr (Nat.lt_succ_of_le hj))
    obtain ⟨k, hk, e⟩ := mem_orb 511 512 0 j (by simpa using h1)
    refine ⟨k, Nat.le_of_lt_succ hk, ?_⟩
    have := lcgN_add 511 0 k
    rw [Nat.zero_add] at this
    rw [← this]
    exact e
theorem lcg4_round {m : Nat} (hm : Mk4 m) : lcgN m (m + 1) = 0 := by
  rcases hm with e | e | e | e
  · exact lcg_round (.inl e)
  · exact lcg_round (.inr (.inl e))
  · exact lcg_round (.inr (.inr e))
  · subst e
    exact round511
theorem lcg4_mod {m : Nat} (hm : Mk4 m) : ∀ k, lcgN m (m + 1 + k) = lcgN m k
  | 0 => lcg4_round hm
  | k + 1 => by
    show (lcgN m (m + 1 + k) * 5 + 1) % (m + 1) = (lcgN m k * 5 + 1) % (m + 1)
    rw [lcg4_mod hm k]
theorem lcg4_from {m : Nat} (hm : Mk4 m) {i j : Nat} (hi : i ≤ m) (hj : j ≤ m) : ∃ k, k ≤ m ∧ lcgI m i k = j := by
  obtain ⟨a, ha, ea⟩ := lcg4_all hm hi
  obtain ⟨b, hb, eb⟩ := lcg4_all hm hj
  subst ea
  subst eb
  by_cases c : a ≤ b
  · exact ⟨b - a, by omega, by rw [lcgN_add, show a + (b - a) = b by omega]⟩
  · exact ⟨b + (m + 1) - a, by omega, by rw [lcgN_add, show a + (b + (m + 1) - a) = m + 1 + b by omega, lcg4_mod hm]⟩
/-- each slot begins a run early enough -/
theorem run4_meets {m : Nat} (hm : Mk4 m) (h : Int) {j : Nat} (hj : j ≤ m) : ∃ n, n ≤ m + 12 ∧ runI m (SetTable.bits h) n = j := by
  obtain ⟨k, hk, e⟩ := lcg4_from hm (runI_le m (SetTable.bits h) 12) hj
  exact ⟨12 + k, by omega, by rw [runI_tail (bits_lt h)]; exact e⟩
theorem nth4_meets {m : Nat} (hm : Mk4 m) (h : Int) {j : Nat} (hj : j ≤ m) : ∃ k, k < 10 * SetTable.turns m ∧ way m h k = j := by
  obtain ⟨n, hn, e⟩ := run4_meets hm h hj
  obtain ⟨k, hk, e2⟩ := run_nth m (SetTable.bits h) n
  exact ⟨k, by unfold SetTable.turns; omega, by show (nth m (runAt m (SetTable.bits h % (m + 1)) (SetTable.bits h)) k).j = j; rw [e2]; exact e⟩
theorem odd4 {m : Nat} (h : Mk4 m) : m % 2 = 1 := by
  rcases h with e | e | e | e <;> subst e <;> rfl
theorem big4 {m : Nat} (h : Mk4 m) : m ≤ 511 := by
  rcases h with e | e | e | e <;> omega
theorem way4_le {m : Nat} {h : Int} {k : Nat} : way m h k ≤ m := by
  have hi : SetTable.bits h % (m + 1) ≤ m := Nat.le_of_lt_succ (Nat.mod_lt _ (Nat.succ_pos _))
  have r := runEnd_bd hi
  have q := nth_in (m := m) k (runAt m (SetTable.bits h % (m + 1)) (SetTable.bits h)) (by
    show SetTable.bits h % (m + 1) + (SetTable.runEnd m (SetTable.bits h % (m + 1)) - SetTable.bits h % (m + 1)) ≤ m
    omega)
  exact Nat.le_trans (Nat.le_add_right _ _) q
/-- a table in which each hash leads to its slot over filled ones -/
structure Tb (t : SetTable) (hs : List Int) : Prop where
  ris : Ris t.place.toList
  dm : t.dummies = #[]
  sz : t.place.toList.length = hs.length
  mok : Mk4 t.mask
  bd : ∀ x ∈ t.place.toList, x ≤ t.mask
  led : ∀ (i : Nat) (h : Int) (j : Nat), hs[i]? = some h → t.place.toList[i]? = some j → ∃ k, way t.mask h k = j ∧ ∀ k', k' < k → way t.mask h k' ∈ t.place.toList
theorem Tb.free {t : SetTable} {hs : List Int} (T : Tb t hs) (hl : hs.length ≤ t.mask) (h : Int) : ∃ K, K < 10 * SetTable.turns t.mask ∧ way t.mask h K ∉ t.place.toList ∧ ∀ k, k < K → way t.mask h k ∈ t.place.toList := by
  obtain ⟨j, hj, hn⟩ := st_missing t.place.toList (t.mask + 1) (by rw [T.sz]; omega)
  obtain ⟨k, hk, e⟩ := nth4_meets T.mok h (Nat.le_of_lt_succ hj)
  obtain ⟨K, h1, h2, h3⟩ := st_least (p := fun k => way t.mask h k ∉ t.place.toList) k (by rw [e]; exact hn)
  exact ⟨K, Nat.lt_of_le_of_lt h1 hk, h2, fun k' hk' => Classical.byContradiction fun c => h3 k' hk' c⟩
theorem Tb.ahead {t : SetTable} {hs : List Int} (T : Tb t hs) {h : Int} {K i j : Nat} (hK : way t.mask h K ∉ t.place.toList) (hi : hs[i]? = some h) (hj : t.place.toList[i]? = some j) : ∃ k, k < K ∧ way t.mask h k = j := by
  obtain ⟨k, e, hb⟩ := T.led i h j hi hj
  refine ⟨k, Nat.lt_of_not_le fun c => ?_, e⟩
  rcases Nat.lt_or_eq_of_le c with c | c
  · exact hK (hb K c)
  · subst c
    rw [e] at hK
    exact hK (List.mem_of_getElem? hj)
/-- one more, at a free slot -/
theorem Tb.more {t : SetTable} {hs : List Int} (T : Tb t hs) {h : Int} {K : Nat} (hK : way t.mask h K ∉ t.place.toList) (hb : ∀ k, k < K → way t.mask h k ∈ t.place.toList) :
    SetTable.below t.place (way t.mask h K) ≤ hs.length ∧
    Tb (t.put (way t.mask h K)).1 (hs.take (SetTable.below t.place (way t.mask h K)) ++ h :: hs.drop (SetTable.below t.place (way t.mask h K))) ∧ (t.put (way t.mask h K)).1.fill = hs.length + 1 := by
  have hjm : way t.mask h K ≤ t.mask := way4_le
  generalize hj : way t.mask h K = j at hK hjm ⊢
  have c1 : SetTable.below t.place j ≤ t.place.toList.length := by
    rw [Array.length_toList]
    exact (below_cut T.ris j).1
  have c2 : SetTable.below t.place j ≤ hs.length := T.sz ▸ c1
  have np : t.place[SetTable.below t.place j]? ≠ some j := fun e => hK (List.mem_of_getElem? (by rw [Array.getElem?_toList]; exact e))
  have pp := put_place t j
  have up : ∀ {x : Nat}, x ∈ t.place.toList → x ∈ (t.put j).1.place.toList := fun hx => by
    rw [pp]
    exact mem_ins.2 (.inr hx)
  have sz : (t.put j).1.place.toList.length = hs.length + 1 := by rw [pp, len_ins _ c1, T.sz]
  refine ⟨c2, ⟨ris_insert T.ris np, put_dm T.dm j, by rw [sz, len_ins _ c2], T.mok, fun x hx => ?_, fun i h' j' h1 h2 => ?_⟩, ?_⟩
  · rw [pp] at hx
    rcases mem_ins.1 hx with z | z
    · rw [z]
      exact hjm
    · exact T.bd x z
  · rw [tins_get hs c2] at h1
    rw [pp, tins_get _ c1] at h2
    show ∃ k, way t.mask h' k = j' ∧ ∀ k', k' < k → way t.mask h' k' ∈ (t.put j).1.place.toList
    have old : ∀ i, hs[i]? = some h' → t.place.toList[i]? = some j' → ∃ k, way t.mask h' k = j' ∧ ∀ k', k' < k → way t.mask h' k' ∈ (t.put j).1.place.toList := fun i a b => by
      obtain ⟨k, e, z⟩ := T.led i h' j' a b
      exact ⟨k, e, fun k' hk' => up (z k' hk')⟩
    by_cases c : i < SetTable.below t.place j
    · rw [if_pos c] at h1 h2
      exact old i h1 h2
    · rw [if_neg c] at h1 h2
      by_cases d : i = SetTable.below t.place j
      · rw [if_pos d] at h1 h2
        cases h1
        cases h2
        exact ⟨K, hj, fun k' hk' => up (hb k' hk')⟩
      · rw [if_neg d] at h1 h2
        exact old _ h1 h2
  · show (t.put j).1.place.size + (t.put j).1.dummies.size = hs.length + 1
    rw [put_dm T.dm j, ← Array.length_toList, sz]
    rfl
/-! ### laid anew -/
theorem free4 {m : Nat} (hm : Mk4 m) (owner : Array (Option Nat)) (h : Int) {j : Nat} (hj : j ≤ m) (hf : oAt owner j = none) :
    ∃ K, SetTable.layClean.free m owner (SetTable.turns m) (SetTable.bits h % (m + 1)) (SetTable.bits h) = some (way m h K) ∧ oAt owner (way m h K) = none ∧ ∀ k, k < K → oAt owner (way m h k) ≠ none := by
  obtain ⟨n, hn, e⟩ := run4_meets hm h hj
  have hw : way m h (off m (SetTable.bits h % (m + 1)) (SetTable.bits h) n) = j := by
    show (nth m (runAt m (SetTable.bits h % (m + 1)) (SetTable.bits h)) (off m (SetTable.bits h % (m + 1)) (SetTable.bits h) n)).j = j
    rw [nth_off, itL_run]
    exact e
  obtain ⟨K, k1, k2, k3⟩ := st_least (p := fun k => oAt owner (way m h k) = none) _ (show oAt owner (way m h _) = none by rw [hw]; exact hf)
  refine ⟨K, free_spec m owner (SetTable.turns m) n _ _ K (by unfold SetTable.turns; omega) k1 (fun k hk => ?_) ?_, k2, k3⟩
  · have q := k3 k hk
    cases z : oAt owner (nth m (runAt m (SetTable.bits h % (m + 1)) (SetTable.bits h)) k).j with
    | none => exact absurd z q
    | some _ => rfl
  · rw [show oAt owner (nth m (runAt m (SetTable.bits h % (m + 1)) (SetTable.bits h)) K).j = none from k2]
    rfl
theorem own4 {m : Nat} (hm : Mk4 m) {done : List Int} {owner : Array (Option Nat)} (W : Own m done owner) (hl : done.length ≤ m) (h : Int) :
    ∃ j, SetTable.layClean.free m owner (SetTable.turns m) (SetTable.bits h % (m + 1)) (SetTable.bits h) = some j ∧ Own m (done ++ [h]) (owner.setIfInBounds j (some done.length)) := by
  obtain ⟨ps, hps, hin⟩ := W.ps
  obtain ⟨j0, h0, hn0⟩ := st_missing ps (m + 1) (by omega)
  have hj0 : oAt owner j0 = none := Classical.byContradiction fun z => hn0 (hin j0 (Nat.le_of_lt_succ h0) z)
  obtain ⟨K, e1, e2, e3⟩ := free4 hm owner h (Nat.le_of_lt_succ h0) hj0
  have hjm : way m h K ≤ m := way4_le
  generalize hj : way m h K = j at e1 e2 hjm
  have hjs : j < owner.size := by
    rw [W.sz]
    exact Nat.lt_succ_of_le hjm
  have new := oAt_set_self (some done.length) hjs
  have mono : ∀ {i : Nat}, oAt owner i ≠ none → oAt (owner.setIfInBounds j (some done.length)) i ≠ none := fun {i} hi => by
    by_cases c : i = j
    · rw [c, new]
      exact fun e => nomatch e
    · rw [oAt_set_ne _ c]
      exact hi
  refine ⟨j, e1, by rw [Array.size_setIfInBounds]; exact W.sz, fun i k hi e => ?_, fun k hk => ?_, j :: ps, by simp [hps], fun i hi e => ?_⟩
  · by_cases c : i = j
    · rw [c, new] at e
      cases e
      exact ⟨h, K, by simp, c ▸ hj, fun k' hk' => mono (e3 k' hk')⟩
    · rw [oAt_set_ne _ c] at e
      obtain ⟨h', K', a1, a2, a3⟩ := W.at_ i k hi e
      exact ⟨h', K', by rw [List.getElem?_append_left (List.getElem?_eq_some_iff.mp a1).1]; exact a1, a2, fun k' hk' => mono (a3 k' hk')⟩
  · by_cases c : k < done.length
    · obtain ⟨i, hi, e⟩ := W.all k c
      exact ⟨i, hi, by rw [oAt_set_ne _ (fun z => by rw [z, e2] at e; cases e)]; exact e⟩
    · have ek : k = done.length := by
        rw [List.length_append, List.length_singleton] at hk
        omega
      rw [ek]
      exact ⟨j, hjm, new⟩
  · by_cases c : i = j
    · rw [c]
      exact List.mem_cons_self
    · rw [oAt_set_ne _ c] at e
      exact List.mem_cons_of_mem _ (hin i hi e)
theorem fold4 {m : Nat} (hm : Mk4 m) : ∀ (rest done : List Int) (owner : Array (Option Nat)), Own m done owner → done.length + rest.length ≤ m →
    ∃ owner', rest.foldl (stepF m) (some (owner, done.length)) = some (owner', (done ++ rest).length) ∧ Own m (done ++ rest) owner'
  | [], done, owner, W, _ => ⟨owner, by simp, by rw [List.append_nil]; exact W⟩
  | h :: rest, done, owner, W, hl => by
    rw [List.length_cons] at hl
    obtain ⟨j, e, W'⟩ := own4 hm W (by omega) h
    obtain ⟨owner', f, W2⟩ := fold4 hm rest (done ++ [h]) _ W' (by rw [List.length_append, List.length_singleton]; omega)
    rw [List.append_assoc, List.singleton_append] at f W2
    rw [List.length_append, List.length_singleton] at f
    exact ⟨owner', by rw [List.foldl_cons, stepF_some e]; exact f, W2⟩
theorem lay4 {m : Nat} (hm : Mk4 m) {hs : Array Int} (hn : hs.size ≤ m) : ∃ owner, SetTable.layClean m hs = some owner ∧ Own m hs.toList owner := by
  obtain ⟨owner, f, W⟩ := fold4 hm hs.toList [] _ (Own.init m) (by rw [Array.length_toList]; simpa using hn)
  rw [List.nil_append] at W
  refine ⟨owner, ?_, W⟩
  rw [layClean_eq, show hs.toList.foldl (stepF m) (some (Array.replicate (m + 1) none, 0)) = some (owner, ([] ++ hs.toList).length) from f]
  rfl
theorem relaid4 (t : SetTable) {hs : Array Int} {wanted M : Nat} (hw : SetTable.sizeAbove wanted - 1 = M) (hM : Mk4 M) (hn : hs.size ≤ M) :
    ∃ t' order, t.relaid hs wanted = some (t', order) ∧ order.toList.Perm (List.range hs.size) ∧ Tb t' (order.toList.map fun i => hs.getD i 0) ∧ t'.mask = M ∧ t'.led = t.led := by
  obtain ⟨owner, e, W⟩ := lay4 hM hn
  have ris := ris_live (fun j => owner.getD j none) (List.range (M + 1)) List.pairwise_lt_range
  have r1 : Ris ((liveOf M owner).map (·.1)) := ris.1
  have r2 : ∀ x ∈ (liveOf M owner).map (·.1), x ∈ List.range (M + 1) := ris.2
  have got : ∀ k, k < hs.size → k ∈ (liveOf M owner).map (·.2) := fun k hk => by
    obtain ⟨j, b1, b2⟩ := W.all k (by rw [Array.length_toList]; exact hk)
    exact List.mem_map.mpr ⟨(j, k), (mem_live W.sz).2 ⟨b1, b2⟩, rfl⟩
  have hlen : (liveOf M owner).length = hs.size := by
    obtain ⟨ps, p1, p2⟩ := W.ps
    have nd : ((liveOf M owner).map (·.1)).Nodup := List.Pairwise.imp (fun h => Nat.ne_of_lt h) r1
    have a := nat_nodup_len ((liveOf M owner).map (·.1)) ps nd fun x hx => by
      obtain ⟨⟨y, k⟩, hq, rfl⟩ := List.mem_map.mp hx
      obtain ⟨b1, b2⟩ := (mem_live W.sz).1 hq
      exact p2 y b1 (by rw [b2]; exact fun z => nomatch z)
    have b := nat_nodup_len (List.range hs.size) ((liveOf M owner).map (·.2)) List.nodup_range fun k hk => got k (List.mem_range.mp hk)
    rw [List.length_map, p1] at a
    rw [List.length_map, List.length_range] at b
    have hz : hs.toList.length = hs.size := rfl
    omega
  refine ⟨tabOf t M owner, ((liveOf M owner).map (·.2)).toArray, by rw [relaid_eq, hw, e]; rfl, perm_range hs.size _ (by simp [hlen]) got, ⟨r1, rfl, ?_, hM, fun x hx => ?_, fun i h j h1 h2 => ?_⟩, rfl, rfl⟩
  · show ((liveOf M owner).map (·.1)).length = (((liveOf M owner).map (·.2)).map fun i => hs.getD i 0).length
    simp
  · exact Nat.le_of_lt_succ (List.mem_range.mp (r2 x hx))
  · have h1' : (((liveOf M owner).map (·.2)).map fun i => hs.getD i 0)[i]? = some h := h1
    have h2' : ((liveOf M owner).map (·.1))[i]? = some j := h2
    rw [List.getElem?_map, List.getElem?_map] at h1'
    rw [List.getElem?_map] at h2'
    cases hq : (liveOf M owner)[i]? with
    | none =>
      rw [hq] at h2'
      cases h2'
    | some q =>
      obtain ⟨y, k⟩ := q
      rw [hq] at h1' h2'
      cases h2'
      have eh : hs.getD k 0 = h := Option.some.inj h1'
      obtain ⟨b1, b2⟩ := (mem_live W.sz).1 (List.mem_of_getElem? hq)
      obtain ⟨h0, K, a1, a2, a3⟩ := W.at_ y k b1 b2
      have e0 : hs.getD k 0 = h0 := by
        rw [Array.getD_eq_getD_getElem?, ← Array.getElem?_toList, a1]
        rfl
      obtain rfl : h0 = h := e0.symm.trans eh
      refine ⟨K, a2, fun k' hk' => ?_⟩
      show way M h0 k' ∈ (liveOf M owner).map (·.1)
      cases z : oAt owner (way M h0 k') with
      | none => exact absurd z (a3 k' hk')
      | some k2 => exact List.mem_map.mpr ⟨(way M h0 k', k2), (mem_live W.sz).2 ⟨way4_le, z⟩, rfl⟩
theorem size4_5 : SetTable.sizeAbove (SetTable.grown 5) = 32 := by decide +kernel
theorem size4_19 : SetTable.sizeAbove (SetTable.grown 19) = 128 := by decide +kernel
theorem size4_77 : SetTable.sizeAbove (SetTable.grown 77) = 512 := by decide +kernel
end DL

/-! DLsB: sets of nested tuples. -/
namespace DL
open PySem PySem.Spec PyProof.Rows L2
/-- data as a key -/
def nk : PyData → NestedKey
  | .none => .none
  | .bool b => .num (if b = true then 1 else 0)
  | .int i => .num i
  | .str x => .text x
  | .tuple xs => .tup (nks xs)
  | _ => .none
where nks : List PyData → List NestedKey
  | [] => []
  | x :: xs => nk x :: nks xs
/-- the tuple at a is such a key -/
def NIs (h : Heap) (d : PyData) (a : Addr) : Prop := NestedIs h (nk d) (.ref a) ∧ (nk d).depth ≤ 8
section
variable {P : Program} {w : World} {A : Around} {E : Value → Shared → Prop} {s : Shared}
mutual
theorem hashBy_nk : ∀ (k : NestedKey) (v : Value) (n : Nat) (A : Around) (s : Shared) (Q : Bool → Shared → Prop), NestedIs s.heap k v → (∀ b, Q b s) → wpAny (model P w) A (hashByValue n v) Q E s
  | .none, _, n, A, s, Q, x, h => by
    cases x
    cases n <;> exact wpAny_pure (h _)
  | .num i, _, n, A, s, Q, x, h => by
    cases x <;> cases n <;> exact wpAny_pure (h _)
  | .text y, _, n, A, s, Q, x, h => by
    cases x
    cases n <;> exact wpAny_pure (h _)
  | .tup ks, _, n, A, s, Q, x, h => by
    cases x with
    | @tup a o vs m _ hg hc hd hk =>
      cases n with
      | zero => exact wpAny_pure (h _)
      | succ n =>
        have hT : s.TypeIs (.ref a) "tuple" := ⟨o, hg, hc⟩
        unfold hashByValue
        refine wpAny_bind (wpAny_specialOf hT F.slot_tuple_hash.lookup ?_)
        show wpAny _ _ (seqItems? (.ref a) >>= _) _ _ s
        refine wpAny_bind (wpAny_seqItems hg hd ?_)
        refine wpAny_bind ?_
        show wpAny _ _ (forIn vs _ _) _ _ s
        rw [← Array.forIn_toList]
        have each := hashBys_nk ks vs.toList n A s hk
        refine wpAny_forIn_list _ (fun rest r s' => r.1 = none ∧ s' = s ∧ ∀ v ∈ rest, ∀ (Q : Bool → Shared → Prop), (∀ b, Q b s) → wpAny (model P w) A (hashByValue n v) Q E s) _ ?_ ?_ _ _ ⟨rfl, rfl, each⟩
        · rintro v rest r s' ⟨hr, rfl, hall⟩
          refine wpAny_bind (hall v List.mem_cons_self _ fun b => ?_)
          cases b
          · simp only [Bool.not_false, if_true]
            exact wpAny_pure (wpAny_pure (h _))
          · simp only [Bool.not_true, Bool.false_eq_true, if_false]
            exact wpAny_pure ⟨rfl, rfl, fun u hu' => hall u (List.mem_cons_of_mem _ hu')⟩
        · rintro ⟨r1, r2⟩ s' ⟨hr, rfl, _⟩
          simp only at hr
          subst hr
          exact wpAny_pure (h _)
theorem hashBys_nk : ∀ (ks : List NestedKey) (vs : List Value) (n : Nat) (A : Around) (s : Shared), NestedAll s.heap ks vs → ∀ v ∈ vs, ∀ (Q : Bool → Shared → Prop), (∀ b, Q b s) → wpAny (model P w) A (hashByValue n v) Q E s
  | [], _, n, A, s, x, v, hv => by
    cases x
    cases hv
  | k :: ks, _, n, A, s, x, v, hv => by
    cases x with
    | cons x1 x2 =>
      rcases List.mem_cons.mp hv with e | hv
      · rw [e]
        exact fun Q h => hashBy_nk k _ n A s Q x1 h
      · exact hashBys_nk ks _ n A s x2 v hv
end
mutual
theorem ofCls_nk : ∀ (k : NestedKey) (v : Value) (n : Nat) (A : Around) (s : Shared) (Q : Bool → Shared → Prop), NestedIs s.heap k v → k.depth ≤ n → Q false s → wpAny (model P w) A (ofAClassStatement n v) Q E s
  | .none, _, n, A, s, Q, x, _, h => by
    cases x
    cases n <;> exact wpAny_pure h
  | .num i, _, n, A, s, Q, x, _, h => by
    cases x <;> cases n <;> exact wpAny_pure h
  | .text y, _, n, A, s, Q, x, _, h => by
    cases x
    cases n <;> exact wpAny_pure h
  | .tup ks, _, n, A, s, Q, x, hn, h => by
    cases x with
    | @tup a o vs m _ hg hc hd hk =>
      simp only [NestedKey.depth] at hn
      cases n with
      | zero => omega
      | succ n =>
        have hT : s.TypeIs (.ref a) "tuple" := ⟨o, hg, hc⟩
        unfold ofAClassStatement
        refine wpAny_bind (wpAny_typeOf hT ?_)
        dsimp only
        have e : (("tuple" : String) == "tuple") = true := by decide
        simp only [e, if_true, Bool.not_true, Bool.false_eq_true, if_false]
        try refine wpAny_bind (wpAny_pure ?_)
        try simp only [Bool.not_true, Bool.false_eq_true, if_false]
        show wpAny _ _ (seqItems? (.ref a) >>= _) _ _ s
        refine wpAny_bind (wpAny_seqItems hg hd ?_)
        dsimp only
        refine wpAny_bind ?_
        show wpAny _ _ (forIn vs _ _) _ _ s
        rw [← Array.forIn_toList]
        have each := ofClss_nk ks vs.toList n A s hk (by omega)
        refine wpAny_forIn_list _ (fun rest r s' => r.1 = none ∧ s' = s ∧ ∀ v ∈ rest, ∀ (Q : Bool → Shared → Prop), Q false s → wpAny (model P w) A (ofAClassStatement n v) Q E s) _ ?_ ?_ _ _ ⟨rfl, rfl, each⟩
        · rintro v rest r s' ⟨hr, rfl, hall⟩
          refine wpAny_bind (hall v List.mem_cons_self _ ?_)
          simp only [Bool.false_eq_true, if_false]
          exact wpAny_pure ⟨rfl, rfl, fun u hu' => hall u (List.mem_cons_of_mem _ hu')⟩
        · rintro ⟨r1, r2⟩ s' ⟨hr, rfl, _⟩
          simp only at hr
          subst hr
          exact wpAny_pure h
theorem ofClss_nk : ∀ (ks : List NestedKey) (vs : List Value) (n : Nat) (A : Around) (s : Shared), NestedAll s.heap ks vs → NestedKey.depthAll ks ≤ n → ∀ v ∈ vs, ∀ (Q : Bool → Shared → Prop), Q false s → wpAny (model P w) A (ofAClassStatement n v) Q E s
  | [], _, n, A, s, x, _, v, hv => by
    cases x
    cases hv
  | k :: ks, _, n, A, s, x, hn, v, hv => by
    cases x with
    | cons x1 x2 =>
      simp only [NestedKey.depthAll] at hn
      rcases List.mem_cons.mp hv with e | hv
      · rw [e]
        exact fun Q h => ofCls_nk k _ n A s Q x1 (by omega) h
      · exact ofClss_nk ks _ n A s x2 (by omega) v hv
end
/-- a search among such tuples shows nothing -/
theorem seen_nk {d : PyData} {b : Addr} {Q : Bool → Shared → Prop} (hk : NIs s.heap d b) {ys : List Value} (hy : ∀ y ∈ ys, ∃ d' c, y = Value.ref c ∧ NIs s.heap d' c) (h : Q false s) :
    wpAny (model P w) A (searchCouldBeSeen (.ref b) ys) Q E s := by
  unfold searchCouldBeSeen
  refine wpAny_bind ?_
  refine wpAny_forIn_list _ (fun rest r s' => r.1 = none ∧ s' = s ∧ ∀ y ∈ rest, ∃ d' c, y = Value.ref c ∧ NIs s.heap d' c) _ ?_ ?_ _ _ ⟨rfl, rfl, hy⟩
  · rintro v rest r s' ⟨hr, rfl, hall⟩
    obtain ⟨d', c, rfl, hc⟩ := hall v List.mem_cons_self
    have rest' : ∀ y ∈ rest, ∃ d' c, y = Value.ref c ∧ NIs s'.heap d' c := fun u hu' => hall u (List.mem_cons_of_mem _ hu')
    dsimp only
    by_cases hv : (b == c || (carriedByValue (.ref b) && carriedByValue (.ref c))) = true
    · refine wp_if_pos hv ?_
      exact wpAny_pure ⟨rfl, rfl, rest'⟩
    · refine wp_if_neg hv ?_
      refine wpAny_bind ((nestedKind P w).quiet hk ?_)
      simp only [Bool.not_true, Bool.false_eq_true, if_false]
      refine wpAny_bind ((nestedKind P w).quiet hc ?_)
      simp only [Bool.not_true, Bool.false_eq_true, if_false]
      refine wpAny_bind (ofCls_nk _ _ 8 _ _ _ hk.1 hk.2 ?_)
      simp only [Bool.false_eq_true, if_false]
      refine wpAny_bind (ofCls_nk _ _ 8 _ _ _ hc.1 hc.2 ?_)
      simp only [Bool.false_eq_true, if_false]
      exact wpAny_pure ⟨rfl, rfl, rest'⟩
  · rintro ⟨r1, r2⟩ s' ⟨hr, rfl, _⟩
    simp only at hr
    subst hr
    exact wpAny_pure h
end
/-! ### the set -/
abbrev hsh (w : World) (d : PyData) : Int := (nk d).hash w
def rowsN (w : World) (L : List (Addr × PyData)) : List (Int × Value) := L.map fun p => (hsh w p.2, Value.ref p.1)
abbrev keysN (L : List (Addr × PyData)) : List NestedKey := L.map fun p => nk p.2
structure SetN (w : World) (h : Heap) (a : Addr) (L : List (Addr × PyData)) (es : Array (Int × Value)) (ep : Nat) (t : SetTable) : Prop where
  ob : ∃ o, h.get? a = some o ∧ o.ExactSet ∧ o.data = .set es ep t
  rows : es.toList = rowsN w L
  tab : Tb t (L.map fun p => hsh w p.2)
  nd : (keysN L).Nodup
  tup : ∀ p ∈ L, NIs h p.2 p.1
  led : w.params.followText "set-order" = true ∨ t.led = true
  room : L.length * 5 < t.mask * 3
  few : L.length < 300
section
variable {P : Program} {w : World} {A : Around} {E : Value → Shared → Prop} {s : Shared} {a : Addr} {L : List (Addr × PyData)} {es : Array (Int × Value)} {ep : Nat} {t : SetTable}
theorem rowsN_len {L : List (Addr × PyData)} {es : Array (Int × Value)} (h : es.toList = rowsN w L) : es.size = L.length := by
  have h := congrArg List.length h
  unfold rowsN at h
  rw [Array.length_toList, List.length_map] at h
  exact h
theorem Tb.len {t : SetTable} {hs : List Int} (T : Tb t hs) : t.place.size = hs.length := T.sz
theorem fits_of {t : SetTable} {hs : List Int} {n : Nat} (T : Tb t hs) (e : hs.length = n) (h : n ≤ t.mask) : t.fits n = true := by
  have h1 := T.len
  unfold SetTable.fits SetTable.fill
  rw [T.dm, Bool.and_eq_true, beq_iff_eq, decide_eq_true_eq]
  show t.place.size = n ∧ t.place.size + 0 ≤ t.mask
  omega
theorem SetN.fits (R : SetN w s.heap a L es ep t) : t.fits es.size = true := by
  have h2 := rowsN_len R.rows
  have h3 := R.room
  exact fits_of R.tab (by rw [List.length_map, h2]) (by omega)
theorem SetN.entry (R : SetN w s.heap a L es ep t) {i : Nat} {p : Addr × PyData} (h : L[i]? = some p) : es[i]? = some (hsh w p.2, Value.ref p.1) := by
  rw [← Array.getElem?_toList, R.rows]
  unfold rowsN
  rw [List.getElem?_map, h]
  rfl
theorem SetN.gw (R : SetN w s.heap a L es ep t) : ¬ t.gaveWay = true := by
  unfold SetTable.gaveWay
  rw [odd4 R.tab.mok]
  decide
theorem nth_dummy (m : Nat) : ∀ (n : Nat) (p : SetTable.Probe), p.dummy = none → (nth m p n).dummy = none
  | 0, _, h => h
  | n + 1, p, h => nth_dummy m n (adv m p) (by unfold adv; split <;> exact h)
/-- the search, from the c-th step of the way on -/
theorem searchN_from (R : SetN w s.heap a L es ep t) {x : Addr} {d : PyData} (hx : NIs s.heap d x) (hu : A.units + 8 < cLine) {K : Nat} (hKf : K < 10 * SetTable.turns t.mask)
    (hK : way t.mask (hsh w d) K ∉ t.place.toList) (hKb : ∀ c, c < K → way t.mask (hsh w d) c ∈ t.place.toList) {Q : SetFound → Shared → Prop}
    (hin : nk d ∈ keysN L → Q (.there none) s) (hout : nk d ∉ keysN L → Q (.free (way t.mask (hsh w d) K) false) s) :
    ∀ (f c : Nat) (stand : Option SetTable.Probe), stand.getD (t.probeStart (hsh w d)) = nth t.mask (runAt t.mask (SetTable.bits (hsh w d) % (t.mask + 1)) (SetTable.bits (hsh w d))) c → c ≤ K → K - c < f →
      (∀ (i : Nat) p, L[i]? = some p → nk p.2 = nk d → ∃ c', c ≤ c' ∧ c' < K ∧ t.place.toList[i]? = some (way t.mask (hsh w d) c')) →
      wpAny (model P w) A (setSearchFrom a (.ref x) (hsh w d) true f stand) Q E s
  | 0, c, stand, _, _, hf, _ => absurd hf (Nat.not_lt_zero _)
  | f + 1, c, stand, hst, hc, hf, hre => by
    obtain ⟨o, ho, hex, hd⟩ := R.ob
    rw [setSearchFrom_succ]
    refine wpAny_bind (wpAny_setState_of ho hd R.fits ?_)
    dsimp only
    refine wp_if_neg R.gw ?_
    try refine wpAny_bind (wpAny_pure ?_)
    have sh : ∀ q, nth t.mask (nth t.mask (runAt t.mask (SetTable.bits (hsh w d) % (t.mask + 1)) (SetTable.bits (hsh w d))) c) q = nth t.mask (runAt t.mask (SetTable.bits (hsh w d) % (t.mask + 1)) (SetTable.bits (hsh w d))) (c + q) := fun q => (nth_add t.mask c _ q).symm
    have e1 : ∀ q, (nth t.mask (nth t.mask (runAt t.mask (SetTable.bits (hsh w d) % (t.mask + 1)) (SetTable.bits (hsh w d))) c) q).j = way t.mask (hsh w d) (c + q) := fun q => congrArg SetTable.Probe.j (sh q)
    have spec := go_spec t R.tab.ris R.tab.dm (fun i => (es[i]?.map (·.1)).getD 0) (hsh w d) (10 * SetTable.turns t.mask) (K - c) _ (nth_dummy t.mask c _ rfl) (by omega)
      (fun q hq => by rw [e1]; exact hKb (c + q) (by omega)) (by rw [e1, show c + (K - c) = K by omega]; exact hK)
    have hashAt : ∀ (i : Nat) p, L[i]? = some p → (fun i => (es[i]?.map (·.1)).getD 0) i = hsh w p.2 := fun i p hp => by
      show (es[i]?.map (·.1)).getD 0 = _
      rw [R.entry hp]
      rfl
    rcases spec with ⟨q, i, hq, hi, hh, hno, hpr⟩ | ⟨hno, hpr⟩
    · have hpr' : t.probe (fun i => (es[i]?.map (·.1)).getD 0) (hsh w d) (stand.getD (t.probeStart (hsh w d))) = some (.candidate (way t.mask (hsh w d) (c + q)) i (nth t.mask (runAt t.mask (SetTable.bits (hsh w d) % (t.mask + 1)) (SetTable.bits (hsh w d))) (c + (q + 1)))) := by
        rw [hst, ← e1, ← sh]
        exact hpr
      rw [hpr']
      dsimp only
      rw [e1] at hi
      have hil : i < L.length := by
        have h1 : i < t.place.toList.length := (List.getElem?_eq_some_iff.mp hi).1
        have h2 := R.tab.sz
        rw [List.length_map] at h2
        omega
      have hp : L[i]? = some L[i] := List.getElem?_eq_getElem hil
      generalize hpe : L[i] = p at hp
      have hmem : p ∈ L := List.mem_of_getElem? hp
      have hpt := R.tup p hmem
      have rest : wpAny (model P w) A (searchRest a (.ref x) (hsh w d) true f es t (way t.mask (hsh w d) (c + q)) i (nth t.mask (runAt t.mask (SetTable.bits (hsh w d) % (t.mask + 1)) (SetTable.bits (hsh w d))) (c + (q + 1)))) Q E s := by
        unfold searchRest
        rw [R.entry hp]
        dsimp only
        refine wpAny_bind (wpAny_holding ((nestedKind P w).eqBool hu hpt hx ?_))
        refine wpAny_bind (wpAny_setState_of ho hd R.fits ?_)
        dsimp only
        by_cases hkk : nk p.2 = nk d
        · refine wp_if_pos (by simp [hkk]) ?_
          exact wpAny_pure (hin (List.mem_map.mpr ⟨p, hmem, hkk⟩))
        · refine wp_if_neg (by simp [hkk]) ?_
          try refine wpAny_bind (wpAny_pure ?_)
          rw [sameMem]
          dsimp only
          have hsl : t.slot (way t.mask (hsh w d) (c + q)) = .live i := slot_live R.tab.ris hi
          simp only [if_true, hsl, R.entry hp]
          refine wpAny_bind (wpAny_isSame_ref_self (wpAny_bind (wpAny_pure ?_)))
          simp only [if_true]
          refine wp_if_neg (by simp [hkk]) ?_
          refine searchN_from R hx hu hKf hK hKb hin hout f (c + (q + 1)) _ rfl (by omega) (by omega) fun i0 p0 h0 hk0 => ?_
          obtain ⟨c', a1, a2, a3⟩ := hre i0 p0 h0 hk0
          refine ⟨c', ?_, a2, a3⟩
          rcases Nat.lt_trichotomy c' (c + q) with z | z | z
          · exfalso
            refine hno (c' - c) i0 (by omega) (by rw [e1, show c + (c' - c) = c' by omega]; exact a3) ?_
            exact (hashAt i0 p0 h0).trans (congrArg (NestedKey.hash w) hk0)
          · exfalso
            rw [z] at a3
            have s0 := slot_live R.tab.ris a3
            rw [hsl] at s0
            injection s0 with s0
            rw [← s0, hp] at h0
            cases h0
            exact hkk hk0
          · omega
      by_cases hl : t.led = true
      · refine wp_if_neg (by simp [hl]) ?_
        try refine wpAny_bind (wpAny_pure ?_)
        exact rest
      · refine wp_if_pos (by simp [hl]) ?_
        refine wpAny_bind (seen_nk hx (fun y hy => ?_) ?_)
        · obtain ⟨e, he, ee⟩ := List.mem_map.mp hy
          have he1 : e ∈ es ∧ e.1 = hsh w d := by simpa using he
          have he2 : e ∈ es.toList := by simpa using he1.1
          rw [R.rows] at he2
          obtain ⟨p2, hp2, e2⟩ := List.mem_map.mp he2
          exact ⟨p2.2, p2.1, by rw [← ee, ← e2], R.tup p2 hp2⟩
        · refine wp_if_neg (by decide) ?_
          try refine wpAny_bind (wpAny_pure ?_)
          exact rest
    · have hpr' : t.probe (fun i => (es[i]?.map (·.1)).getD 0) (hsh w d) (stand.getD (t.probeStart (hsh w d))) = some (.empty (way t.mask (hsh w d) K) none) := by
        have e2 : way t.mask (hsh w d) K = (nth t.mask (nth t.mask (runAt t.mask (SetTable.bits (hsh w d) % (t.mask + 1)) (SetTable.bits (hsh w d))) c) (K - c)).j := by
          rw [e1, show c + (K - c) = K by omega]
        rw [hst, e2]
        exact hpr
      rw [hpr']
      dsimp only
      refine wpAny_pure (hout fun hm => ?_)
      obtain ⟨p0, h0, hk0⟩ := List.mem_map.mp hm
      obtain ⟨i0, hi0, e0⟩ := List.getElem_of_mem h0
      have h00 : L[i0]? = some p0 := by rw [List.getElem?_eq_getElem hi0, e0]
      obtain ⟨c', a1, a2, a3⟩ := hre i0 p0 h00 hk0
      refine hno (c' - c) i0 (by omega) (by rw [e1, show c + (c' - c) = c' by omega]; exact a3) ?_
      exact (hashAt i0 p0 h00).trans (congrArg (NestedKey.hash w) hk0)
theorem searchN (R : SetN w s.heap a L es ep t) {x : Addr} {d : PyData} (hx : NIs s.heap d x) (hu : A.units + 8 < cLine) {Q : SetFound → Shared → Prop}
    (hin : nk d ∈ keysN L → Q (.there none) s)
    (hout : ∀ K, nk d ∉ keysN L → way t.mask (hsh w d) K ∉ t.place.toList → (∀ c, c < K → way t.mask (hsh w d) c ∈ t.place.toList) → Q (.free (way t.mask (hsh w d) K) false) s) :
    wpAny (model P w) A (setSearch a (.ref x) (hsh w d) true) Q E s := by
  have hroom := R.room
  have hbig := big4 R.tab.mok
  obtain ⟨K, hKf, hK, hKb⟩ := R.tab.free (by rw [List.length_map]; omega) (hsh w d)
  have hK2 : K < 100000 := by
    unfold SetTable.turns at hKf
    omega
  unfold setSearch
  refine searchN_from R hx hu hKf hK hKb hin (fun hn => hout K hn hK hKb) 100000 0 none rfl (Nat.zero_le _) (by omega) fun i p hp hk => ?_
  have hi : (L.map fun p => hsh w p.2)[i]? = some (hsh w d) := by
    rw [List.getElem?_map, hp]
    show some (NestedKey.hash w (nk p.2)) = _
    rw [hk]
  have hil : i < t.place.toList.length := by
    have h1 : i < L.length := (List.getElem?_eq_some_iff.mp hp).1
    have h2 := R.tab.sz
    rw [List.length_map] at h2
    omega
  have hj := List.getElem?_eq_getElem hil
  obtain ⟨c, hc, e⟩ := R.tab.ahead hK hi hj
  exact ⟨c, Nat.zero_le _, hc, by rw [hj, e]⟩
end
end DL

/-! DLsC: sets of nested tuples are filled. -/
namespace DL
open PySem PySem.Spec PyProof.Rows L2
section
variable {P : Program} {w : World} {A : Around} {E : Value → Shared → Prop} {s : Shared} {a : Addr} {L : List (Addr × PyData)} {es : Array (Int × Value)} {ep : Nat} {t : SetTable}
theorem nis_same {h h' : Heap} {d : PyData} {a b : Addr} {o : Obj} {es : Array (Int × Value)} {ep : Nat} {t : SetTable} (hb : NIs h d b) (ho : h.get? a = some o) (hd : o.data = .set es ep t) (hs : Heap.SameBut a h h') : NIs h' d b :=
  ⟨NestedIs.at (fun b ob vs n hb hc => (hs.2 b fun e => by
    subst e
    rw [ho] at hb
    cases hb
    rw [hd] at hc
    cases hc).trans hb) _ _ hb.1, hb.2⟩
theorem nis_keep {h h' : Heap} {d : PyData} {b : Addr} (x : NIs h d b) (hk : ∀ c o, h.get? c = some o → h'.get? c = some o) : NIs h' d b :=
  ⟨NestedIs.at (fun b ob _ _ hb _ => hk b ob hb) _ _ x.1, x.2⟩
theorem rowsN_put (L : List (Addr × PyData)) (p : Nat) (x : Addr × PyData) : rowsN w (L.take p ++ x :: L.drop p) = (rowsN w L).take p ++ (hsh w x.2, Value.ref x.1) :: (rowsN w L).drop p := by
  unfold rowsN
  rw [List.map_append, List.map_cons, List.map_take, List.map_drop]
theorem range_get {α : Type} (L : List α) : (List.range L.length).filterMap (fun i => L[i]?) = L := by
  have key : ∀ n, n ≤ L.length → (List.range n).filterMap (fun i => L[i]?) = L.take n := by
    intro n
    induction n with
    | zero => intro _; rfl
    | succ n ih =>
      intro hn
      have hlt : n < L.length := hn
      rw [List.range_succ, List.filterMap_append, ih (Nat.le_of_lt hlt), List.take_succ, List.filterMap_cons_some (List.getElem?_eq_getElem hlt), List.getElem?_eq_getElem hlt]
      rfl
  rw [key L.length (Nat.le_refl _), List.take_length]
theorem orderN (L : List (Addr × PyData)) (es : Array (Int × Value)) (order : Array Nat) (hr : es.toList = rowsN w L) (hp : order.toList.Perm (List.range L.length)) :
    ∃ L2, (order.filterMap (es[·]?)).toList = rowsN w L2 ∧ L2.Perm L ∧ (L2.map fun p => hsh w p.2) = order.toList.map fun i => (es.map (·.1)).getD i 0 := by
  have ent : ∀ i : Nat, es[i]? = (L[i]?).map fun p => (hsh w p.2, Value.ref p.1) := fun i => by
    rw [← Array.getElem?_toList, hr]
    unfold rowsN
    rw [List.getElem?_map]
  refine ⟨order.toList.filterMap fun i => L[i]?, ?_, ?_, ?_⟩
  · rw [Array.toList_filterMap]
    unfold rowsN
    rw [List.map_filterMap]
    congr 1
    funext i
    exact ent i
  · have := hp.filterMap fun i => L[i]?
    rw [range_get] at this
    exact this
  · have hin : ∀ i ∈ order.toList, i < L.length := fun i hi => List.mem_range.mp (hp.mem_iff.mp hi)
    generalize order.toList = l at hin
    induction l with
    | nil => rfl
    | cons i l ih =>
      have hi := hin i List.mem_cons_self
      rw [List.filterMap_cons_some (List.getElem?_eq_getElem hi), List.map_cons, List.map_cons, ih fun j hj => hin j (List.mem_cons_of_mem _ hj)]
      congr 1
      rw [Array.getD_eq_getD_getElem?, Array.getElem?_map, ent, List.getElem?_eq_getElem hi]
      rfl
theorem relayN {o : Obj} (ho : s.heap.get? a = some o) (hex : o.ExactSet) (hd : o.data = .set es ep t) (hrows : es.toList = rowsN w L) (hfits : t.fits es.size = true)
    (nd : (keysN L).Nodup) (tup : ∀ p ∈ L, NIs s.heap p.2 p.1) (ld : w.params.followText "set-order" = true ∨ t.led = true) (few : L.length < 300) {wanted M : Nat}
    (hw : SetTable.sizeAbove wanted - 1 = M) (hM : Mk4 M) (hw2 : SetTable.sizeAbove wanted ≤ 512) (hn : L.length * 5 < M * 3) {Q : Unit → Shared → Prop}
    (hQ : ∀ h' L' es' ep' t', Heap.SameBut a s.heap h' → SetN w h' a L' es' ep' t' → L'.Perm L → Q () { s with heap := h' }) : wpAny (model P w) A (setRelay a wanted) Q E s := by
  have hsl := rowsN_len hrows
  obtain ⟨t', order, e, hp, T, em, el⟩ := relaid4 t (hs := es.map (·.1)) (wanted := wanted) hw hM (by rw [Array.size_map, hsl]; omega)
  rw [Array.size_map, hsl] at hp
  obtain ⟨L2, r1, r2, r3⟩ := orderN L es order hrows hp
  rw [← r3] at T
  have hs2 : (order.filterMap (es[·]?)).size = es.size := by rw [rowsN_len r1, r2.length_eq, hsl]
  rw [setRelay_eq]
  refine wpAny_bind (wpAny_setState_of ho hd hfits ?_)
  dsimp only
  refine wp_if_neg (by rw [sizeLine_eq]; omega) ?_
  try refine wpAny_bind (wpAny_pure ?_)
  rw [e]
  dsimp only
  refine wpAny_bind ?_
  refine wp_if_neg (by rw [hs2]; simp) ?_
  try refine wpAny_bind (wpAny_pure ?_)
  refine wpAny_pure ?_
  dsimp only
  refine wpAny_storeSet_of ho hd ?_ (by rw [hs2, hsl, sizeLine_eq]; omega)
  have sb : Heap.SameBut a s.heap (s.heap.update a (Obj.putSet (order.filterMap (es[·]?)) t')) := Heap.SameBut.update ..
  refine hQ _ L2 (order.filterMap (es[·]?)) (ep + 1) t' sb ?_ r2
  exact ⟨⟨_, store_at ho hd, ⟨hex.1, hex.2.1, hex.2.2⟩, rfl⟩, r1, T, (r2.map _).nodup_iff.mpr nd, fun p hpm => nis_same (tup p (r2.mem_iff.mp hpm)) ho hd sb, by rw [el]; exact ld, by rw [r2.length_eq, em]; exact hn, by rw [r2.length_eq]; exact few⟩
theorem put_flags (t : SetTable) (j : Nat) : (t.put j).2 = SetTable.below t.place j ∧ (t.put j).1.mask = t.mask ∧ (t.put j).1.led = t.led := ⟨rfl, rfl, rfl⟩
theorem Tb.unplain {t : SetTable} {hs : List Int} (T : Tb t hs) : Tb { t with plain := false } hs := ⟨T.ris, T.dm, T.sz, T.mok, T.bd, T.led⟩
/-- adding -/
theorem addN (R : SetN w s.heap a L es ep t) {x : Addr} {d : PyData} (hx : NIs s.heap d x) (hu : A.units + 8 < cLine) (hfew : L.length + 1 < 300) {Q : Bool → Shared → Prop}
    (hQ : ∀ b h' L' es' ep' t', Heap.SameBut a s.heap h' → SetN w h' a L' es' ep' t' → (nk d ∈ keysN L → L' = L) → (nk d ∉ keysN L → L'.Perm ((x, d) :: L)) → Q b { s with heap := h' }) :
    wpAny (model P w) A (setAddHashed a (.ref x) (hsh w d)) Q E s := by
  obtain ⟨o, ho, hex, hd⟩ := R.ob
  have hsl := rowsN_len R.rows
  have hroom := R.room
  unfold setAddHashed
  refine wpAny_holding ?_
  rw [show (100000 : Nat) = 99999 + 1 from rfl, setAddHashedIn_succ]
  refine wpAny_bind (wpAny_setState_of ho hd R.fits ?_)
  dsimp only
  refine wp_if_neg (by simp [byScan, Value.scannable]) ?_
  try refine wpAny_bind (wpAny_pure ?_)
  refine wpAny_bind (searchN R hx hu (fun hm => ?_) fun K hm hK hb => ?_)
  · dsimp only
    exact wpAny_pure (hQ false s.heap L es ep t (Heap.SameBut.refl a s.heap) R (fun _ => rfl) fun z => absurd hm z)
  · dsimp only
    refine wpAny_bind (wpAny_setState_of ho hd R.fits ?_)
    dsimp only
    obtain ⟨q2, q3, q9⟩ := R.tab.more hK hb
    obtain ⟨q1, q4, q5⟩ := put_flags t (way t.mask (hsh w d) K)
    generalize hpt : t.put (way t.mask (hsh w d) K) = pt at q1 q3 q4 q5 q9 ⊢
    obtain ⟨t1, p⟩ := pt
    dsimp only at q1 q3 q4 q5 q9 ⊢
    subst q1
    have hin : (SetTable.insertAt es (SetTable.below t.place (way t.mask (hsh w d) K)) (hsh w d, Value.ref x)).toList = rowsN w (L.take (SetTable.below t.place (way t.mask (hsh w d) K)) ++ (x, d) :: L.drop (SetTable.below t.place (way t.mask (hsh w d) K))) := by
      rw [SetTable.toList_insertAt, rowsN_put, R.rows]
    generalize hpp : SetTable.below t.place (way t.mask (hsh w d) K) = p at q2 q3 hin ⊢
    have pm := put_perm L p (x, d)
    have hlen : (L.take p ++ (x, d) :: L.drop p).length = L.length + 1 := pm.length_eq
    have hhs : (L.take p ++ (x, d) :: L.drop p).map (fun p => hsh w p.2) = (L.map fun p => hsh w p.2).take p ++ hsh w d :: (L.map fun p => hsh w p.2).drop p := by
      rw [List.map_append, List.map_cons, List.map_take, List.map_drop]
    rw [← hhs] at q3
    have nd1 : (keysN (L.take p ++ (x, d) :: L.drop p)).Nodup := (pm.map _).nodup_iff.mpr (List.nodup_cons.mpr ⟨hm, R.nd⟩)
    have hes : (SetTable.insertAt es p (hsh w d, Value.ref x)).size = L.length + 1 := by rw [rowsN_len hin, hlen]
    generalize SetTable.insertAt es p (hsh w d, Value.ref x) = es1 at hin hes ⊢
    generalize L.take p ++ (x, d) :: L.drop p = L1 at pm hlen q3 nd1 hin
    have fin : ∀ t1 : SetTable, Tb t1 (L1.map fun p => hsh w p.2) → t1.mask = t.mask → t1.led = t.led → t1.fill = (L.map fun p => hsh w p.2).length + 1 →
        wpAny (model P w) A (do
          storeSet a es1 t1
          if (!false && t1.tooFull) = true then setRelay a (SetTable.grown (es.size + 1))
          pure true) Q E s := fun t1 q3 q4 q5 q9 => by
      refine wpAny_bind (wpAny_storeSet_of ho hd ?_ (by rw [hes, sizeLine_eq]; omega))
      have sb : Heap.SameBut a s.heap (s.heap.update a (Obj.putSet es1 t1)) := Heap.SameBut.update ..
      have ho1 := store_at (es' := es1) (t' := t1) ho hd
      generalize s.heap.update a (Obj.putSet es1 t1) = h1 at sb ho1 ⊢
      have tup1 : ∀ p ∈ L1, NIs h1 p.2 p.1 := fun p hp => by
        rcases List.mem_cons.mp (pm.mem_iff.mp hp) with e | hp
        · rw [e]
          exact nis_same hx ho hd sb
        · exact nis_same (R.tup p hp) ho hd sb
      have ld1 : w.params.followText "set-order" = true ∨ t1.led = true := by rw [q5]; exact R.led
      rw [List.length_map] at q9
      by_cases hf : t1.tooFull = true
      · first
          | (refine wpAny_bind ?_; refine wp_if_pos (by simp [hf]) ?_)
          | (refine wp_if_pos (by simp [hf]) ?_; refine wpAny_bind ?_)
        have hfull : (L.length + 1) * 5 ≥ t1.mask * 3 := by
          have h := hf
          unfold SetTable.tooFull at h
          rw [decide_eq_true_eq, q9] at h
          exact h
        rw [hsl]
        have c3 : (t.mask = 7 ∧ L.length = 4) ∨ (t.mask = 31 ∧ L.length = 18) ∨ (t.mask = 127 ∧ L.length = 76) := by
          rw [q4] at hfull
          rcases R.tab.mok with e | e | e | e <;> rw [e] at hfull hroom <;> omega
        have go : ∀ M, SetTable.sizeAbove (SetTable.grown (L.length + 1)) = M + 1 → Mk4 M → M + 1 ≤ 512 → (L.length + 1) * 5 < M * 3 →
            wpAny (model P w) A (setRelay a (SetTable.grown (L.length + 1))) (fun _ s' => wpAny (model P w) A (pure true) Q E s') E { s with heap := h1 } := fun M h1' h2' h3' h4' => by
          refine relayN (s := { s with heap := h1 }) ho1 ⟨hex.1, hex.2.1, hex.2.2⟩ rfl hin (fits_of q3 (by rw [List.length_map, hlen, hes]) (by rw [hes, q4]; omega)) nd1 tup1 ld1 (by rw [hlen]; exact hfew) (M := M) (by rw [h1']; rfl) h2' (by rw [h1']; exact h3') (by rw [hlen]; exact h4') ?_
          intro h2 L2 es2 ep2 t2 sb2 R2 pm2
          exact wpAny_pure (hQ true h2 L2 es2 ep2 t2 (sb.trans sb2) R2 (fun z => absurd z hm) fun _ => pm2.trans pm)
        rcases c3 with ⟨_, e2⟩ | ⟨_, e2⟩ | ⟨_, e2⟩
        · exact go 31 (by rw [e2, size4_5]) (.inr (.inl rfl)) (by decide) (by omega)
        · exact go 127 (by rw [e2, size4_19]) (.inr (.inr (.inl rfl))) (by decide) (by omega)
        · exact go 511 (by rw [e2, size4_77]) (.inr (.inr (.inr rfl))) (by decide) (by omega)
      · first
          | refine wp_if_neg (by simp [hf]) ?_
          | (refine wpAny_bind ?_; refine wp_if_neg (by simp [hf]) ?_; refine wpAny_pure ?_)
        refine wpAny_pure (hQ true h1 L1 es1 (ep + 1) t1 sb ⟨⟨_, ho1, ⟨hex.1, hex.2.1, hex.2.2⟩, rfl⟩, hin, q3, nd1, tup1, ld1, ?_, by rw [hlen]; exact hfew⟩ (fun z => absurd z hm) fun _ => pm)
        have h := hf
        unfold SetTable.tooFull at h
        rw [decide_eq_true_eq, q9] at h
        rw [hlen]
        omega
    have go2 : ∀ b : Bool, wpAny (model P w) A (do
          storeSet a es1 (if b = true then t1 else { t1 with plain := false })
          if (!false && (if b = true then t1 else { t1 with plain := false }).tooFull) = true then setRelay a (SetTable.grown (es.size + 1))
          pure true) Q E s := fun b => by
      cases b
      · exact fin _ q3.unplain q4 q5 q9
      · exact fin _ q3 q4 q5 q9
    cases hpl : t1.plain with
    | true =>
      first
        | (refine wpAny_bind ?_; refine wp_if_pos rfl ?_; exact hashBy_nk _ _ 8 _ _ _ hx.1 fun b => go2 b)
        | (refine wp_if_pos rfl ?_; refine wpAny_bind ?_; exact hashBy_nk _ _ 8 _ _ _ hx.1 fun b => go2 b)
    | false =>
      first
        | (refine wpAny_bind ?_; refine wp_if_neg (by decide) ?_; exact wpAny_pure (go2 true))
        | (refine wp_if_neg (by decide) ?_; refine wpAny_bind ?_; exact wpAny_pure (go2 true))
end
end DL

/-! DLsD: set(xs) and sorted(set(xs)) of nested tuples. -/
namespace DL
open PySem PySem.Spec PyProof.Rows L2
/-- what the set has got from the first i items -/
structure GotN (ks : List (Addr × PyData)) (i : Nat) (L : List (Addr × PyData)) : Prop where
  sub : ∀ p ∈ L, p ∈ ks.take i
  all : ∀ p ∈ ks.take i, nk p.2 ∈ keysN L
  len : L.length ≤ i
theorem GotN.zero (ks : List (Addr × PyData)) : GotN ks 0 [] := ⟨fun p h => (by cases h), fun p h => (by simp at h), Nat.le_refl _⟩
theorem GotN.same {ks L : List (Addr × PyData)} {i : Nat} {x : Addr × PyData} (g : GotN ks i L) (h : ks[i]? = some x) (hm : nk x.2 ∈ keysN L) : GotN ks (i + 1) L := by
  refine ⟨fun p hp => ?_, fun p hp => ?_, Nat.le_succ_of_le g.len⟩
  · rw [take_next h]
    exact List.mem_append_left _ (g.sub p hp)
  · rw [take_next h] at hp
    rcases List.mem_append.mp hp with z | z
    · exact g.all p z
    · rw [List.mem_singleton.mp z]
      exact hm
theorem GotN.more {ks L L' : List (Addr × PyData)} {i : Nat} {x : Addr × PyData} (g : GotN ks i L) (h : ks[i]? = some x) (pm : L'.Perm (x :: L)) : GotN ks (i + 1) L' := by
  refine ⟨fun p hp => ?_, fun p hp => ?_, by rw [pm.length_eq]; exact Nat.succ_le_succ g.len⟩
  · rw [take_next h]
    rcases List.mem_cons.mp (pm.mem_iff.mp hp) with e | z
    · rw [e]
      exact List.mem_append_right _ (List.mem_singleton.mpr rfl)
    · exact List.mem_append_left _ (g.sub p z)
  · have e : (keysN L').Perm (nk x.2 :: keysN L) := pm.map _
    rw [e.mem_iff]
    rw [take_next h] at hp
    rcases List.mem_append.mp hp with z | z
    · exact List.mem_cons_of_mem _ (g.all p z)
    · rw [List.mem_singleton.mp z]
      exact List.mem_cons_self
section
variable {P : Program} {w : World} {A : Around} {E : Value → Shared → Prop} {s : Shared}
theorem SetN.keep {h h' : Heap} {a : Addr} {L : List (Addr × PyData)} {es : Array (Int × Value)} {ep : Nat} {t : SetTable} (R : SetN w h a L es ep t) (ha : ∀ o, h.get? a = some o → h'.get? a = some o) (ht : ∀ p ∈ L, NIs h' p.2 p.1) : SetN w h' a L es ep t := by
  obtain ⟨o, ho, r⟩ := R.ob
  exact ⟨⟨o, ha o ho, r⟩, R.rows, R.tab, R.nd, ht, R.led, R.room, R.few⟩
theorem setN_fresh {h : Heap} {a : Addr} (ho : h.get? a = some { cls := .type "set", dict := none, data := .set #[] 0 (.fresh 0 0 (!w.params.followText "set-order")) }) : SetN w h a [] #[] 0 (.fresh 0 0 (!w.params.followText "set-order")) where
  ob := ⟨_, ho, ⟨rfl, rfl, rfl⟩, rfl⟩
  rows := rfl
  tab := ⟨List.Pairwise.nil, rfl, rfl, .inl rfl, fun x hx => (by cases hx), fun i h j hi => (by simp at hi)⟩
  nd := List.nodup_nil
  tup := fun p hp => (by cases hp)
  led := by
    show _ ∨ (!w.params.followText "set-order") = true
    cases w.params.followText "set-order"
    · exact .inr rfl
    · exact .inl rfl
  room := by
    show 0 * 5 < 7 * 3
    decide
  few := by
    show 0 < 300
    decide
/-- set.update's loop -/
theorem updN {I : Addr} {fp wr : List Addr} {G : Array GenState → Array GenState → Prop} {n : Nat} {Pv : Nat → Value → Prop} {St : Nat → Shared → Prop} {R : Result → Shared → Prop}
    (W : WalksS P w A.in1 I fp wr G n Pv St) (S : Addr) (hSf : S ∉ fp) (ks : List (Addr × PyData)) (hn : n = ks.length) (hfew : ks.length < 300) (hval : ∀ i v, Pv i v → ∃ p, ks[i]? = some p ∧ v = .ref p.1)
    (h0 : Heap) (hk : ∀ p ∈ ks, NIs h0 p.2 p.1) (hS0 : h0.get? S = none) (hw0 : ∀ b ∈ wr, h0.get? b = none) (hu : A.in1.units + 8 < cLine) :
    ∀ (k i : Nat) (s : Shared), n - i = k → i ≤ n → St i s → (∀ b o, h0.get? b = some o → s.heap.get? b = some o) → (∃ L es ep t, SetN w s.heap S L es ep t ∧ GotN ks i L) →
      (∀ s' L es ep t, Moved (S :: wr) G s s' → SetN w s'.heap S L es ep t → GotN ks n L → (∀ b o, h0.get? b = some o → s'.heap.get? b = some o) → R (.ok (.ret .none)) s') →
      codeAny (model P w) A (.builtin "set.update.loop" ⟨[.ref S, .ref I], []⟩) R s := by
  have hSw : S ∉ wr := fun h => hSf (W.sub _ h)
  have hsub : ∀ b ∈ wr, b ∈ S :: wr := fun b hb => List.mem_cons_of_mem _ hb
  have keepM : ∀ {s s' : Shared}, Moved wr G s s' → (∀ b o, h0.get? b = some o → s.heap.get? b = some o) → ∀ b o, h0.get? b = some o → s'.heap.get? b = some o := fun hm hkp b o e =>
    hm.heap b o (fun hb => by rw [hw0 b hb] at e; cases e) (hkp b o e)
  intro k
  induction k with
  | zero =>
    intro i s hk' hi hst hkp ⟨L, es, ep, t, hS, g⟩ hR
    have hin : i = n := by omega
    subst hin
    refine codeAny_builtin F.entry_set_update_loop ?_
    rw [Around.under_plainId F.plain_set_update_loop _]
    show wpAny _ A.in1 (pyNext (.ref I) >>= _) _ _ s
    refine wpAny_bind (W.done s _ _ hst fun s' hm => ?_)
    show wpAny _ A.in1 (ret Value.none) _ _ s'
    have hkp' := keepM hm hkp
    have sub : ∀ p ∈ L, p ∈ ks := fun p hp => List.mem_of_mem_take (g.sub p hp)
    exact wpAny_pure (hR s' L es ep t (hm.mono hsub) (hS.keep (fun o e => hm.heap S o hSw e) fun p hp => nis_keep (hk p (sub p hp)) hkp') g hkp')
  | succ k ih =>
    intro i s hk' hi hst hkp ⟨L, es, ep, t, hS, g⟩ hR
    have hlt : i < n := by omega
    refine codeAny_builtin F.entry_set_update_loop ?_
    rw [Around.under_plainId F.plain_set_update_loop _]
    show wpAny _ A.in1 (pyNext (.ref I) >>= _) _ _ s
    refine wpAny_bind (W.item i s _ _ hlt hst fun v s' hP hst' hm => ?_)
    obtain ⟨p, hp, rfl⟩ := hval i v hP
    have hkp' := keepM hm hkp
    have sub : ∀ p ∈ L, p ∈ ks := fun p hp => List.mem_of_mem_take (g.sub p hp)
    have hS' : SetN w s'.heap S L es ep t := hS.keep (fun o e => hm.heap S o hSw e) fun q hq => nis_keep (hk q (sub q hq)) hkp'
    have hx : NIs s'.heap p.2 p.1 := nis_keep (hk p (List.mem_of_getElem? hp)) hkp'
    show wpAny _ A.in1 (holding [Value.ref p.1] (setAdd S (.ref p.1)) >>= _) _ _ s'
    refine wpAny_bind (wpAny_holding ?_)
    unfold setAdd
    refine wpAny_holding ?_
    refine wpAny_bind ((nestedKind P w).pyHash hu hx ?_)
    refine addN (s := { s' with toks := s'.toks + (nk p.2).draws }) hS' hx hu (by have := g.len; omega) fun b h' L' es' ep' t' hsb hS2 c1 c2 => ?_
    have g' : GotN ks (i + 1) L' := by
      rcases Classical.em (nk p.2 ∈ keysN L) with c | c
      · rw [c1 c]
        exact g.same hp c
      · exact g.more hp (c2 c)
    have hkp2 : ∀ b o, h0.get? b = some o → h'.get? b = some o := fun b o e => (hsb.2 b (fun z => by rw [z, hS0] at e; cases e)).trans (hkp' b o e)
    refine wpAny_pure ⟨plainId_quiet F.plain_set_update_loop _, ih (i + 1) _ (by omega) hlt (W.frame _ s' _ _ hst' (Nat.le_add_right _ _) fun b hb o e => ?_) hkp2 ⟨L', es', ep', t', hS2, g'⟩ fun s'' L2 es2 ep2 t2 hm'' hS'' g'' hkp'' => ?_⟩
    · rw [hsb.2 b (fun h : b = S => hSf (by rw [← h]; exact hb))]
      exact e
    · refine hR s'' L2 es2 ep2 t2 (Moved.trans W.gtrans ((hm.mono hsub).then_heap (Nat.le_add_right _ _) fun b o hb e => ?_) hm'') hS'' g'' hkp''
      rw [hsb.2 b (fun h : b = S => hb (by rw [h]; exact List.mem_cons_self))]
      exact e

/-- set(xs), xs a list -/
theorem call_setN_list {l : Addr} {items : Array Value} (ks : List (Addr × PyData)) {Q : Value → Shared → Prop} (hh : A.handled = none) (hl : s.heap.IsList l items) (hit : items.toList = ks.map fun p => Value.ref p.1)
    (hk : ∀ p ∈ ks, NIs s.heap p.2 p.1) (hfew : ks.length < 300) (hu : A.units + 11 < cLine)
    (h : ∀ (h' : Heap) (tk : Nat) L es ep t, SetN w h' s.heap.objs.size L es ep t → GotN ks ks.length L → (∀ b o, s.heap.get? b = some o → h'.get? b = some o) → Q (.ref s.heap.objs.size) { s with heap := h', toks := tk }) :
    wpAny (model P w) A (call (.type "set") [.ref l]) Q E s := by
  have hisz : items.size = ks.length := by
    have q := congrArg List.length hit
    rw [Array.length_toList, List.length_map] at q
    exact q
  obtain ⟨c, tl, hmro⟩ := F.called_set.mro
  have hmade := F.called_set.made
  have hsub := F.called_set.sub
  refine wpAny_call (codeAny_of_tree ?_)
  show wpAny _ _ (callAny (.type "set") _) _ _ _
  refine wpAny_pure ⟨Code.quiet_builtin _ (by decide +kernel), codeAny_builtin F.entry_type_call ?_⟩
  rw [Around.under_plain (weight_type_call_type "set" [.ref l] []) rfl]
  have h1 := F.called_set.notType
  have h2 := F.called_set.canCreate
  have hct := F.typeCall_set_1 (.ref l)
  repeat (any_goals (first | assumption | wp_step))
  refine codeAny_mono (code_set_led1 (.ref l) (E := E) (Q₁ := fun obj s₁ => obj = .ref s.heap.objs.size ∧ s₁ = { s with heap := s.heap.push { cls := .type "set", dict := none, data := .set #[] 0 (.fresh 0 0 (!w.params.followText "set-order")) } }) ⟨rfl, rfl⟩) fun r s₁ hr => ?_
  cases r with
  | error e => exact hr
  | ok fl =>
    cases fl with
    | ret obj =>
      obtain ⟨rfl, rfl⟩ := hr
      have hS : (s.heap.push { cls := .type "set", dict := none, data := .set #[] 0 (.fresh 0 0 (!w.params.followText "set-order")) }).get? s.heap.objs.size = some { cls := .type "set", dict := none, data := .set #[] 0 (.fresh 0 0 (!w.params.followText "set-order")) } := Heap.get?_push_size _ rfl
      have hT : Shared.TypeIs { s with heap := s.heap.push { cls := .type "set", dict := none, data := .set #[] 0 (.fresh 0 0 (!w.params.followText "set-order")) } } (.ref s.heap.objs.size) "set" := ⟨_, hS, rfl⟩
      have hli := F.called_set.init.lookup
      have hbi := F.called_set.init.bind (.ref s.heap.objs.size)
      repeat (any_goals (first | assumption | wp_step))
      refine codeAny_mono (codeAny_call_builtin (R := wants (fun r s₂ => r = .none ∧ ∃ h' tk L es ep t, s₂ = { s with heap := h', toks := tk } ∧ SetN w h' s.heap.objs.size L es ep t ∧ GotN ks ks.length L ∧
          (∀ b o, s.heap.get? b = some o → h'.get? b = some o)) E) F.called_set.init.plain F.entry_set_init (check_set_init_1 hT ?_)) fun r₂ s₂ hr₂ => ?_
      · obtain ⟨ol, hol, hcl, nl, hdl⟩ := hl
        obtain ⟨ocls, odict, odata, oslots⟩ := ol
        simp only at hcl hdl
        subst hcl; subst hdl
        have hol' : (s.heap.push { cls := .type "set", dict := none, data := .set #[] 0 (.fresh 0 0 (!w.params.followText "set-order")) }).get? l = some { cls := .type "list", dict := odict, data := .seq items nl, slots := oslots } := Heap.get?_push_of_some _ hol
        have hsls := F.sub_list_set
        have hslf := F.sub_list_frozenset
        have hne : (Value.type "list" == Value.type "dict") = false := by decide
        have hl1 : (s.heap.push { cls := .type "set", dict := none, data := .set #[] 0 (.fresh 0 0 (!w.params.followText "set-order")) }).IsList l items := ⟨_, hol', rfl, nl, rfl⟩
        unfold Builtin.«set.__init__» noKeywords Builtin.Frozenset.updateFrom
        generalize hPI : pyIter = PI
        wp_walk
        subst hPI
        refine wpAny_pyIter_list hl1 ?_
        refine wpAny_bind (wpAny_runValue ?_)
        have hlS : l < s.heap.objs.size := Heap.lt_size hol
        have hh3 : A.in1.in1.in1.handled = none := by simp [hh]
        have hneI : l ≠ (s.heap.push { cls := .type "set", dict := none, data := .set #[] 0 (.fresh 0 0 (!w.params.followText "set-order")) }).objs.size := by
          rw [Heap.size_push]; exact Nat.ne_of_lt (Nat.lt_succ_of_lt hlS)
        have hSf : s.heap.objs.size ∉ [(s.heap.push { cls := .type "set", dict := none, data := .set #[] 0 (.fresh 0 0 (!w.params.followText "set-order")) }).objs.size, l] := by
          rw [Heap.size_push]; simp only [List.mem_cons, List.mem_singleton, List.not_mem_nil, or_false, not_or]
          exact ⟨Nat.ne_of_lt (Nat.lt_succ_self _), Nat.ne_of_gt hlS⟩
        have hval : ∀ (i : Nat) (v : Value), items[i]? = some v → ∃ p, ks[i]? = some p ∧ v = .ref p.1 := fun i v hv => by
          have q : items.toList[i]? = some v := by rw [Array.getElem?_toList]; exact hv
          rw [hit, List.getElem?_map] at q
          cases hq : ks[i]? with
          | none => rw [hq] at q; cases q
          | some p =>
            rw [hq] at q
            exact ⟨p, rfl, (Option.some.inj q).symm⟩
        have none_of : ∀ b, s.heap.objs.size ≤ b → s.heap.get? b = none := fun b hb => by
          cases q : s.heap.get? b with
          | none => rfl
          | some o => exact absurd (Nat.lt_of_lt_of_le (Heap.lt_size q) hb) (Nat.lt_irrefl _)
        refine updN ((Walks.list hh3 _ l hneI items).toS) s.heap.objs.size
          hSf ks hisz hfew hval s.heap hk (none_of _ (Nat.le_refl _)) (fun b hb => none_of b (by
            rw [List.mem_singleton.mp hb, Heap.size_push]
            exact Nat.le_succ _)) (by simp only [Around.in1_units]; omega) (items.size - 0) 0 _ (by omega) (Nat.zero_le _)
          ⟨⟨_, Heap.get?_push_size _ rfl, rfl, rfl⟩, (hl1.push _)⟩ (fun b o e => Heap.get?_push_of_some _ (Heap.get?_push_of_some _ e)) ?hS0 ?hR
        case hS0 => exact ⟨[], #[], 0, _, setN_fresh (Heap.get?_push_of_some _ hS), GotN.zero ks⟩
        case hR =>
          intro s' L es ep t hm hS' g' hkp
          obtain ⟨h', g2, d', tk', os'⟩ := s'
          have eg : g2 = s.gens := hm.gens
          have ed : d' = s.drawn := hm.drawn
          have eo : os' = s.os := hm.os
          subst eg; subst ed; subst eo
          show wpAny _ _ _ _ _ _
          refine wpAny_pure ?_
          show wpAny _ _ (ret Value.none) _ _ _
          rw [hisz] at g'
          exact wpAny_pure ⟨rfl, h', tk', L, es, ep, t, rfl, hS', g', hkp⟩
      · cases r₂ with
        | error e => exact hr₂
        | ok fl₂ =>
          cases fl₂ with
          | ret r =>
            obtain ⟨rfl, h', tk, L, es, ep, t, rfl, hS', g', hk'⟩ := hr₂
            repeat (any_goals (first | assumption | wp_step))
            exact h _ _ _ _ _ _ hS' g' hk'
          | _ => exact hr₂.elim
    | _ => exact hr.elim

/-- set(xs), xs a tuple -/
theorem call_setN_tuple {l : Addr} {items : Array Value} (ks : List (Addr × PyData)) {Q : Value → Shared → Prop} (hh : A.handled = none) (hl : s.heap.IsTuple l items) (hit : items.toList = ks.map fun p => Value.ref p.1)
    (hk : ∀ p ∈ ks, NIs s.heap p.2 p.1) (hfew : ks.length < 300) (hu : A.units + 11 < cLine)
    (h : ∀ (h' : Heap) (tk : Nat) L es ep t, SetN w h' s.heap.objs.size L es ep t → GotN ks ks.length L → (∀ b o, s.heap.get? b = some o → h'.get? b = some o) → Q (.ref s.heap.objs.size) { s with heap := h', toks := tk }) :
    wpAny (model P w) A (call (.type "set") [.ref l]) Q E s := by
  have hisz : items.size = ks.length := by
    have q := congrArg List.length hit
    rw [Array.length_toList, List.length_map] at q
    exact q
  obtain ⟨c, tl, hmro⟩ := F.called_set.mro
  have hmade := F.called_set.made
  have hsub := F.called_set.sub
  refine wpAny_call (codeAny_of_tree ?_)
  show wpAny _ _ (callAny (.type "set") _) _ _ _
  refine wpAny_pure ⟨Code.quiet_builtin _ (by decide +kernel), codeAny_builtin F.entry_type_call ?_⟩
  rw [Around.under_plain (weight_type_call_type "set" [.ref l] []) rfl]
  have h1 := F.called_set.notType
  have h2 := F.called_set.canCreate
  have hct := F.typeCall_set_1 (.ref l)
  repeat (any_goals (first | assumption | wp_step))
  refine codeAny_mono (code_set_led1 (.ref l) (E := E) (Q₁ := fun obj s₁ => obj = .ref s.heap.objs.size ∧ s₁ = { s with heap := s.heap.push { cls := .type "set", dict := none, data := .set #[] 0 (.fresh 0 0 (!w.params.followText "set-order")) } }) ⟨rfl, rfl⟩) fun r s₁ hr => ?_
  cases r with
  | error e => exact hr
  | ok fl =>
    cases fl with
    | ret obj =>
      obtain ⟨rfl, rfl⟩ := hr
      have hS : (s.heap.push { cls := .type "set", dict := none, data := .set #[] 0 (.fresh 0 0 (!w.params.followText "set-order")) }).get? s.heap.objs.size = some { cls := .type "set", dict := none, data := .set #[] 0 (.fresh 0 0 (!w.params.followText "set-order")) } := Heap.get?_push_size _ rfl
      have hT : Shared.TypeIs { s with heap := s.heap.push { cls := .type "set", dict := none, data := .set #[] 0 (.fresh 0 0 (!w.params.followText "set-order")) } } (.ref s.heap.objs.size) "set" := ⟨_, hS, rfl⟩
      have hli := F.called_set.init.lookup
      have hbi := F.called_set.init.bind (.ref s.heap.objs.size)
      repeat (any_goals (first | assumption | wp_step))
      refine codeAny_mono (codeAny_call_builtin (R := wants (fun r s₂ => r = .none ∧ ∃ h' tk L es ep t, s₂ = { s with heap := h', toks := tk } ∧ SetN w h' s.heap.objs.size L es ep t ∧ GotN ks ks.length L ∧
          (∀ b o, s.heap.get? b = some o → h'.get? b = some o)) E) F.called_set.init.plain F.entry_set_init (check_set_init_1 hT ?_)) fun r₂ s₂ hr₂ => ?_
      · obtain ⟨ol, hol, hcl, nl, hdl⟩ := hl
        obtain ⟨ocls, odict, odata, oslots⟩ := ol
        simp only at hcl hdl
        subst hcl; subst hdl
        have hol' : (s.heap.push { cls := .type "set", dict := none, data := .set #[] 0 (.fresh 0 0 (!w.params.followText "set-order")) }).get? l = some { cls := .type "tuple", dict := odict, data := .seq items nl, slots := oslots } := Heap.get?_push_of_some _ hol
        have hsls := F.sub_tuple_set
        have hslf := F.sub_tuple_frozenset
        have hne : (Value.type "tuple" == Value.type "dict") = false := by decide
        have hl1 : (s.heap.push { cls := .type "set", dict := none, data := .set #[] 0 (.fresh 0 0 (!w.params.followText "set-order")) }).IsTuple l items := ⟨_, hol', rfl, nl, rfl⟩
        unfold Builtin.«set.__init__» noKeywords Builtin.Frozenset.updateFrom
        generalize hPI : pyIter = PI
        wp_walk
        subst hPI
        refine wpAny_pyIter_tuple hl1 ?_
        refine wpAny_bind (wpAny_runValue ?_)
        have hlS : l < s.heap.objs.size := Heap.lt_size hol
        have hh3 : A.in1.in1.in1.handled = none := by simp [hh]
        have hneI : l ≠ (s.heap.push { cls := .type "set", dict := none, data := .set #[] 0 (.fresh 0 0 (!w.params.followText "set-order")) }).objs.size := by
          rw [Heap.size_push]; exact Nat.ne_of_lt (Nat.lt_succ_of_lt hlS)
        have hSf : s.heap.objs.size ∉ [(s.heap.push { cls := .type "set", dict := none, data := .set #[] 0 (.fresh 0 0 (!w.params.followText "set-order")) }).objs.size, l] := by
          rw [Heap.size_push]; simp only [List.mem_cons, List.mem_singleton, List.not_mem_nil, or_false, not_or]
          exact ⟨Nat.ne_of_lt (Nat.lt_succ_self _), Nat.ne_of_gt hlS⟩
        have hval : ∀ (i : Nat) (v : Value), items[i]? = some v → ∃ p, ks[i]? = some p ∧ v = .ref p.1 := fun i v hv => by
          have q : items.toList[i]? = some v := by rw [Array.getElem?_toList]; exact hv
          rw [hit, List.getElem?_map] at q
          cases hq : ks[i]? with
          | none => rw [hq] at q; cases q
          | some p =>
            rw [hq] at q
            exact ⟨p, rfl, (Option.some.inj q).symm⟩
        have none_of : ∀ b, s.heap.objs.size ≤ b → s.heap.get? b = none := fun b hb => by
          cases q : s.heap.get? b with
          | none => rfl
          | some o => exact absurd (Nat.lt_of_lt_of_le (Heap.lt_size q) hb) (Nat.lt_irrefl _)
        refine updN ((Walks.tuple hh3 _ l hneI items).toS) s.heap.objs.size
          hSf ks hisz hfew hval s.heap hk (none_of _ (Nat.le_refl _)) (fun b hb => none_of b (by
            rw [List.mem_singleton.mp hb, Heap.size_push]
            exact Nat.le_succ _)) (by simp only [Around.in1_units]; omega) (items.size - 0) 0 _ (by omega) (Nat.zero_le _)
          ⟨⟨_, Heap.get?_push_size _ rfl, rfl, rfl⟩, (hl1.push _)⟩ (fun b o e => Heap.get?_push_of_some _ (Heap.get?_push_of_some _ e)) ?hS0 ?hR
        case hS0 => exact ⟨[], #[], 0, _, setN_fresh (Heap.get?_push_of_some _ hS), GotN.zero ks⟩
        case hR =>
          intro s' L es ep t hm hS' g' hkp
          obtain ⟨h', g2, d', tk', os'⟩ := s'
          have eg : g2 = s.gens := hm.gens
          have ed : d' = s.drawn := hm.drawn
          have eo : os' = s.os := hm.os
          subst eg; subst ed; subst eo
          show wpAny _ _ _ _ _ _
          refine wpAny_pure ?_
          show wpAny _ _ (ret Value.none) _ _ _
          rw [hisz] at g'
          exact wpAny_pure ⟨rfl, h', tk', L, es, ep, t, rfl, hS', g', hkp⟩
      · cases r₂ with
        | error e => exact hr₂
        | ok fl₂ =>
          cases fl₂ with
          | ret r =>
            obtain ⟨rfl, h', tk, L, es, ep, t, rfl, hS', g', hk'⟩ := hr₂
            repeat (any_goals (first | assumption | wp_step))
            exact h _ _ _ _ _ _ hS' g' hk'
          | _ => exact hr₂.elim
    | _ => exact hr.elim

mutual
theorem reads_lt {h : Heap} : ∀ {v : Value} {d : PyData} {as : List Addr}, Reads h v d as → ∀ a ∈ as, a < h.objs.size
  | _, _, _, .none, a, m => by cases m
  | _, _, _, .bool _, a, m => by cases m
  | _, _, _, .int _ _, a, m => by cases m
  | _, _, _, .str _ _, a, m => by cases m
  | _, _, _, .list e _ _ r, a, m => by
    rcases List.mem_cons.mp m with z | z
    · rw [z]
      exact Heap.lt_size e
    · exact readsAll_lt r a z
  | _, _, _, .tuple _ _ _ r, a, m => readsAll_lt r a m
  | _, _, _, .dict e _ _ r1 r2, a, m => by
    rcases List.mem_append.mp m with z | z
    · rcases List.mem_cons.mp z with z | z
      · rw [z]
        exact Heap.lt_size e
      · exact readsAll_lt r1 a z
    · exact readsAll_lt r2 a z
theorem readsAll_lt {h : Heap} : ∀ {vs : List Value} {ds : List PyData} {as : List Addr}, ReadsAll h vs ds as → ∀ a ∈ as, a < h.objs.size
  | _, _, _, .nil, a, m => by cases m
  | _, _, _, .cons r1 r2, a, m => by
    rcases List.mem_append.mp m with z | z
    · exact reads_lt r1 a z
    · exact readsAll_lt r2 a z
end
/-- the values are the members, in some order -/
theorem orderedN {L : List (Addr × PyData)} : ∀ vs : List Value, (∀ v ∈ vs, ∃ q ∈ L, v = Value.ref q.1) → ∃ L1 : List (Addr × PyData), vs = L1.map (fun q => Value.ref q.1) ∧ ∀ q ∈ L1, q ∈ L
  | [], _ => ⟨[], rfl, fun q hq => (by cases hq)⟩
  | v :: vs, hv => by
    obtain ⟨q, hq, e⟩ := hv v List.mem_cons_self
    obtain ⟨L1, e1, hs⟩ := orderedN vs fun u hu => hv u (List.mem_cons_of_mem _ hu)
    refine ⟨q :: L1, by rw [List.map_cons, e, e1], fun r hr => ?_⟩
    rcases List.mem_cons.mp hr with z | z
    · rw [z]
      exact hq
    · exact hs r z
theorem eachRefs : ∀ L : List (Addr × PyData), PySem.W.EachIs (fun v (b : Addr × PyData) => v = Value.ref b.1) (L.map fun q => Value.ref q.1) L
  | [] => .nil
  | q :: L => .cons rfl (eachRefs L)
theorem refsEach : ∀ {vs : List Value} {L : List (Addr × PyData)}, PySem.W.EachIs (fun v (b : Addr × PyData) => v = Value.ref b.1) vs L → vs = L.map fun q => Value.ref q.1
  | _, _, .nil => rfl
  | _, _, .cons e r => by rw [e, refsEach r]; rfl
/-- sorted(set) -/
theorem sortedN {a : Addr} {L : List (Addr × PyData)} {es : Array (Int × Value)} {ep : Nat} {t : SetTable} {Q : Value → Shared → Prop} (R : SetN w s.heap a L es ep t) (hh : A.handled = none)
    (hr : ∀ p ∈ L, ∃ as, Reads s.heap (.ref p.1) p.2 as) (hal : PySem.W.AllAlike (L.map (·.2))) (hne : ∀ p ∈ L, ∃ x r, p.2 = .tuple (x :: r)) (hu : ∀ p ∈ L, A.units + 3 + p.2.depth < cLine)
    (one : ∀ q ∈ L, ∀ r ∈ L, q.1 = r.1 → q = r)
    (hQ : ∀ s' p (out : Array Value) (c : Nat) (L' : List (Addr × PyData)), (∀ b o, s.heap.get? b = some o → s'.heap.get? b = some o) → s'.gens = s.gens → s'.os = s.os → s.heap.objs.size ≤ p →
      s'.heap.get? p = some (seqObj "list" out c) → out.toList = L'.map (fun q => Value.ref q.1) → L'.Perm L → L'.Pairwise (fun q r => PySem.W.dataLe false (fun b : Addr × PyData => b.2) q r = true) → Q (.ref p) s') :
    wpAny (model P w) A (call (.builtin "sorted") [.ref a]) Q E s := by
  obtain ⟨o, ho, hex, hd⟩ := R.ob
  have hsz := rowsN_len R.rows
  have hfew := R.few
  refine Calls.call_function_entry kind_sorted plain_sorted entry_sorted (args_sorted1 _) ?_
  unfold Builtin.«sorted»
  refine wpAny_bind (m := checkCount "sorted" 1 1 _) (wpAny_pure ?_)
  refine wpAny_bind (collect_set (A := A.in1) hh ⟨o, ho, hex.1, hd⟩ R.fits (by unfold scanBound; omega) R.tab.ris R.led fun s1 vs k1 hz g1 o1 pm => ?_)
  have hes : es.toList.map (·.2) = L.map fun q => Value.ref q.1 := by
    rw [R.rows]
    unfold rowsN
    rw [List.map_map]
    rfl
  rw [hes] at pm
  obtain ⟨L1, rfl, sub1⟩ := orderedN (L := L) vs fun v hv => by
    obtain ⟨q, hq, e⟩ := List.mem_map.mp (pm.mem_iff.mp hv)
    exact ⟨q, hq, e.symm⟩
  have nL : L.Nodup := nodup_of_map R.nd
  have nref : (L.map fun q => Value.ref q.1).Nodup := by
    refine List.pairwise_map.mpr (List.Pairwise.imp_of_mem (fun {q r} hq hr hne e => ?_) nL)
    injection e with e
    exact hne (one q hq r hr e)
  have pL : L1.Perm L := by
    refine (List.perm_ext_iff_of_nodup (nodup_of_map (pm.nodup_iff.mpr nref)) nL).mpr fun q => ⟨sub1 q, fun hq => ?_⟩
    have hm : Value.ref q.1 ∈ L1.map (fun q => Value.ref q.1) := pm.mem_iff.mpr (List.mem_map.mpr ⟨q, hq, rfl⟩)
    obtain ⟨r, hr, e⟩ := List.mem_map.mp hm
    injection e with e
    rw [← one r (sub1 r hr) q hq e]
    exact hr
  have hlen : (L1.map fun q => Value.ref q.1).length < 300 := by rw [List.length_map, pL.length_eq]; exact hfew
  refine wpAny_bind (wpAny_newList ?_ (by rw [sizeLine_eq]; omega))
  have hoL : (s1.heap.push (seqObj "list" (L1.map fun q => Value.ref q.1).toArray 0)).get? s1.heap.objs.size = some (seqObj "list" (L1.map fun q => Value.ref q.1).toArray 0) := Heap.get?_push_size _ rfl
  have rd : ∀ p ∈ L1, ∃ as, Reads (s1.heap.push (seqObj "list" (L1.map fun q => Value.ref q.1).toArray 0)) (.ref p.1) p.2 as ∧ s1.heap.objs.size ∉ as := fun p hp => by
    obtain ⟨as, r⟩ := hr p (sub1 p hp)
    refine ⟨as, PyProof.Rows.Reads.keeps (fun b u e => Heap.get?_push_of_some _ (k1 b u e)) r, fun hm => ?_⟩
    exact absurd (reads_lt r _ hm) (Nat.not_lt.mpr hz)
  have each : PySem.W.EachIs (fun v (b : Addr × PyData) => ∃ as, Reads (s1.heap.push (seqObj "list" (L1.map fun q => Value.ref q.1).toArray 0)) v b.2 as ∧ s1.heap.objs.size ∉ as) (L1.map fun q => Value.ref q.1) L1 := by
    generalize hX : s1.heap.push (seqObj "list" (L1.map fun q => Value.ref q.1).toArray 0) = X at rd
    clear hX hoL hlen pL sub1 pm
    induction L1 with
    | nil => exact .nil
    | cons q L1 ih => exact .cons (rd q List.mem_cons_self) (ih fun p hp => rd p (List.mem_cons_of_mem _ hp))
  refine wpAny_bind (wpAny_holding (PySem.W.list_sort_data (A := A.in1) (s := { s1 with heap := s1.heap.push (seqObj "list" (L1.map fun q => Value.ref q.1).toArray 0) }) (enc := fun b : Addr × PyData => b.2) hoL (eachRefs L1) each (fun d hd d' hd' => ?_) (.inl fun d hd => ?_) (by rw [sizeLine_eq]; rw [List.length_map] at hlen; omega) (fun b hb => ?_) fun out hol ho' => ?_))
  · obtain ⟨p, hp, rfl⟩ := List.mem_map.mp hd
    obtain ⟨p', hp', rfl⟩ := List.mem_map.mp hd'
    exact hal _ (List.mem_map.mpr ⟨p, sub1 p hp, rfl⟩) _ (List.mem_map.mpr ⟨p', sub1 p' hp', rfl⟩)
  · obtain ⟨p, hp, rfl⟩ := List.mem_map.mp hd
    exact hne p (sub1 p hp)
  · have := hu b (sub1 b hb)
    simp only [Around.in1_units]
    omega
  · have e' := refsEach ho'
    obtain ⟨c, hc⟩ := sortedHeap_at (vs := L1.map fun q => Value.ref q.1) (out := out.toArray) hoL
    refine wpAny_pure ⟨_, rfl, hQ _ s1.heap.objs.size out.toArray c (L1.mergeSort (PySem.W.dataLe false fun b : Addr × PyData => b.2)) (fun b u e => ?_) g1 o1 hz hc (by simpa using e') ((List.mergeSort_perm _ _).trans pL) (PySem.W.sort_pairwise (PySem.W.sortLe_total _ false _) _)⟩
    have q := k1 b u e
    have hlt := Heap.lt_size q
    show (sortedHeap (s1.heap.push (seqObj "list" (L1.map fun q => Value.ref q.1).toArray 0)) s1.heap.objs.size (L1.map fun q => Value.ref q.1) out.toArray).get? b = some u
    rw [sortedHeap_old (Nat.ne_of_lt hlt) (by rw [size_push']; exact Nat.lt_succ_of_lt hlt)]
    exact Heap.get?_push_of_some _ q
end
end DL

/-! DLsE: sorted(set(xs)) of tuples, in the data layer. -/
namespace DL
open PySem PySem.Spec PyProof.Rows L2
mutual
theorem nested_of {h : Heap} : ∀ {d : PyData} {v : Value} {as : List Addr}, Reads h v d as → pureD d = true → NestedIs h (nk d) v
  | .none, _, _, .none, _ => .none
  | .bool b, _, _, .bool _, _ => .bool rfl
  | .int i, _, _, .int _ t, _ => .int _ t
  | .str x, _, _, .str _ t, _ => .text _ t
  | .tuple xs, _, _, .tuple e c d r, p => .tup e c d (nesteds_of r p)
  | .list _, _, _, .list _ _ _ _, p => by simp [pureD] at p
  | .dict _, _, _, .dict _ _ _ _ _, p => by simp [pureD] at p
theorem nesteds_of {h : Heap} : ∀ {ds : List PyData} {vs : List Value} {as : List Addr}, ReadsAll h vs ds as → pureD.pureAll ds = true → NestedAll h (nk.nks ds) vs
  | [], _, _, .nil, _ => .nil
  | d :: ds, _, _, .cons r1 r2, p => by
    have e : pureD d = true ∧ pureD.pureAll ds = true := by simpa [pureD.pureAll] using p
    exact .cons (nested_of r1 e.1) (nesteds_of r2 e.2)
end
/-- a tuple that may be in a set -/
structure okT (d : D) : Prop where
  pur : pureD d = true
  lay : d.canLay0 = true
  ndp : (nk d).depth ≤ 8
  dep : d.depth ≤ 8
  shp : ∃ x r, d = .tuple (x :: r)
def Set0N (w : World) (h : Heap) (a : Addr) (L : List (Addr × D)) : Prop := ∃ (es : Array (Int × Value)) (ep : Nat) (t : SetTable), (∃ o, h.get? a = some o ∧ o.ExactSet ∧ o.data = .set es ep t) ∧ es.toList = rowsN w L ∧ Tb t (L.map fun p => hsh w p.2) ∧ (keysN L).Nodup ∧
    (w.params.followText "set-order" = true ∨ t.led = true) ∧ L.length * 5 < t.mask * 3 ∧ L.length < 300
def SetNO (w : World) (a : Addr) (L : List (Addr × D)) : HO := .ext fun h => Set0N w h a L
theorem SetN.zero {w : World} {h : Heap} {a : Addr} {L : List (Addr × D)} {es : Array (Int × Value)} {ep : Nat} {t : SetTable} (R : SetN w h a L es ep t) : Set0N w h a L := ⟨es, ep, t, R.ob, R.rows, R.tab, R.nd, R.led, R.room, R.few⟩
theorem Set0N.full {w : World} {h : Heap} {a : Addr} {L : List (Addr × D)} (R : Set0N w h a L) (ht : ∀ p ∈ L, NIs h p.2 p.1) : ∃ es ep t, SetN w h a L es ep t := by
  obtain ⟨es, ep, t, h1, h2, h3, h4, h5, h6, h7⟩ := R
  exact ⟨es, ep, t, h1, h2, h3, h4, ht, h5, h6, h7⟩
theorem setNO_new {P : Program} {w : World} {H : Hp} {h : Heap} {a : Addr} {L : List (Addr × D)} (R : Set0N w h a L) : ObjOk P w H h a (SetNO w a L) := by
  have ⟨es, ep, t, ⟨o, ho, r⟩, q⟩ := R
  refine ⟨R, ⟨o, ho⟩, fun h1 h2 p k => ?_⟩
  have ⟨es', ep', t', ⟨o', ho', r'⟩, q'⟩ := p
  exact ⟨es', ep', t', ⟨o', k o' ho', r'⟩, q'⟩
theorem refsN {ks : List (Addr × D)} : ∀ {us : List Value}, Vals (ks.map fun p => V.ref p.1) us → us = ks.map fun p => Value.ref p.1 := by
  induction ks with
  | nil =>
    intro us r
    cases r
    rfl
  | cons p ks ih =>
    intro us r
    cases r with
    | cons r t =>
      cases r
      rw [ih t]
      rfl
theorem valsN : ∀ (ks : List (Addr × D)), Vals (ks.map fun p => V.ref p.1) (ks.map fun p => Value.ref p.1)
  | [] => .nil
  | p :: ks => .cons rfl (valsN ks)
section
variable {X : Cx}
def rSetN (K : PySem.W.Frag) (w : World) : List V → Hp → VK → Prop := fun xs H Q => ∃ (l : Addr) (ks : List (Addr × D)), xs = [V.ref l] ∧ (SqL K H l (ks.map fun p => V.ref p.1) ∨ SqT K H l (ks.map fun p => V.ref p.1)) ∧ (∀ p ∈ ks, Dp K H (.ref p.1) p.2 ∧ okT p.2) ∧ ks.length < 300 ∧
  ∀ a L, H a = none → (∀ p ∈ L, p ∈ ks) → (∀ p ∈ ks, nk p.2 ∈ keysN L) → Q (.ref a) (upd H a (SetNO w a L))
theorem cr_setN (hc : X.calm = true) (hu : X.A.units + 64 < cLine) : CallR X (.type "set") (rSetN X.K X.w) := by
  intro pins s σ H xs us Q I r h
  obtain ⟨l, ks, rfl, hl, hk, hf, q⟩ := h
  rw [Vals.ref1 r]
  have hn : H s.heap.objs.size = none := I.hok.fresh (Nat.le_refl _)
  have nis : ∀ p ∈ ks, NIs s.heap p.2 p.1 := fun p hp => by
    obtain ⟨as, rd⟩ := Dp.reads I p.2 _ (.ref p.1) (hk p hp).1 rfl
    exact ⟨nested_of rd (hk p hp).2.pur, (hk p hp).2.ndp⟩
  have fin : ∀ (h' : Heap) (tk : Nat) L es ep t, SetN X.w h' s.heap.objs.size L es ep t → GotN ks ks.length L → (∀ b o, s.heap.get? b = some o → h'.get? b = some o) → EP X pins σ Q (.ref s.heap.objs.size) { s with heap := h', toks := tk } := fun h' tk L es ep t R g k =>
    ⟨.ref s.heap.objs.size, upd H s.heap.objs.size (SetNO X.w s.heap.objs.size L), I.laid (t' := tk) k (Nat.le_refl _) (setNO_new R.zero), rfl, q _ L hn (fun p hp => List.mem_of_mem_take (g.sub p hp)) fun p hp => g.all p (by rw [List.take_length]; exact hp)⟩
  rcases hl with hl | hl
  · obtain ⟨its, rv, pl, hz⟩ := I.list hl
    exact call_setN_list (P := X.prog) (w := X.w) ks (I.ok.hd hc) pl.isList (by simpa using refsN rv) nis hf (by omega) fin
  · obtain ⟨its, rv, pl, hz⟩ := I.tuple hl
    exact call_setN_tuple (P := X.prog) (w := X.w) ks (I.ok.hd hc) pl (by simpa using refsN rv) nis hf (by omega) fin
abbrev leT (a b : D) : Prop := PySem.W.dataLe false (fun b : D => b) a b = true
def rSortedN (K : PySem.W.Frag) (w : World) : List V → Hp → VK → Prop := fun vs H Q => ∃ (a : Addr) (L : List (Addr × D)), vs = [V.ref a] ∧ H a = some (SetNO w a L) ∧ (∀ p ∈ L, Dp K H (.ref p.1) p.2 ∧ okT p.2) ∧ PySem.W.AllAlike (L.map (·.2)) ∧
  ∀ (L' : List (Addr × D)) (p : Addr), L'.Perm L → (keysN L').Nodup → L'.Pairwise (fun q r => leT q.2 r.2) → H p = none → Q (.ref p) (upd H p (.lst (L'.map fun q => V.ref q.1)))
theorem cr_sortedN (hc : X.calm = true) (hu : X.A.units + 64 < cLine) : CallR X (.builtin "sorted") (rSortedN X.K X.w) := by
  intro pins s σ H vs us Q I r h
  obtain ⟨a, L, rfl, ha, hk, hal, q⟩ := h
  rw [Vals.ref1 r]
  have rd : ∀ p ∈ L, ∃ as, Reads s.heap (.ref p.1) p.2 as := fun p hp => Dp.reads I p.2 _ (.ref p.1) (hk p hp).1 rfl
  have nis : ∀ p ∈ L, NIs s.heap p.2 p.1 := fun p hp => by
    obtain ⟨as, r⟩ := rd p hp
    exact ⟨nested_of r (hk p hp).2.pur, (hk p hp).2.ndp⟩
  obtain ⟨es, ep, t, R⟩ := Set0N.full (I.hok a _ ha).1 nis
  have one : ∀ q ∈ L, ∀ r ∈ L, q.1 = r.1 → q = r := fun q hq r hr e => by
    have a1 := (nis q hq).1
    have a2 := (nis r hr).1
    rw [e] at a1
    have ek : nk q.2 = nk r.2 := NestedIs.inj _ _ _ a1 a2
    obtain ⟨i, hi, e1⟩ := List.getElem_of_mem hq
    obtain ⟨j, hj, e2⟩ := List.getElem_of_mem hr
    have : i = j := by
      refine (List.getElem_inj (h₀ := by simpa using hi) (h₁ := by simpa using hj) R.nd).mp ?_
      simp only [List.getElem_map, e1, e2]
      exact ek
    subst this
    rw [← e1, ← e2]
  refine sortedN R (I.ok.hd hc) rd hal (fun p hp => (hk p hp).2.shp) (fun p hp => by have := (hk p hp).2.dep; omega) one fun s' p out c L' k g o hp hg hout pm pw => ?_
  have hfew : L'.length < 300 := by rw [pm.length_eq]; exact R.few
  have hlen : (L'.map fun q => V.ref q.1).length ≤ sizeLine := by rw [List.length_map, sizeLine_eq]; omega
  have hn : H p = none := I.hok.fresh hp
  have hv : Vals (L'.map fun q => V.ref q.1) out.toList := by rw [hout]; exact valsN L'
  have J : Inv X pins σ (upd H p (.lst (L'.map fun q => V.ref q.1))) { s with heap := s'.heap, gens := s'.gens, drawn := s'.drawn, toks := s'.toks } :=
    I.call (ch := []) (Un.laid k hp hn) (I.hok.laid k hp ⟨hlen, out.toList, c, hv, hg⟩) (by rw [g]; exact I.bare) (fun _ z => nomatch z)
  have e : s' = { s with heap := s'.heap, gens := s'.gens, drawn := s'.drawn, toks := s'.toks } := by
    cases s'
    cases s
    cases o
    rfl
  rw [e]
  exact ⟨.ref p, _, J, rfl, q L' p pm ((pm.map _).nodup_iff.mpr R.nd) pw hn⟩
end
/-! ### the data layer -/
def sortTOk (ds : List D) : Prop := ds.length < 300 ∧ (∀ d ∈ ds, okT d) ∧ PySem.W.AllAlike ds
def sortTQ (ds : List D) (Q : List D → Prop) : Prop := sortTOk ds ∧ ∀ ys : List D, (∀ y ∈ ys, y ∈ ds) → (∀ d ∈ ds, nk d ∈ ys.map nk) → (ys.map nk).Nodup → ys.Pairwise leT → Q ys
def sortTD : D → WD (List D)
  | .list ds => fun Q _ => sortTQ ds Q
  | .tuple ds => fun Q _ => sortTQ ds Q
  | _ => fun _ _ => False
section
variable [Nm] {O : Ob} {X : Cx} {E : XK}
theorem pairsN {K : PySem.W.Frag} {H : Hp} {P : Addr → Prop} : ∀ {vs : List V} {ds : List D}, DvAll O K H P vs ds → (∀ d ∈ ds, okT d) → ∃ ks : List (Addr × D), vs = ks.map (fun p => V.ref p.1) ∧ ds = ks.map (·.2) ∧ ∀ p ∈ ks, Dv O K H P (.ref p.1) p.2
  | _, _, .nil, _ => ⟨[], rfl, rfl, fun p hp => (by cases hp)⟩
  | v :: _, d :: _, .cons h r, ok => by
    obtain ⟨ks, e1, e2, hk⟩ := pairsN r fun x hx => ok x (List.mem_cons_of_mem _ hx)
    obtain ⟨x, y, rfl⟩ := (ok d List.mem_cons_self).shp
    cases h with
    | @tup a xs _ h1 h2 =>
      refine ⟨(a, .tuple (x :: y)) :: ks, by rw [e1]; rfl, by rw [e2]; rfl, fun p hp => ?_⟩
      rcases List.mem_cons.mp hp with z | z
      · rw [z]
        exact .tup h1 h2
      · exact hk p z
theorem mapN {K : PySem.W.Frag} {H : Hp} {P : Addr → Prop} : ∀ {ks : List (Addr × D)}, (∀ p ∈ ks, Dv O K H P (.ref p.1) p.2) → DvAll O K H P (ks.map fun p => V.ref p.1) (ks.map (·.2))
  | [], _ => .nil
  | p :: ks, h => .cons (h p List.mem_cons_self) (mapN fun q hq => h q (List.mem_cons_of_mem _ hq))
theorem df_sortT {a : Expr} {f : Rho → WD D} {p p2 q pos : Pos} (hc : X.calm = true) (hu : X.A.units + 65 < cLine) (hg : Gl X "sorted") (hm : X.mg "sorted" = none) (hg2 : Gl X "set") (hm2 : X.mg "set" = none) (ha : DE O X E a f)
    (he : starEach [a] X.env = (false, eval a X.env) :: starEach [] X.env := by rfl) : DF O X E (.Call (.Name "sorted" p) [.Call (.Name "set" p2) [a] [] q] [] pos) (eUnF sortTD f) := by
  obtain ⟨ta, a1, a2⟩ := ha
  refine ⟨_, pe_callB (cr_sortedN hc (Nat.lt_of_succ_lt hu)) hg hm (by rfl) (pa_cons (pe_callTy (cr_setN hc (Nat.lt_of_succ_lt hu)) hg2 hm2 PyProof.Rows.boot_set (pa_cons a1 pa_nil he) (he := he)) pa_nil), fun P ρ σ H Qd Ed Q hd hr hf hQ hE => a2 P ρ σ H _ Ed _ hd hr hf (fun v d H1 s1 h1 q1 => ?_) hE⟩
  have fin : ∀ (l : Addr) (ks : List (Addr × D)), (SqL X.K H1 l (ks.map fun p => V.ref p.1) ∨ SqT X.K H1 l (ks.map fun p => V.ref p.1)) → (∀ p ∈ ks, Dv O X.K H1 P (.ref p.1) p.2) → sortTQ (ks.map (·.2)) Qd →
      rSetN X.K X.w [V.ref l] H1 (fun x H2 => rSortedN X.K X.w [x] H2 Q) := fun l ks hl hk hq => by
    obtain ⟨⟨hn, ok, al⟩, hq⟩ := hq
    have okp : ∀ p ∈ ks, okT p.2 := fun p hp => ok _ (List.mem_map.mpr ⟨p, hp, rfl⟩)
    refine ⟨l, ks, rfl, hl, fun p hp => ⟨(hk p hp).dp (okp p hp).lay, okp p hp⟩, by simpa using hn, fun b L hb sub all => ?_⟩
    have sb := same_new (o := SetNO X.w b L) hb
    have hkL : ∀ p ∈ L, Dv O X.K (upd H1 b (SetNO X.w b L)) P (.ref p.1) p.2 := fun p hp => (hk p (sub p hp)).same sb
    refine ⟨b, L, rfl, upd_same, fun p hp => ⟨(hkL p hp).dp (okp p (sub p hp)).lay, okp p (sub p hp)⟩, fun d hd d' hd' => ?_, fun L' p pm nd pw hp => ?_⟩
    · obtain ⟨x, hx, rfl⟩ := List.mem_map.mp hd
      obtain ⟨y, hy, rfl⟩ := List.mem_map.mp hd'
      exact al _ (List.mem_map.mpr ⟨x, sub x hx, rfl⟩) _ (List.mem_map.mpr ⟨y, sub y hy, rfl⟩)
    · have s2 := same_new (o := .lst (L'.map fun q => V.ref q.1)) hp
      refine hQ p _ (L'.map (·.2)) _ ((s1.trans sb).trans s2) (s1.free (sb.free (nn hp))) upd_same ?_ (hq _ (fun y hy => ?_) (fun d hd => ?_) ?_ ?_)
      · exact (mapN fun r hr => hkL r (pm.mem_iff.mp hr)).fresh (nn hp) s2
      · obtain ⟨r, hr, rfl⟩ := List.mem_map.mp hy
        exact List.mem_map.mpr ⟨r, sub r (pm.mem_iff.mp hr), rfl⟩
      · obtain ⟨r, hr, rfl⟩ := List.mem_map.mp hd
        have := all r hr
        rw [List.map_map]
        exact ((pm.map fun p => nk p.2).mem_iff).mpr this
      · rw [List.map_map]
        exact nd
      · exact List.pairwise_map.mpr pw
  cases h1 with
  | lst e n r =>
    obtain ⟨ks, rfl, rfl, hk⟩ := pairsN r q1.1.2.1
    exact fin _ ks (.inl (.inl (.inl e))) hk q1
  | tup e r =>
    obtain ⟨ks, rfl, rfl, hk⟩ := pairsN r q1.1.2.1
    exact fin _ ks (.inr e.sq) hk q1
  | _ => exact q1.elim
end
end DL

namespace G6
open PySem PySem.Spec L2 DL
/-! ### what each def does -/
def c_HOMES : D := .tuple [.str "low", .str "fold"]
def c_STEPS : D := .tuple [.str "up", .str "down", .str "wide", .str "own"]
def c_COMES : D := .tuple [.str "late", .str "empty", .str "near", .str "first"]
def c_GONES : D := .tuple [.str "mark", .str "hole", .str "again", .str "pull"]
def c_GROWS : D := .tuple [.str "half", .str "three", .str "full"]
def b1_is_word : FS := (sRet (eAnd (eUn1 (isiD "str") (eVar 0)) (eOp (inD false) (eVar 0) (eVar 1))))
theorem b1_is_word_r (Γ : DL.Env) (k : KS) : b1_is_word Γ k = (sRet (eAnd (eUn1 (isiD "str") (eVar 0)) (eOp (inD false) (eVar 0) (eVar 1)))) Γ k := propext Iff.rfl
def m_is_word : List D → WD D := fn0 2
    b1_is_word
theorem m_is_word_r (ds : List D) (Q : D → Prop) (E : Str → Prop) : m_is_word ds Q E = fn0 2 b1_is_word ds Q E := propext Iff.rfl
def b1__law_count : FS := (sRet (eCb (one1 lenD) (aCons (eOfF (eLc (sItems (eVar 0)) (.name 4) [4] (tAndD (tB1 (eOp (eqD false) (eOp idxD (eVar 4) (eC (.int 0))) (eVar 1))) (tB1 (eOp (eqD false) (eOp idxD (eVar 4) (eVar 2)) (eVar 3)))) (eVar 4))) aNil)))
theorem b1__law_count_r (Γ : DL.Env) (k : KS) : b1__law_count Γ k = (sRet (eCb (one1 lenD) (aCons (eOfF (eLc (sItems (eVar 0)) (.name 4) [4] (tAndD (tB1 (eOp (eqD false) (eOp idxD (eVar 4) (eC (.int 0))) (eVar 1))) (tB1 (eOp (eqD false) (eOp idxD (eVar 4) (eVar 2)) (eVar 3)))) (eVar 4))) aNil))) Γ k := propext Iff.rfl
def m__law_count : List D → WD D := fn0 5
    b1__law_count
theorem m__law_count_r (ds : List D) (Q : D → Prop) (E : Str → Prop) : m__law_count ds Q E = fn0 5 b1__law_count ds Q E := propext Iff.rfl
def b1_is_slot_way : FS := (sIf (tOrD (tB1 (eOp (eqD true) (eCb (one1 lenD) (aCons (eVar 0) aNil)) (eC (.int 6)))) (tOrD (tNotD (tB1 (eCb m_is_word (aCons (eOp idxD (eVar 0) (eC (.int 1))) (aCons (eC c_HOMES) aNil))))) (tNotD (tB1 (eCb m_is_word (aCons (eOp idxD (eVar 0) (eC (.int 2))) (aCons (eC c_STEPS) aNil))))))) (sRet (eC (.bool false))) sNext)
theorem b1_is_slot_way_r (Γ : DL.Env) (k : KS) : b1_is_slot_way Γ k = (sIf (tOrD (tB1 (eOp (eqD true) (eCb (one1 lenD) (aCons (eVar 0) aNil)) (eC (.int 6)))) (tOrD (tNotD (tB1 (eCb m_is_word (aCons (eOp idxD (eVar 0) (eC (.int 1))) (aCons (eC c_HOMES) aNil))))) (tNotD (tB1 (eCb m_is_word (aCons (eOp idxD (eVar 0) (eC (.int 2))) (aCons (eC c_STEPS) aNil))))))) (sRet (eC (.bool false))) sNext) Γ k := propext Iff.rfl
def b2_is_slot_way : FS := (sIf (tOrD (tNotD (tB1 (eCb m_is_word (aCons (eOp idxD (eVar 0) (eC (.int 3))) (aCons (eC c_COMES) aNil))))) (tOrD (tNotD (tB1 (eCb m_is_word (aCons (eOp idxD (eVar 0) (eC (.int 4))) (aCons (eC c_GONES) aNil))))) (tNotD (tB1 (eCb m_is_word (aCons (eOp idxD (eVar 0) (eC (.int 5))) (aCons (eC c_GROWS) aNil))))))) (sRet (eC (.bool false))) sNext)
theorem b2_is_slot_way_r (Γ : DL.Env) (k : KS) : b2_is_slot_way Γ k = (sIf (tOrD (tNotD (tB1 (eCb m_is_word (aCons (eOp idxD (eVar 0) (eC (.int 3))) (aCons (eC c_COMES) aNil))))) (tOrD (tNotD (tB1 (eCb m_is_word (aCons (eOp idxD (eVar 0) (eC (.int 4))) (aCons (eC c_GONES) aNil))))) (tNotD (tB1 (eCb m_is_word (aCons (eOp idxD (eVar 0) (eC (.int 5))) (aCons (eC c_GROWS) aNil))))))) (sRet (eC (.bool false))) sNext) Γ k := propext Iff.rfl
def b3_is_slot_way : FS := (sRet (eOr (eOp (inD false) (eOp idxD (eVar 0) (eC (.int 2))) (eTup (aCons (eC (.str "up")) (aCons (eC (.str "down")) aNil)))) (eAnd (eOp (inD false) (eOp idxD (eVar 0) (eC (.int 3))) (eTup (aCons (eC (.str "late")) (aCons (eC (.str "empty")) aNil)))) (eOp (eqD true) (eOp idxD (eVar 0) (eC (.int 4))) (eC (.str "pull"))))))
theorem b3_is_slot_way_r (Γ : DL.Env) (k : KS) : b3_is_slot_way Γ k = (sRet (eOr (eOp (inD false) (eOp idxD (eVar 0) (eC (.int 2))) (eTup (aCons (eC (.str "up")) (aCons (eC (.str "down")) aNil)))) (eAnd (eOp (inD false) (eOp idxD (eVar 0) (eC (.int 3))) (eTup (aCons (eC (.str "late")) (aCons (eC (.str "empty")) aNil)))) (eOp (eqD true) (eOp idxD (eVar 0) (eC (.int 4))) (eC (.str "pull")))))) Γ k := propext Iff.rfl
def m_is_slot_way : List D → WD D := fn0 1
    (sSeq b1_is_slot_way
    (sSeq b2_is_slot_way
    b3_is_slot_way))
theorem m_is_slot_way_r (ds : List D) (Q : D → Prop) (E : Str → Prop) : m_is_slot_way ds Q E = fn0 1 (sSeq b1_is_slot_way
    (sSeq b2_is_slot_way
    b3_is_slot_way)) ds Q E := propext Iff.rfl
def b1__law_way : FS := (sSet 2 (eOp idxD (eTup (aCons (eC (.str "low")) (aCons (eC (.str "fold")) aNil))) (eOp fdivD (eCb m__law_draw (aCons (eVar 0) (aCons (eVar 1) (aCons (eC (.int 3)) aNil)))) (eC (.int 2)))))
theorem b1__law_way_r (Γ : DL.Env) (k : KS) : b1__law_way Γ k = (sSet 2 (eOp idxD (eTup (aCons (eC (.str "low")) (aCons (eC (.str "fold")) aNil))) (eOp fdivD (eCb m__law_draw (aCons (eVar 0) (aCons (eVar 1) (aCons (eC (.int 3)) aNil)))) (eC (.int 2))))) Γ k := propext Iff.rfl
def b2__law_way : FS := (sSet 5 (eOp idxD (eTup (aCons (eC (.str "front")) (aCons (eC (.str "end")) aNil))) (eCb m__law_draw (aCons (eVar 0) (aCons (eVar 1) (aCons (eC (.int 2)) aNil))))))
theorem b2__law_way_r (Γ : DL.Env) (k : KS) : b2__law_way Γ k = (sSet 5 (eOp idxD (eTup (aCons (eC (.str "front")) (aCons (eC (.str "end")) aNil))) (eCb m__law_draw (aCons (eVar 0) (aCons (eVar 1) (aCons (eC (.int 2)) aNil)))))) Γ k := propext Iff.rfl
def b3__law_way : FS := (sRet (eTup (aCons (eC (.str "rows")) (aCons (eVar 2) (aCons (eVar 5) (aCons (eOp idxD (eTup (aCons (eC (.str "one")) (aCons (eC (.str "two")) aNil))) (eCb m__law_draw (aCons (eVar 0) (aCons (eVar 1) (aCons (eC (.int 2)) aNil))))) aNil))))))
theorem b3__law_way_r (Γ : DL.Env) (k : KS) : b3__law_way Γ k = (sRet (eTup (aCons (eC (.str "rows")) (aCons (eVar 2) (aCons (eVar 5) (aCons (eOp idxD (eTup (aCons (eC (.str "one")) (aCons (eC (.str "two")) aNil))) (eCb m__law_draw (aCons (eVar 0) (aCons (eVar 1) (aCons (eC (.int 2)) aNil))))) aNil)))))) Γ k := propext Iff.rfl
def b4__law_way : FS := (sIf (tB1 (eOp (eqD false) (eCb m__law_draw (aCons (eVar 0) (aCons (eVar 1) (aCons (eC (.int 9)) aNil)))) (eC (.int 0)))) (sSeq b2__law_way
    b3__law_way) sNext)
theorem b4__law_way_r (Γ : DL.Env) (k : KS) : b4__law_way Γ k = (sIf (tB1 (eOp (eqD false) (eCb m__law_draw (aCons (eVar 0) (aCons (eVar 1) (aCons (eC (.int 9)) aNil)))) (eC (.int 0)))) (sSeq b2__law_way
    b3__law_way) sNext) Γ k := propext Iff.rfl
def b5__law_way : FS := (sSet 3 (eOp idxD (eTup (aCons (eC (.str "up")) (aCons (eC (.str "down")) (aCons (eC (.str "up")) (aCons (eC (.str "wide")) (aCons (eC (.str "own")) aNil)))))) (eCb m__law_draw (aCons (eVar 0) (aCons (eVar 1) (aCons (eC (.int 5)) aNil))))))
theorem b5__law_way_r (Γ : DL.Env) (k : KS) : b5__law_way Γ k = (sSet 3 (eOp idxD (eTup (aCons (eC (.str "up")) (aCons (eC (.str "down")) (aCons (eC (.str "up")) (aCons (eC (.str "wide")) (aCons (eC (.str "own")) aNil)))))) (eCb m__law_draw (aCons (eVar 0) (aCons (eVar 1) (aCons (eC (.int 5)) aNil)))))) Γ k := propext Iff.rfl
def b6__law_way : FS := (sSet 4 (eOp (inD false) (eVar 3) (eTup (aCons (eC (.str "up")) (aCons (eC (.str "down")) aNil)))))
theorem b6__law_way_r (Γ : DL.Env) (k : KS) : b6__law_way Γ k = (sSet 4 (eOp (inD false) (eVar 3) (eTup (aCons (eC (.str "up")) (aCons (eC (.str "down")) aNil))))) Γ k := propext Iff.rfl
def b7__law_way : FS := (sSet 5 (eOp idxD (eTup (aCons (eC (.str "late")) (aCons (eC (.str "empty")) (aCons (eC (.str "near")) (aCons (eC (.str "first")) aNil))))) (eCb m__law_draw (aCons (eVar 0) (aCons (eVar 1) (aCons (eIf (tTru (eVar 4)) (eC (.int 4)) (eC (.int 2))) aNil))))))
theorem b7__law_way_r (Γ : DL.Env) (k : KS) : b7__law_way Γ k = (sSet 5 (eOp idxD (eTup (aCons (eC (.str "late")) (aCons (eC (.str "empty")) (aCons (eC (.str "near")) (aCons (eC (.str "first")) aNil))))) (eCb m__law_draw (aCons (eVar 0) (aCons (eVar 1) (aCons (eIf (tTru (eVar 4)) (eC (.int 4)) (eC (.int 2))) aNil)))))) Γ k := propext Iff.rfl
def b8__law_way : FS := (sSet 6 (eOp idxD (eTup (aCons (eC (.str "mark")) (aCons (eC (.str "hole")) (aCons (eC (.str "again")) (aCons (eC (.str "pull")) aNil))))) (eCb m__law_draw (aCons (eVar 0) (aCons (eVar 1) (aCons (eIf (tTru (eVar 4)) (eC (.int 4)) (eC (.int 3))) aNil))))))
theorem b8__law_way_r (Γ : DL.Env) (k : KS) : b8__law_way Γ k = (sSet 6 (eOp idxD (eTup (aCons (eC (.str "mark")) (aCons (eC (.str "hole")) (aCons (eC (.str "again")) (aCons (eC (.str "pull")) aNil))))) (eCb m__law_draw (aCons (eVar 0) (aCons (eVar 1) (aCons (eIf (tTru (eVar 4)) (eC (.int 4)) (eC (.int 3))) aNil)))))) Γ k := propext Iff.rfl
def b9__law_way : FS := (sRet (eTup (aCons (eC (.str "slots")) (aCons (eVar 2) (aCons (eVar 3) (aCons (eVar 5) (aCons (eVar 6) (aCons (eOp idxD (eTup (aCons (eC (.str "half")) (aCons (eC (.str "three")) (aCons (eC (.str "full")) aNil)))) (eCb m__law_draw (aCons (eVar 0) (aCons (eVar 1) (aCons (eC (.int 3)) aNil))))) aNil))))))))
theorem b9__law_way_r (Γ : DL.Env) (k : KS) : b9__law_way Γ k = (sRet (eTup (aCons (eC (.str "slots")) (aCons (eVar 2) (aCons (eVar 3) (aCons (eVar 5) (aCons (eVar 6) (aCons (eOp idxD (eTup (aCons (eC (.str "half")) (aCons (eC (.str "three")) (aCons (eC (.str "full")) aNil)))) (eCb m__law_draw (aCons (eVar 0) (aCons (eVar 1) (aCons (eC (.int 3)) aNil))))) aNil)))))))) Γ k := propext Iff.rfl
def m__law_way : List D → WD D := fn0 7
    (sSeq b1__law_way
    (sSeq b4__law_way
    (sSeq b5__law_way
    (sSeq b6__law_way
    (sSeq b7__law_way
    (sSeq b8__law_way
    b9__law_way))))))
theorem m__law_way_r (ds : List D) (Q : D → Prop) (E : Str → Prop) : m__law_way ds Q E = fn0 7 (sSeq b1__law_way
    (sSeq b4__law_way
    (sSeq b5__law_way
    (sSeq b6__law_way
    (sSeq b7__law_way
    (sSeq b8__law_way
    b9__law_way)))))) ds Q E := propext Iff.rfl
def b1_is_way : FS := (sIf (tOrD (tNotD (tB1 (eUn1 (isiD "tuple") (eVar 0)))) (tOrD (tB1 (eOp (eqD false) (eVar 0) (eTup aNil))) (tNotD (tB1 (eCb m_is_word (aCons (eOp idxD (eVar 0) (eC (.int 0))) (aCons (eTup (aCons (eC (.str "slots")) (aCons (eC (.str "rows")) aNil))) aNil))))))) (sRet (eC (.bool false))) sNext)
theorem b1_is_way_r (Γ : DL.Env) (k : KS) : b1_is_way Γ k = (sIf (tOrD (tNotD (tB1 (eUn1 (isiD "tuple") (eVar 0)))) (tOrD (tB1 (eOp (eqD false) (eVar 0) (eTup aNil))) (tNotD (tB1 (eCb m_is_word (aCons (eOp idxD (eVar 0) (eC (.int 0))) (aCons (eTup (aCons (eC (.str "slots")) (aCons (eC (.str "rows")) aNil))) aNil))))))) (sRet (eC (.bool false))) sNext) Γ k := propext Iff.rfl
def b2_is_way : FS := (sIf (tB1 (eOp (eqD false) (eOp idxD (eVar 0) (eC (.int 0))) (eC (.str "slots")))) (sRet (eCb m_is_slot_way (aCons (eVar 0) aNil))) sNext)
theorem b2_is_way_r (Γ : DL.Env) (k : KS) : b2_is_way Γ k = (sIf (tB1 (eOp (eqD false) (eOp idxD (eVar 0) (eC (.int 0))) (eC (.str "slots")))) (sRet (eCb m_is_slot_way (aCons (eVar 0) aNil))) sNext) Γ k := propext Iff.rfl
def b3_is_way : FS := (sIf (tOrD (tB1 (eOp (eqD true) (eCb (one1 lenD) (aCons (eVar 0) aNil)) (eC (.int 4)))) (tNotD (tB1 (eCb m_is_word (aCons (eOp idxD (eVar 0) (eC (.int 1))) (aCons (eC c_HOMES) aNil)))))) (sRet (eC (.bool false))) sNext)
theorem b3_is_way_r (Γ : DL.Env) (k : KS) : b3_is_way Γ k = (sIf (tOrD (tB1 (eOp (eqD true) (eCb (one1 lenD) (aCons (eVar 0) aNil)) (eC (.int 4)))) (tNotD (tB1 (eCb m_is_word (aCons (eOp idxD (eVar 0) (eC (.int 1))) (aCons (eC c_HOMES) aNil)))))) (sRet (eC (.bool false))) sNext) Γ k := propext Iff.rfl
def b4_is_way : FS := (sRet (eAnd (eCb m_is_word (aCons (eOp idxD (eVar 0) (eC (.int 2))) (aCons (eTup (aCons (eC (.str "front")) (aCons (eC (.str "end")) aNil))) aNil))) (eCb m_is_word (aCons (eOp idxD (eVar 0) (eC (.int 3))) (aCons (eTup (aCons (eC (.str "one")) (aCons (eC (.str "two")) aNil))) aNil)))))
theorem b4_is_way_r (Γ : DL.Env) (k : KS) : b4_is_way Γ k = (sRet (eAnd (eCb m_is_word (aCons (eOp idxD (eVar 0) (eC (.int 2))) (aCons (eTup (aCons (eC (.str "front")) (aCons (eC (.str "end")) aNil))) aNil))) (eCb m_is_word (aCons (eOp idxD (eVar 0) (eC (.int 3))) (aCons (eTup (aCons (eC (.str "one")) (aCons (eC (.str "two")) aNil))) aNil))))) Γ k := propext Iff.rfl
def m_is_way : List D → WD D := fn0 1
    (sSeq b1_is_way
    (sSeq b2_is_way
    (sSeq b3_is_way
    b4_is_way)))
theorem m_is_way_r (ds : List D) (Q : D → Prop) (E : Str → Prop) : m_is_way ds Q E = fn0 1 (sSeq b1_is_way
    (sSeq b2_is_way
    (sSeq b3_is_way
    b4_is_way))) ds Q E := propext Iff.rfl
def b1_all_ways : FS := (sExt 0 (eOfF (eLc2 (sItems (eTup (aCons (eC (.str "front")) (aCons (eC (.str "end")) aNil)))) (.name 3) [3, 5] tYesD (sItems (eTup (aCons (eC (.str "one")) (aCons (eC (.str "two")) aNil)))) (.name 5) [5] tYesD (eTup (aCons (eC (.str "rows")) (aCons (eVar 1) (aCons (eVar 3) (aCons (eVar 5) aNil))))))))
theorem b1_all_ways_r (Γ : DL.Env) (k : KS) : b1_all_ways Γ k = (sExt 0 (eOfF (eLc2 (sItems (eTup (aCons (eC (.str "front")) (aCons (eC (.str "end")) aNil)))) (.name 3) [3, 5] tYesD (sItems (eTup (aCons (eC (.str "one")) (aCons (eC (.str "two")) aNil)))) (.name 5) [5] tYesD (eTup (aCons (eC (.str "rows")) (aCons (eVar 1) (aCons (eVar 3) (aCons (eVar 5) aNil)))))))) Γ k := propext Iff.rfl
def b2_all_ways : FS := (sExt 0 (eOfF (eLc (sItems (eC c_GROWS)) (.name 5) [5] tYesD (eTup (aCons (eC (.str "slots")) (aCons (eVar 1) (aCons (eVar 2) (aCons (eVar 3) (aCons (eVar 4) (aCons (eVar 5) aNil))))))))))
theorem b2_all_ways_r (Γ : DL.Env) (k : KS) : b2_all_ways Γ k = (sExt 0 (eOfF (eLc (sItems (eC c_GROWS)) (.name 5) [5] tYesD (eTup (aCons (eC (.str "slots")) (aCons (eVar 1) (aCons (eVar 2) (aCons (eVar 3) (aCons (eVar 4) (aCons (eVar 5) aNil)))))))))) Γ k := propext Iff.rfl
def b3_all_ways : FS := (sFor (sItems (eC c_COMES)) (.name 3) (sFor (sItems (eC c_GONES)) (.name 4) b2_all_ways))
theorem b3_all_ways_r (Γ : DL.Env) (k : KS) : b3_all_ways Γ k = (sFor (sItems (eC c_COMES)) (.name 3) (sFor (sItems (eC c_GONES)) (.name 4) b2_all_ways)) Γ k := propext Iff.rfl
def b4_all_ways : FS := (sSeq b1_all_ways
    (sFor (sItems (eC c_STEPS)) (.name 2) b3_all_ways))
theorem b4_all_ways_r (Γ : DL.Env) (k : KS) : b4_all_ways Γ k = (sSeq b1_all_ways
    (sFor (sItems (eC c_STEPS)) (.name 2) b3_all_ways)) Γ k := propext Iff.rfl
def b5_all_ways : FS := (sRet (eCb (one1 tupleD) (aCons (eOfF (eCbF (one1F sortD) (aCons (eOfF (eLc (sItems (eVar 0)) (.name 6) [6] (tB1 (eCb m_is_way (aCons (eVar 6) aNil))) (eVar 6))) aNil))) aNil)))
theorem b5_all_ways_r (Γ : DL.Env) (k : KS) : b5_all_ways Γ k = (sRet (eCb (one1 tupleD) (aCons (eOfF (eCbF (one1F sortD) (aCons (eOfF (eLc (sItems (eVar 0)) (.name 6) [6] (tB1 (eCb m_is_way (aCons (eVar 6) aNil))) (eVar 6))) aNil))) aNil))) Γ k := propext Iff.rfl
def m_all_ways : List D → WD D := fn0 7
    (sSeq (sSetF 0 (eLst aNil))
    (sSeq (sFor (sItems (eC c_HOMES)) (.name 1) b4_all_ways)
    b5_all_ways))
theorem m_all_ways_r (ds : List D) (Q : D → Prop) (E : Str → Prop) : m_all_ways ds Q E = fn0 7 (sSeq (sSetF 0 (eLst aNil))
    (sSeq (sFor (sItems (eC c_HOMES)) (.name 1) b4_all_ways)
    b5_all_ways)) ds Q E := propext Iff.rfl
def b1_law : FS := (sTgt (.tup [(.name 2), (.name 3)]) (eTup (aCons (fun _ Q Ed => m__law_begun [] Q Ed) (aCons (fun _ Q Ed => m_all_ways [] Q Ed) aNil))))
theorem b1_law_r (Γ : DL.Env) (k : KS) : b1_law Γ k = (sTgt (.tup [(.name 2), (.name 3)]) (eTup (aCons (fun _ Q Ed => m__law_begun [] Q Ed) (aCons (fun _ Q Ed => m_all_ways [] Q Ed) aNil)))) Γ k := propext Iff.rfl
def b2_law : FS := (sIf (tOrD (tB1 (eOp (eqD true) (eCb (one1 lenD) (aCons (eVar 3) aNil)) (eC (.int 272)))) (tOrD (tB1 (eOp (eqD true) (eOfF (eCbF (one1F listD) (aCons (eVar 3) aNil))) (eOfF (eUnF sortTD (eVar 3))))) (tNotD (tB1 (eCb (one1 allD) (aCons (eOfF (eLc (sItems (eVar 3)) (.name 5) [5] tYesD (eCb m_is_way (aCons (eVar 5) aNil)))) aNil)))))) (sRet (eC (.bool false))) sNext)
theorem b2_law_r (Γ : DL.Env) (k : KS) : b2_law Γ k = (sIf (tOrD (tB1 (eOp (eqD true) (eCb (one1 lenD) (aCons (eVar 3) aNil)) (eC (.int 272)))) (tOrD (tB1 (eOp (eqD true) (eOfF (eCbF (one1F listD) (aCons (eVar 3) aNil))) (eOfF (eUnF sortTD (eVar 3))))) (tNotD (tB1 (eCb (one1 allD) (aCons (eOfF (eLc (sItems (eVar 3)) (.name 5) [5] tYesD (eCb m_is_way (aCons (eVar 5) aNil)))) aNil)))))) (sRet (eC (.bool false))) sNext) Γ k := propext Iff.rfl
def b3_law : FS := (sIf (tB1 (eOp (eqD true) (eOfF (eLc (sItems (eTup (aCons (eC (.str "front")) (aCons (eC (.str "end")) aNil)))) (.name 4) [4] tYesD (eCb m__law_count (aCons (eVar 3) (aCons (eC (.str "rows")) (aCons (eC (.int 2)) (aCons (eVar 4) aNil))))))) (eOfF (eLst (aCons (eC (.int 4)) (aCons (eC (.int 4)) aNil)))))) (sRet (eC (.bool false))) sNext)
theorem b3_law_r (Γ : DL.Env) (k : KS) : b3_law Γ k = (sIf (tB1 (eOp (eqD true) (eOfF (eLc (sItems (eTup (aCons (eC (.str "front")) (aCons (eC (.str "end")) aNil)))) (.name 4) [4] tYesD (eCb m__law_count (aCons (eVar 3) (aCons (eC (.str "rows")) (aCons (eC (.int 2)) (aCons (eVar 4) aNil))))))) (eOfF (eLst (aCons (eC (.int 4)) (aCons (eC (.int 4)) aNil)))))) (sRet (eC (.bool false))) sNext) Γ k := propext Iff.rfl
def b4_law : FS := (sIf (tB1 (eOp (eqD true) (eOfF (eLc (sItems (eTup (aCons (eC (.str "up")) (aCons (eC (.str "down")) (aCons (eC (.str "wide")) (aCons (eC (.str "own")) aNil)))))) (.name 4) [4] tYesD (eCb m__law_count (aCons (eVar 3) (aCons (eC (.str "slots")) (aCons (eC (.int 2)) (aCons (eVar 4) aNil))))))) (eOfF (eLst (aCons (eC (.int 96)) (aCons (eC (.int 96)) (aCons (eC (.int 36)) (aCons (eC (.int 36)) aNil)))))))) (sRet (eC (.bool false))) sNext)
theorem b4_law_r (Γ : DL.Env) (k : KS) : b4_law Γ k = (sIf (tB1 (eOp (eqD true) (eOfF (eLc (sItems (eTup (aCons (eC (.str "up")) (aCons (eC (.str "down")) (aCons (eC (.str "wide")) (aCons (eC (.str "own")) aNil)))))) (.name 4) [4] tYesD (eCb m__law_count (aCons (eVar 3) (aCons (eC (.str "slots")) (aCons (eC (.int 2)) (aCons (eVar 4) aNil))))))) (eOfF (eLst (aCons (eC (.int 96)) (aCons (eC (.int 96)) (aCons (eC (.int 36)) (aCons (eC (.int 36)) aNil)))))))) (sRet (eC (.bool false))) sNext) Γ k := propext Iff.rfl
def b5_law : FS := (sIf (tB1 (eOp (eqD true) (eOfF (eLc (sItems (eTup (aCons (eC (.str "late")) (aCons (eC (.str "empty")) (aCons (eC (.str "near")) (aCons (eC (.str "first")) aNil)))))) (.name 4) [4] tYesD (eCb m__law_count (aCons (eVar 3) (aCons (eC (.str "slots")) (aCons (eC (.int 3)) (aCons (eVar 4) aNil))))))) (eOfF (eLst (aCons (eC (.int 84)) (aCons (eC (.int 84)) (aCons (eC (.int 48)) (aCons (eC (.int 48)) aNil)))))))) (sRet (eC (.bool false))) sNext)
theorem b5_law_r (Γ : DL.Env) (k : KS) : b5_law Γ k = (sIf (tB1 (eOp (eqD true) (eOfF (eLc (sItems (eTup (aCons (eC (.str "late")) (aCons (eC (.str "empty")) (aCons (eC (.str "near")) (aCons (eC (.str "first")) aNil)))))) (.name 4) [4] tYesD (eCb m__law_count (aCons (eVar 3) (aCons (eC (.str "slots")) (aCons (eC (.int 3)) (aCons (eVar 4) aNil))))))) (eOfF (eLst (aCons (eC (.int 84)) (aCons (eC (.int 84)) (aCons (eC (.int 48)) (aCons (eC (.int 48)) aNil)))))))) (sRet (eC (.bool false))) sNext) Γ k := propext Iff.rfl
def b6_law : FS := (sIf (tB1 (eOp (eqD true) (eOfF (eLc (sItems (eTup (aCons (eC (.str "mark")) (aCons (eC (.str "hole")) (aCons (eC (.str "again")) (aCons (eC (.str "pull")) aNil)))))) (.name 4) [4] tYesD (eCb m__law_count (aCons (eVar 3) (aCons (eC (.str "slots")) (aCons (eC (.int 4)) (aCons (eVar 4) aNil))))))) (eOfF (eLst (aCons (eC (.int 72)) (aCons (eC (.int 72)) (aCons (eC (.int 72)) (aCons (eC (.int 48)) aNil)))))))) (sRet (eC (.bool false))) sNext)
theorem b6_law_r (Γ : DL.Env) (k : KS) : b6_law Γ k = (sIf (tB1 (eOp (eqD true) (eOfF (eLc (sItems (eTup (aCons (eC (.str "mark")) (aCons (eC (.str "hole")) (aCons (eC (.str "again")) (aCons (eC (.str "pull")) aNil)))))) (.name 4) [4] tYesD (eCb m__law_count (aCons (eVar 3) (aCons (eC (.str "slots")) (aCons (eC (.int 4)) (aCons (eVar 4) aNil))))))) (eOfF (eLst (aCons (eC (.int 72)) (aCons (eC (.int 72)) (aCons (eC (.int 72)) (aCons (eC (.int 48)) aNil)))))))) (sRet (eC (.bool false))) sNext) Γ k := propext Iff.rfl
def b7_law : FS := (sIf (tB1 (eOp (inD true) (eCb m__law_way (aCons (eVar 0) (aCons (eVar 2) aNil))) (eVar 3))) (sRet (eC (.bool false))) sNext)
theorem b7_law_r (Γ : DL.Env) (k : KS) : b7_law Γ k = (sIf (tB1 (eOp (inD true) (eCb m__law_way (aCons (eVar 0) (aCons (eVar 2) aNil))) (eVar 3))) (sRet (eC (.bool false))) sNext) Γ k := propext Iff.rfl
def b8_law : FS := (sFor (eCbF rng1 (aCons (eC (.int 12)) aNil)) (.name 1) b7_law)
theorem b8_law_r (Γ : DL.Env) (k : KS) : b8_law Γ k = (sFor (eCbF rng1 (aCons (eC (.int 12)) aNil)) (.name 1) b7_law) Γ k := propext Iff.rfl
def m_law : List D → WD D := fn0 6
    (sSeq b1_law
    (sSeq b2_law
    (sSeq b3_law
    (sSeq b4_law
    (sSeq b5_law
    (sSeq b6_law
    (sSeq b8_law
    (sRet (eC (.bool true))))))))))
theorem m_law_r (ds : List D) (Q : D → Prop) (E : Str → Prop) : m_law ds Q E = fn0 6 (sSeq b1_law
    (sSeq b2_law
    (sSeq b3_law
    (sSeq b4_law
    (sSeq b5_law
    (sSeq b6_law
    (sSeq b8_law
    (sRet (eC (.bool true)))))))))) ds Q E := propext Iff.rfl
end G6

namespace DL
open PySem PySem.Spec L2
/-! ### the mirrors, run: one answer, if there is one -/
section
abbrev KE {α : Type} (f : Rho → WD α) (x : Rho → Option α) : Prop := ∀ ρ a, x ρ = some a → ∀ Q E, Q a → f ρ Q E
abbrev KC {α : Type} (f : List D → WD α) (x : List D → Option α) : Prop := ∀ ds a, x ds = some a → ∀ Q E, Q a → f ds Q E
abbrev KU {α : Type} (f : D → WD α) (x : D → Option α) : Prop := ∀ d a, x d = some a → ∀ Q E, Q a → f d Q E
abbrev KO (f : D → D → WD D) (x : D → D → Option D) : Prop := ∀ a b c, x a b = some c → ∀ Q E, Q c → f a b Q E
variable [Nm] {α β : Type}
theorem bind_some {x : Option α} {f : α → Option β} {b : β} (h : x.bind f = some b) : ∃ a, x = some a ∧ f a = some b := by
  cases x with
  | none => cases h
  | some a => exact ⟨a, rfl, h⟩
def xif (c : Prop) [Decidable c] (x : Option α) : Option α := if c then x else none
theorem xif_some {c : Prop} [Decidable c] {x : Option α} {a : α} (h : xif c x = some a) : c ∧ x = some a := by
  unfold xif at h
  split at h
  · exact ⟨by assumption, h⟩
  · cases h
variable {f g fc : Rho → WD D} {xf xg xc : Rho → Option D} {fa : Rho → WD (List D)} {xa : Rho → Option (List D)} {ga gb : Rho → WD Bool} {xga xgb : Rho → Option Bool} {op op' : D → D → WD D} {xop xop' : D → D → Option D} {u : D → WD D} {xu : D → Option D} {uF : D → WD (List D)} {xuF : D → Option (List D)} {cs : List D → WD D} {xcs : List D → Option D} {csF : List D → WD (List D)} {xcsF : List D → Option (List D)} {fd : Rho → WD (List (Key × D))} {xd : Rho → Option (List (Key × D))} {fo fo' : Rho → WD (Option Int)} {xo xo' : Rho → Option (Option Int)}
def xeVar (i : Nat) : Rho → Option D := fun ρ => (ρ[i]?).bind id
theorem keVar (i : Nat) : KE (eVar i) (xeVar i) := fun ρ a h Q E q => by
  obtain ⟨o, h1, h2⟩ := bind_some h
  rw [zaq, h1, show o = some a from h2]
  exact q
def xeC (d : D) : Rho → Option D := fun _ => some d
theorem keC (d : D) : KE (eC d) (xeC d) := fun ρ a h Q E q => by
  cases h
  exact q
def xeOp (op : D → D → Option D) (f g : Rho → Option D) : Rho → Option D := fun ρ => (f ρ).bind fun a => (g ρ).bind fun b => op a b
theorem keOp (ho : KO op xop) (hf : KE f xf) (hg : KE g xg) : KE (eOp op f g) (xeOp xop xf xg) := fun ρ c h Q E q => by
  obtain ⟨a, h1, h⟩ := bind_some h
  obtain ⟨b, h2, h⟩ := bind_some h
  exact hf ρ a h1 _ E (hg ρ b h2 _ E (ho a b c h Q E q))
def xeUn (u : D → Option D) (f : Rho → Option D) : Rho → Option D := fun ρ => (f ρ).bind u
theorem keUn (hu : KU u xu) (hf : KE f xf) : KE (eUn u f) (xeUn xu xf) := fun ρ c h Q E q => by
  obtain ⟨a, h1, h⟩ := bind_some h
  exact hf ρ a h1 _ E (hu a c h Q E q)
def xeUn1 (u : D → Option D) (f : Rho → Option D) : Rho → Option D := fun ρ => (f ρ).bind u
theorem keUn1 (hu : KU u xu) (hf : KE f xf) : KE (eUn1 u f) (xeUn1 xu xf) := fun ρ c h Q E q => by
  obtain ⟨a, h1, h⟩ := bind_some h
  exact hf ρ a h1 _ E (hu a c h Q E q)
def xeUnF (u : D → Option (List D)) (f : Rho → Option D) : Rho → Option (List D) := fun ρ => (f ρ).bind u
theorem keUnF (hu : KU uF xuF) (hf : KE f xf) : KE (eUnF uF f) (xeUnF xuF xf) := fun ρ c h Q E q => by
  obtain ⟨a, h1, h⟩ := bind_some h
  exact hf ρ a h1 _ E (hu a c h Q E q)
def xaNil : Rho → Option (List D) := fun _ => some []
theorem kaNil : KE aNil xaNil := fun ρ a h Q E q => by
  cases h
  exact q
def xaCons (f : Rho → Option D) (g : Rho → Option (List D)) : Rho → Option (List D) := fun ρ => (f ρ).bind fun a => (g ρ).bind fun r => some (a :: r)
theorem kaCons (hf : KE f xf) (hg : KE fa xa) : KE (aCons f fa) (xaCons xf xa) := fun ρ c h Q E q => by
  obtain ⟨a, h1, h⟩ := bind_some h
  obtain ⟨b, h2, h⟩ := bind_some h
  cases h
  exact hf ρ a h1 _ E (hg ρ b h2 _ E q)
def xeTup (f : Rho → Option (List D)) : Rho → Option D := fun ρ => (f ρ).bind fun ds => xif (ds.length ≤ 16777216) (some (.tuple ds))
theorem keTup (hf : KE fa xa) : KE (eTup fa) (xeTup xa) := fun ρ c h Q E q => by
  obtain ⟨a, h1, h⟩ := bind_some h
  obtain ⟨h2, h⟩ := xif_some h
  cases h
  exact hf ρ a h1 _ E ⟨h2, q⟩
def xeLst (f : Rho → Option (List D)) : Rho → Option (List D) := fun ρ => (f ρ).bind fun ds => xif (ds.length ≤ 16777216) (some ds)
theorem keLst (hf : KE fa xa) : KE (eLst fa) (xeLst xa) := fun ρ c h Q E q => by
  obtain ⟨a, h1, h⟩ := bind_some h
  obtain ⟨h2, h⟩ := xif_some h
  cases h
  exact hf ρ _ h1 _ E ⟨h2, q⟩
def xeOfF (f : Rho → Option (List D)) : Rho → Option D := fun ρ => (f ρ).bind fun ds => some (.list ds)
theorem keOfF (hf : KE fa xa) : KE (eOfF fa) (xeOfF xa) := fun ρ c h Q E q => by
  obtain ⟨a, h1, h⟩ := bind_some h
  cases h
  exact hf ρ a h1 _ E q
def xeCb (c : List D → Option D) (f : Rho → Option (List D)) : Rho → Option D := fun ρ => (f ρ).bind c
theorem keCb (hc : KC cs xcs) (hf : KE fa xa) : KE (eCb cs fa) (xeCb xcs xa) := fun ρ c h Q E q => by
  obtain ⟨a, h1, h⟩ := bind_some h
  exact hf ρ a h1 _ E (hc a c h Q E q)
def xeCbF (c : List D → Option (List D)) (f : Rho → Option (List D)) : Rho → Option (List D) := fun ρ => (f ρ).bind c
theorem keCbF (hc : KC csF xcsF) (hf : KE fa xa) : KE (eCbF csF fa) (xeCbF xcsF xa) := fun ρ c h Q E q => by
  obtain ⟨a, h1, h⟩ := bind_some h
  exact hf ρ a h1 _ E (hc a c h Q E q)
def xone1 (u : D → Option D) : List D → Option D
  | [d] => u d
  | _ => none
theorem kone1 (hu : KU u xu) : KC (one1 u) (xone1 xu) := fun ds c h Q E q => by
  unfold xone1 at h
  split at h
  · exact hu _ c h Q E q
  · cases h
def xone1F (u : D → Option (List D)) : List D → Option (List D)
  | [d] => u d
  | _ => none
theorem kone1F (hu : KU uF xuF) : KC (one1F uF) (xone1F xuF) := fun ds c h Q E q => by
  unfold xone1F at h
  split at h
  · exact hu _ c h Q E q
  · cases h
/-! tests -/
def boolD : D → Option Bool
  | .bool b => some b
  | _ => none
theorem boolD_some {d : D} {b : Bool} (h : boolD d = some b) : d = .bool b := by
  unfold boolD at h
  split at h
  · cases h
    rfl
  · cases h
def xtB1 (f : Rho → Option D) : Rho → Option Bool := fun ρ => (f ρ).bind boolD
theorem ktB1 (hf : KE f xf) : KE (tB1 f) (xtB1 xf) := fun ρ b h Q E q => by
  obtain ⟨a, h1, h⟩ := bind_some h
  cases boolD_some h
  exact hf ρ _ h1 _ E q
def xtTru (f : Rho → Option D) : Rho → Option Bool := fun ρ => (f ρ).bind truD
theorem ktTru (hf : KE f xf) : KE (tTru f) (xtTru xf) := fun ρ b h Q E q => by
  obtain ⟨a, h1, h⟩ := bind_some h
  rw [zaM]
  refine hf ρ _ h1 _ E ?_
  unfold truK
  rw [h]
  exact q
def xtAndD (f g : Rho → Option Bool) : Rho → Option Bool := fun ρ => (f ρ).bind fun b => if b = true then g ρ else some false
theorem ktAndD (hf : KE ga xga) (hg : KE gb xgb) : KE (tAndD ga gb) (xtAndD xga xgb) := fun ρ b h Q E q => by
  obtain ⟨a, h1, h⟩ := bind_some h
  refine hf ρ a h1 _ E ?_
  show if a = true then _ else _
  split at h <;> rename_i e
  · rw [if_pos e]
    exact hg ρ b h Q E q
  · rw [if_neg e]
    cases h
    exact q
def xtOrD (f g : Rho → Option Bool) : Rho → Option Bool := fun ρ => (f ρ).bind fun b => if b = true then some true else g ρ
theorem ktOrD (hf : KE ga xga) (hg : KE gb xgb) : KE (tOrD ga gb) (xtOrD xga xgb) := fun ρ b h Q E q => by
  obtain ⟨a, h1, h⟩ := bind_some h
  refine hf ρ a h1 _ E ?_
  show if a = true then _ else _
  split at h <;> rename_i e
  · rw [if_pos e]
    cases h
    exact q
  · rw [if_neg e]
    exact hg ρ b h Q E q
def xtNotD (f : Rho → Option Bool) : Rho → Option Bool := fun ρ => (f ρ).bind fun b => some (!b)
theorem ktNotD (hf : KE ga xga) : KE (tNotD ga) (xtNotD xga) := fun ρ b h Q E q => by
  obtain ⟨a, h1, h⟩ := bind_some h
  cases h
  exact hf ρ a h1 _ E q
def xtYesD : Rho → Option Bool := fun _ => some true
theorem ktYesD : KE tYesD xtYesD := fun ρ b h Q E q => by
  cases h
  exact q
def xeIf (c : Rho → Option Bool) (f g : Rho → Option D) : Rho → Option D := fun ρ => (c ρ).bind fun b => if b = true then f ρ else g ρ
theorem keIf (hc : KE ga xga) (hf : KE f xf) (hg : KE g xg) : KE (eIf ga f g) (xeIf xga xf xg) := fun ρ d h Q E q => by
  obtain ⟨a, h1, h⟩ := bind_some h
  refine hc ρ a h1 _ E ?_
  show if a = true then _ else _
  split at h <;> rename_i e
  · rw [if_pos e]
    exact hf ρ d h Q E q
  · rw [if_neg e]
    exact hg ρ d h Q E q
def xeAnd (f g : Rho → Option D) : Rho → Option D := fun ρ => (f ρ).bind fun d => (boolD d).bind fun b => if b = true then g ρ else some (.bool false)
theorem keAnd (hf : KE f xf) (hg : KE g xg) : KE (eAnd f g) (xeAnd xf xg) := fun ρ d h Q E q => by
  obtain ⟨a, h1, h⟩ := bind_some h
  obtain ⟨b, h2, h'⟩ := bind_some h
  clear h
  obtain rfl := boolD_some h2
  have h := h'
  clear h'
  rw [zay]
  refine hf ρ _ h1 _ E ?_
  rw [zaz]
  split at h <;> rename_i e
  · rw [if_pos e]
    exact hg ρ d h Q E q
  · rw [if_neg e]
    cases h
    exact q
def xeOr (f g : Rho → Option D) : Rho → Option D := fun ρ => (f ρ).bind fun d => (boolD d).bind fun b => if b = true then some (.bool true) else g ρ
theorem keOr (hf : KE f xf) (hg : KE g xg) : KE (eOr f g) (xeOr xf xg) := fun ρ d h Q E q => by
  obtain ⟨a, h1, h⟩ := bind_some h
  obtain ⟨b, h2, h'⟩ := bind_some h
  clear h
  obtain rfl := boolD_some h2
  have h := h'
  clear h'
  rw [zaA]
  refine hf ρ _ h1 _ E ?_
  rw [zaB]
  split at h <;> rename_i e
  · rw [if_pos e]
    cases h
    exact q
  · rw [if_neg e]
    exact hg ρ d h Q E q
def xeNot (f : Rho → Option D) : Rho → Option D := fun ρ => (f ρ).bind fun d => (boolD d).bind fun b => some (.bool (!b))
theorem keNot (hf : KE f xf) : KE (eNot f) (xeNot xf) := fun ρ d h Q E q => by
  obtain ⟨a, h1, h⟩ := bind_some h
  obtain ⟨b, h2, h'⟩ := bind_some h
  clear h
  obtain rfl := boolD_some h2
  have h := h'
  clear h'
  cases h
  rw [zaC]
  exact hf ρ _ h1 _ E q
def xeChain (op op' : D → D → Option D) (f g h : Rho → Option D) : Rho → Option D := fun ρ => (f ρ).bind fun a => (g ρ).bind fun b => (op a b).bind fun c => (boolD c).bind fun k => if k = true then (h ρ).bind fun d => op' b d else some (.bool false)
theorem keChain (ho : KO op xop) (ho' : KO op' xop') (hf : KE f xf) (hg : KE g xg) (hc : KE fc xc) : KE (eChain op op' f g fc) (xeChain xop xop' xf xg xc) := fun ρ d h Q E q => by
  obtain ⟨a, h1, h⟩ := bind_some h
  obtain ⟨b, h2, h⟩ := bind_some h
  obtain ⟨c, h3, h⟩ := bind_some h
  obtain ⟨k, h4, h'⟩ := bind_some h
  clear h
  obtain rfl := boolD_some h4
  have h := h'
  clear h'
  rw [zaH]
  refine hf ρ a h1 _ E (hg ρ b h2 _ E (ho a b _ h3 _ E ?_))
  rw [zaL]
  split at h <;> rename_i e
  · rw [if_pos e]
    obtain ⟨d', h5, h⟩ := bind_some h
    exact hc ρ d' h5 _ E (ho' b d' d h Q E q)
  · rw [if_neg e]
    cases h
    exact q
/-! the plain operations -/
def xint0 (g : Int → Int → D) : D → D → Option D
  | .int i, .int j => some (g i j)
  | _, _ => none
theorem kint0 (g : Int → Int → D) : KO (int0 g) (xint0 g) := fun a b c h Q E q => by
  unfold xint0 at h
  split at h
  · cases h
    exact q
  · cases h
def xsubD := xint0 fun i j => .int (i - j)
theorem ksubD : KO subD xsubD := kint0 _
def xltD := xint0 fun i j => .bool (decide (i < j))
theorem kltD : KO ltD xltD := kint0 _
def xleD := xint0 fun i j => .bool (decide (i ≤ j))
theorem kleD : KO leD xleD := kint0 _
def xgtD := xint0 fun i j => .bool (decide (j < i))
theorem kgtD : KO gtD xgtD := kint0 _
def xgeD := xint0 fun i j => .bool (decide (j ≤ i))
theorem kgeD : KO geD xgeD := kint0 _
def xaddD : D → D → Option D
  | .int i, .int j => some (.int (i + j))
  | .tuple xs, .tuple ys => xif (xs.length + ys.length ≤ 16777216) (some (.tuple (xs ++ ys)))
  | .list xs, .list ys => xif (xs.length + ys.length ≤ 16777216) (some (.list (xs ++ ys)))
  | _, _ => none
theorem kaddD : KO addD xaddD := fun a b c h Q E q => by
  unfold xaddD at h
  split at h
  · cases h
    exact q
  · obtain ⟨h1, h⟩ := xif_some h
    cases h
    exact ⟨h1, q⟩
  · obtain ⟨h1, h⟩ := xif_some h
    cases h
    exact ⟨h1, q⟩
  · cases h
def xmulD : D → D → Option D
  | .int i, .int j => xif (-(2 ^ 64) < i ∧ i < 2 ^ 64) (some (.int (i * j)))
  | .tuple xs, .int k => xif (xs.isEmpty = false ∧ 2 ≤ k ∧ k ≤ 1000 ∧ xs.length ≤ 1000) (some (.tuple (List.replicate k.toNat xs).flatten))
  | _, _ => none
theorem kmulD : KO mulD xmulD := fun a b c h Q E q => by
  unfold xmulD at h
  split at h
  · obtain ⟨h1, h⟩ := xif_some h
    cases h
    exact ⟨.inl h1, q⟩
  · obtain ⟨⟨h1, h2, h3, h4⟩, h⟩ := xif_some h
    cases h
    refine ⟨?_, h2, h3, h4, q⟩
    intro z
    rw [z] at h1
    cases h1
  · cases h
def xfdivD : D → D → Option D
  | .int i, .int j => xif (0 < j ∧ j < 1073741824) (some (.int (i / j)))
  | _, _ => none
theorem kfdivD : KO fdivD xfdivD := fun a b c h Q E q => by
  unfold xfdivD at h
  split at h
  · obtain ⟨h1, h⟩ := xif_some h
    cases h
    exact ⟨h1, q⟩
  · cases h
def xmodD : D → D → Option D
  | .int i, .int j => xif (0 < j) (some (.int (i % j)))
  | _, _ => none
theorem kmodD : KO modD xmodD := fun a b c h Q E q => by
  unfold xmodD at h
  split at h
  · obtain ⟨h1, h⟩ := xif_some h
    cases h
    exact ⟨h1, q⟩
  · cases h
def xnegD : D → Option D
  | .int i => some (.int (-i))
  | _ => none
theorem knegD : KU negD xnegD := fun d c h Q E q => by
  unfold xnegD at h
  split at h
  · cases h
    exact q
  · cases h
def xeqD (neg : Bool) (a b : D) : Option D := xif (SeqAt.shaped a = true ∧ SeqAt.shaped b = true) (some (.bool (PyData.eqv a b != neg)))
theorem keqD (neg : Bool) : KO (eqD neg) (xeqD neg) := fun a b c h Q E q => by
  obtain ⟨⟨h1, h2⟩, h⟩ := xif_some h
  cases h
  exact ⟨h1, h2, q⟩
def xinD (neg : Bool) (d : D) : D → Option D
  | .list ds => xif (SeqAt.shaped d = true ∧ SeqAt.shaped (.list ds) = true) (some (.bool ((ds.any fun z => PyData.eqv z d) != neg)))
  | .tuple ds => xif (SeqAt.shaped d = true ∧ SeqAt.shaped (.tuple ds) = true) (some (.bool ((ds.any fun z => PyData.eqv z d) != neg)))
  | _ => none
theorem kinD (neg : Bool) : KO (inD neg) (xinD neg) := fun a b c h Q E q => by
  unfold xinD at h
  split at h
  · obtain ⟨⟨h1, h2⟩, h⟩ := xif_some h
    cases h
    rw [zaY]
    exact ⟨h1, h2, q⟩
  · obtain ⟨⟨h1, h2⟩, h⟩ := xif_some h
    cases h
    rw [zaX]
    exact ⟨h1, h2, q⟩
  · cases h
def xisND (neg : Bool) : D → D → Option D
  | d, .none => some (.bool (noneD d != neg))
  | _, _ => none
theorem kisND (neg : Bool) : KO (isND neg) (xisND neg) := fun a b c h Q E q => by
  unfold xisND at h
  split at h
  · cases h
    cases a <;> first | exact q | simp_all
  · cases h
def xidxD : D → D → Option D
  | .list xs, .int i => atI xs i
  | .tuple xs, .int i => atI xs i
  | _, _ => none
theorem kidxD : KO idxD xidxD := fun a b c h Q E q => by
  unfold xidxD at h
  split at h
  · rw [zba, h]
    exact q
  · rw [zaZ, h]
    exact q
  · cases h
def xdgetD : D → D → Option D
  | .dict l, k => (keyOf k).bind fun k => dlook l k
  | _, _ => none
theorem kdgetD : KO dgetD xdgetD := fun a b c h Q E q => by
  unfold xdgetD at h
  split at h
  · obtain ⟨k, h1, h⟩ := bind_some h
    show orStuck (keyOf _) _
    rw [h1]
    show orStuck (dlook _ _) _
    rw [h]
    exact q
  · cases h
def xlenD : D → Option D
  | .list xs => some (.int xs.length)
  | .tuple xs => some (.int xs.length)
  | _ => none
theorem klenD : KU lenD xlenD := fun d c h Q E q => by
  unfold xlenD at h
  split at h
  · cases h
    exact q
  · cases h
    exact q
  · cases h
def xtupleD : D → Option D
  | .list xs => some (.tuple xs)
  | .tuple xs => some (.tuple xs)
  | _ => none
theorem ktupleD : KU tupleD xtupleD := fun d c h Q E q => by
  unfold xtupleD at h
  split at h
  · cases h
    exact q
  · cases h
    exact q
  · cases h
def xlistD : D → Option (List D)
  | .list xs => some xs
  | .tuple xs => some xs
  | _ => none
theorem klistD : KU listD xlistD := fun d c h Q E q => by
  unfold xlistD at h
  split at h
  · cases h
    exact q
  · cases h
    exact q
  · cases h
def xisiD (T : String) (d : D) : Option D := ((tyD d).bind fun t => kitB t T).bind fun b => some (.bool b)
theorem kisiD (T : String) : KU (isiD T) (xisiD T) := fun d c h Q E q => by
  obtain ⟨b, h1, h⟩ := bind_some h
  cases h
  show orStuck _ _
  rw [h1]
  exact q
def xallD : D → Option D
  | .list xs => (boolsD xs).bind fun bs => some (.bool (bs.all id))
  | _ => none
theorem kallD : KU allD xallD := fun d c h Q E q => by
  unfold xallD at h
  split at h
  · obtain ⟨bs, h1, h⟩ := bind_some h
    cases h
    show orStuck _ _
    rw [h1]
    exact q
  · cases h
def xanyD : D → Option D
  | .list xs => (boolsD xs).bind fun bs => some (.bool (bs.any id))
  | _ => none
theorem kanyD : KU anyD xanyD := fun d c h Q E q => by
  unfold xanyD at h
  split at h
  · obtain ⟨bs, h1, h⟩ := bind_some h
    cases h
    show orStuck _ _
    rw [h1]
    exact q
  · cases h
def xrng1 : List D → Option (List D)
  | [.int n] => xif (n < 2 ^ 62 ∧ -(2 ^ 62) ≤ n) (some (upTo 0 n.toNat))
  | _ => none
theorem krng1 : KC rng1 xrng1 := fun d c h Q E q => by
  unfold xrng1 at h
  split at h
  · obtain ⟨⟨h1, h2⟩, h⟩ := xif_some h
    cases h
    exact ⟨h1, h2, q⟩
  · cases h
def xrng2 : List D → Option (List D)
  | [.int a, .int b] => xif (-(2 ^ 62) ≤ a ∧ a < 2 ^ 62 ∧ -(2 ^ 62) ≤ b ∧ b < 2 ^ 62) (some (upTo a (b - a).toNat))
  | _ => none
theorem krng2 : KC rng2 xrng2 := fun d c h Q E q => by
  unfold xrng2 at h
  split at h
  · obtain ⟨h1, h⟩ := xif_some h
    cases h
    exact ⟨h1, q⟩
  · cases h
def xrgLD : D → Option (List D)
  | .int n => xif (-(2 ^ 62) ≤ n ∧ n ≤ 16777216) (some (upTo 0 n.toNat))
  | _ => none
theorem krgLD : KU rgLD xrgLD := fun d c h Q E q => by
  unfold xrgLD at h
  split at h
  · obtain ⟨h1, h⟩ := xif_some h
    cases h
    exact ⟨h1, q⟩
  · cases h
def xsItems (f : Rho → Option D) : Rho → Option (List D) := fun ρ => (f ρ).bind xlistD
theorem ksItems (hf : KE f xf) : KE (sItems f) (xsItems xf) := fun ρ c h Q E q => by
  obtain ⟨a, h1, h⟩ := bind_some h
  refine hf ρ a h1 _ E ?_
  unfold xlistD at h
  split at h
  · cases h
    exact q
  · cases h
    exact q
  · cases h
def xoNone : Rho → Option (Option Int) := fun _ => some none
theorem koNone : KE oNone xoNone := fun ρ c h Q E q => by
  cases h
  exact q
def xoSome (f : Rho → Option D) : Rho → Option (Option Int) := fun ρ => (f ρ).bind fun d => match d with
  | .int i => some (some i)
  | _ => none
theorem koSome (hf : KE f xf) : KE (oSome f) (xoSome xf) := fun ρ c h Q E q => by
  obtain ⟨a, h1, h⟩ := bind_some h
  refine hf ρ a h1 _ E ?_
  split at h
  · cases h
    exact q
  · cases h
def xeSl (f : Rho → Option D) (g h : Rho → Option (Option Int)) : Rho → Option D := fun ρ => (f ρ).bind fun d => (g ρ).bind fun lo => (h ρ).bind fun hi => match d with
  | .list xs => some (.list (cutL xs lo hi))
  | .tuple xs => some (.tuple (cutL xs lo hi))
  | _ => none
theorem keSl (hf : KE f xf) (hg : KE fo xo) (hh : KE fo' xo') : KE (eSl f fo fo') (xeSl xf xo xo') := fun ρ c h Q E q => by
  obtain ⟨a, h1, h⟩ := bind_some h
  obtain ⟨lo, h2, h⟩ := bind_some h
  obtain ⟨hi, h3, h⟩ := bind_some h
  refine hf ρ a h1 _ E (hg ρ lo h2 _ E (hh ρ hi h3 _ E ?_))
  split at h
  · cases h
    exact q
  · cases h
    exact q
  · cases h
/-! dicts -/
def xpNil : Rho → Option (List (Key × D)) := fun _ => some []
theorem kpNil : KE pNil xpNil := fun ρ c h Q E q => by
  cases h
  exact q
def xpCons (f g : Rho → Option D) (r : Rho → Option (List (Key × D))) : Rho → Option (List (Key × D)) := fun ρ => (f ρ).bind fun k => (keyOf k).bind fun k => (g ρ).bind fun d => (r ρ).bind fun ds => some ((k, d) :: ds)
theorem kpCons (hf : KE f xf) (hg : KE g xg) (hr : KE fd xd) : KE (pCons f g fd) (xpCons xf xg xd) := fun ρ c h Q E q => by
  obtain ⟨a, h1, h⟩ := bind_some h
  obtain ⟨k, h2, h⟩ := bind_some h
  obtain ⟨d, h3, h⟩ := bind_some h
  obtain ⟨r, h4, h⟩ := bind_some h
  cases h
  rw [zbS]
  refine hf ρ a h1 _ E ?_
  rw [h2]
  exact hg ρ d h3 _ E (hr ρ r h4 _ E q)
def xdDisp (f : Rho → Option (List (Key × D))) : Rho → Option (List (Key × D)) := fun ρ => (f ρ).bind fun ds => some (mergeG [] ds)
theorem kdDisp (hr : KE fd xd) : KE (dDisp fd) (xdDisp xd) := fun ρ c h Q E q => by
  obtain ⟨r, h4, h⟩ := bind_some h
  cases h
  exact hr ρ r h4 _ E q
def xeOfD (f : Rho → Option (List (Key × D))) : Rho → Option D := fun ρ => (f ρ).bind fun ds => some (dictE ds)
theorem keOfD (hr : KE fd xd) : KE (eOfD fd) (xeOfD xd) := fun ρ c h Q E q => by
  obtain ⟨r, h4, h⟩ := bind_some h
  cases h
  exact hr ρ r h4 _ E q
/-! comprehensions -/
def xlcLoop (step : D → Option (Option D)) : List D → List D → Option (List D)
  | [], acc => some acc
  | x :: xs, acc => (step x).bind fun o => xlcLoop step xs (match o with | some y => acc ++ [y] | none => acc)
def xlcStep (T : Tg) (vs : List Nat) (ft : Rho → Option Bool) (fe : Rho → Option D) (ρ : Rho) : D → Option (Option D) := fun x => (bindT T x).bind fun l => (ft (setAll (wipeR ρ vs) l)).bind fun b => if b = true then (fe (setAll (wipeR ρ vs) l)).bind fun y => some (some y) else some none
theorem klcLoop {T : Tg} {vs : List Nat} {ρ : Rho} (ht : KE ga xga) (hf : KE f xf) {Q : List D → Prop} : ∀ {xs acc r : List D}, xlcLoop (xlcStep T vs xga xf ρ) xs acc = some r → Q r → lcLoop (lcStep T vs ga f ρ) xs acc Q
  | [], acc, r, h, q => by
    cases h
    exact q
  | x :: xs, acc, r, h, q => by
    obtain ⟨o, h1, h⟩ := bind_some h
    obtain ⟨l, h2, h1⟩ := bind_some h1
    obtain ⟨b, h3, h1⟩ := bind_some h1
    unfold lcLoop
    rw [zco, h2]
    refine ht _ b h3 _ _ ?_
    show if b = true then _ else _
    split at h1 <;> rename_i e
    · rw [if_pos e]
      obtain ⟨y, h4, h1⟩ := bind_some h1
      cases h1
      exact hf _ y h4 _ _ (klcLoop ht hf h q)
    · rw [if_neg e]
      cases h1
      exact klcLoop ht hf h q
def xeLc (fi : Rho → Option (List D)) (T : Tg) (vs : List Nat) (ft : Rho → Option Bool) (fe : Rho → Option D) : Rho → Option (List D) := fun ρ => (fi ρ).bind fun xs => xif (xs.length ≤ 1000000) (xlcLoop (xlcStep T vs ft fe ρ) xs [])
theorem keLc (hi : KE fa xa) (T : Tg) (vs : List Nat) (ht : KE ga xga) (hf : KE f xf) : KE (eLc fa T vs ga f) (xeLc xa T vs xga xf) := fun ρ c h Q E q => by
  obtain ⟨xs, h1, h⟩ := bind_some h
  obtain ⟨h2, h⟩ := xif_some h
  exact hi ρ xs h1 _ E ⟨h2, klcLoop ht hf h q⟩
variable {fi1 : Rho → WD (List D)} {xi1 : Rho → Option (List D)}
def xlcLoop2 (T : Tg) (vs : List Nat) (ft : Rho → Option Bool) (fi1 : Rho → Option (List D)) (T1 : Tg) (vs1 : List Nat) (ft1 : Rho → Option Bool) (fe : Rho → Option D) (ρ : Rho) : List D → List D → Option (List D)
  | [], acc => some acc
  | x :: xs, acc => (bindT T x).bind fun l => (ft (setAll (wipeR ρ vs) l)).bind fun b => if b = true then (fi1 (setAll (wipeR ρ vs) l)).bind fun ys => xif (acc.length + ys.length ≤ 1000000) ((xlcLoop (xlcStep T1 vs1 ft1 fe (setAll (wipeR ρ vs) l)) ys acc).bind fun acc' => xlcLoop2 T vs ft fi1 T1 vs1 ft1 fe ρ xs acc')
      else xlcLoop2 T vs ft fi1 T1 vs1 ft1 fe ρ xs acc
theorem klcLoop2 {T T1 : Tg} {vs vs1 : List Nat} {ρ : Rho} (ht : KE ga xga) (hi : KE fi1 xi1) (ht1 : KE gb xgb) (hf : KE f xf) {Q : List D → Prop} : ∀ {xs acc r : List D}, xlcLoop2 T vs xga xi1 T1 vs1 xgb xf ρ xs acc = some r → Q r → lcLoop2 T vs ga fi1 T1 vs1 gb f ρ xs acc Q
  | [], acc, r, h, q => by
    cases h
    exact q
  | x :: xs, acc, r, h, q => by
    obtain ⟨l, h2, h⟩ := bind_some h
    obtain ⟨b, h3, h⟩ := bind_some h
    unfold lcLoop2
    rw [h2]
    refine ht _ b h3 _ _ ?_
    show if b = true then _ else _
    split at h <;> rename_i e
    · rw [if_pos e]
      obtain ⟨ys, h4, h⟩ := bind_some h
      obtain ⟨h5, h⟩ := xif_some h
      obtain ⟨acc', h6, h⟩ := bind_some h
      exact hi _ ys h4 _ _ ⟨h5, klcLoop ht1 hf h6 (klcLoop2 ht hi ht1 hf h q)⟩
    · rw [if_neg e]
      exact klcLoop2 ht hi ht1 hf h q
def xeLc2 (fi : Rho → Option (List D)) (T : Tg) (vs : List Nat) (ft : Rho → Option Bool) (fi1 : Rho → Option (List D)) (T1 : Tg) (vs1 : List Nat) (ft1 : Rho → Option Bool) (fe : Rho → Option D) : Rho → Option (List D) := fun ρ => (fi ρ).bind fun xs => xlcLoop2 T vs ft fi1 T1 vs1 ft1 fe ρ xs []
theorem keLc2 (hi : KE fa xa) (T : Tg) (vs : List Nat) (ht : KE ga xga) (hi1 : KE fi1 xi1) (T1 : Tg) (vs1 : List Nat) (ht1 : KE gb xgb) (hf : KE f xf) : KE (eLc2 fa T vs ga fi1 T1 vs1 gb f) (xeLc2 xa T vs xga xi1 T1 vs1 xgb xf) := fun ρ c h Q E q => by
  obtain ⟨xs, h1, h⟩ := bind_some h
  exact hi ρ xs h1 _ E (klcLoop2 ht hi1 ht1 hf h q)
/-! ### statements -/
inductive Out where
  | nx (Γ : Env) | rt (d : D) | bk (Γ : Env) | ct (Γ : Env)
def fits (k : KS) : Out → Prop
  | .nx Γ => k.nx Γ
  | .rt d => k.rt d
  | .bk Γ => k.bk Γ
  | .ct Γ => k.ct Γ
abbrev XS := Env → Option Out
abbrev KSt (F : FS) (x : XS) : Prop := ∀ Γ o, x Γ = some o → ∀ k, fits k o → F Γ k
variable {F G : FS} {xF xG : XS}
def xsNext : XS := fun Γ => some (.nx Γ)
theorem ksNext : KSt sNext xsNext := fun Γ o h k q => by
  cases h
  exact q
def xsBreak : XS := fun Γ => some (.bk Γ)
theorem ksBreak : KSt sBreak xsBreak := fun Γ o h k q => by
  cases h
  exact q
def xsCont : XS := fun Γ => some (.ct Γ)
theorem ksCont : KSt sCont xsCont := fun Γ o h k q => by
  cases h
  exact q
def xsNever : XS := fun _ => none
theorem ksNever : KSt sNever xsNever := fun Γ o h k q => by cases h
def xsSeq (F G : XS) : XS := fun Γ => (F Γ).bind fun o => match o with
  | .nx Γ' => G Γ'
  | o => some o
theorem ksSeq (hF : KSt F xF) (hG : KSt G xG) : KSt (sSeq F G) (xsSeq xF xG) := fun Γ o h k q => by
  obtain ⟨o1, h1, h⟩ := bind_some h
  refine hF Γ o1 h1 _ ?_
  split at h
  · exact hG _ o h k q
  · rename_i ne
    cases h
    cases o with
    | nx Γ' => exact absurd rfl (ne Γ')
    | rt d => exact q
    | bk Γ' => exact q
    | ct Γ' => exact q
def xsIf (c : Rho → Option Bool) (F G : XS) : XS := fun Γ => (c (full Γ)).bind fun b => if b = true then F Γ else G Γ
theorem ksIf (hc : KE ga xga) (hF : KSt F xF) (hG : KSt G xG) : KSt (sIf ga F G) (xsIf xga xF xG) := fun Γ o h k q => by
  obtain ⟨b, h1, h⟩ := bind_some h
  refine hc _ b h1 _ _ ?_
  show if b = true then _ else _
  split at h <;> rename_i e
  · rw [if_pos e]
    exact hF Γ o h k q
  · rw [if_neg e]
    exact hG Γ o h k q
def xsRet (f : Rho → Option D) : XS := fun Γ => (f (full Γ)).bind fun d => some (.rt d)
theorem ksRet (hf : KE f xf) : KSt (sRet f) (xsRet xf) := fun Γ o h k q => by
  obtain ⟨d, h1, h⟩ := bind_some h
  cases h
  exact hf _ d h1 _ _ q
def xsRetN : XS := fun _ => some (.rt .none)
theorem ksRetN : KSt sRetN xsRetN := fun Γ o h k q => by
  cases h
  exact q
def xsSet (i : Nat) (f : Rho → Option D) : XS := fun Γ => (f (clean Γ)).bind fun d => some (.nx (Γ.set i (some (.val d))))
theorem ksSet (i : Nat) (hf : KE f xf) : KSt (sSet i f) (xsSet i xf) := fun Γ o h k q => by
  obtain ⟨d, h1, h⟩ := bind_some h
  cases h
  exact hf _ d h1 _ _ q
def xsSetP (i : Nat) (f : Rho → Option D) : XS := fun Γ => (f (full Γ)).bind fun d => xif (pureD d = true) (some (.nx (Γ.set i (some (.val d)))))
theorem ksSetP (i : Nat) (hf : KE f xf) : KSt (sSetP i f) (xsSetP i xf) := fun Γ o h k q => by
  obtain ⟨d, h1, h⟩ := bind_some h
  obtain ⟨h2, h⟩ := xif_some h
  cases h
  exact hf _ d h1 _ _ ⟨h2, q⟩
def xsSetF (i : Nat) (f : Rho → Option (List D)) : XS := fun Γ => (f (clean Γ)).bind fun d => some (.nx (Γ.set i (some (.own (.lst d)))))
theorem ksSetF (i : Nat) (hf : KE fa xa) : KSt (sSetF i fa) (xsSetF i xa) := fun Γ o h k q => by
  obtain ⟨d, h1, h⟩ := bind_some h
  cases h
  exact hf _ d h1 _ _ q
def xsSetFP (i : Nat) (f : Rho → Option (List D)) : XS := fun Γ => (f (full Γ)).bind fun d => xif (pureD.pureAll d = true) (some (.nx (Γ.set i (some (.own (.lst d))))))
theorem ksSetFP (i : Nat) (hf : KE fa xa) : KSt (sSetFP i fa) (xsSetFP i xa) := fun Γ o h k q => by
  obtain ⟨d, h1, h⟩ := bind_some h
  obtain ⟨h2, h⟩ := xif_some h
  cases h
  exact hf _ d h1 _ _ ⟨h2, q⟩
def xsSetD (i : Nat) (f : Rho → Option (List (Key × D))) : XS := fun Γ => (f (clean Γ)).bind fun d => some (.nx (Γ.set i (some (.own (.dct d)))))
theorem ksSetD (i : Nat) (hf : KE fd xd) : KSt (sSetD i fd) (xsSetD i xd) := fun Γ o h k q => by
  obtain ⟨d, h1, h⟩ := bind_some h
  cases h
  exact hf _ d h1 _ _ q
def xsDrop (f : Rho → Option D) : XS := fun Γ => (f (full Γ)).bind fun _ => some (.nx Γ)
theorem ksDrop (hf : KE f xf) : KSt (sDrop f) (xsDrop xf) := fun Γ o h k q => by
  obtain ⟨d, h1, h⟩ := bind_some h
  cases h
  exact hf _ d h1 _ _ q
def xsTgt (T : Tg) (f : Rho → Option D) : XS := fun Γ => (f (clean Γ)).bind fun d => (bindT T d).bind fun l => some (.nx (setV Γ l))
theorem ksTgt (T : Tg) (hf : KE f xf) : KSt (sTgt T f) (xsTgt T xf) := fun Γ o h k q => by
  obtain ⟨d, h1, h⟩ := bind_some h
  obtain ⟨l, h2, h⟩ := bind_some h
  cases h
  refine hf _ d h1 _ _ ?_
  rw [h2]
  exact q
def xsTgtP (T : Tg) (f : Rho → Option D) : XS := fun Γ => (f (full Γ)).bind fun d => (bindT T d).bind fun l => xif (pureD d = true) (some (.nx (setV Γ l)))
theorem ksTgtP (T : Tg) (hf : KE f xf) : KSt (sTgtP T f) (xsTgtP T xf) := fun Γ o h k q => by
  obtain ⟨d, h1, h⟩ := bind_some h
  obtain ⟨l, h2, h⟩ := bind_some h
  obtain ⟨h3, h⟩ := xif_some h
  cases h
  refine hf _ d h1 _ _ ⟨h3, ?_⟩
  rw [h2]
  exact q
def xpar (i j : Nat) (Γ : Env) : List D → Option Out
  | [d, e] => some (.nx ((Γ.set i (some (.val d))).set j (some (.val e))))
  | _ => none
def xsPar (i j : Nat) (f : Rho → Option (List D)) : XS := fun Γ => (f (clean Γ)).bind (xpar i j Γ)
theorem ksPar (i j : Nat) (hf : KE fa xa) : KSt (sPar i j fa) (xsPar i j xa) := fun Γ o h k q => by
  obtain ⟨d, h1, h⟩ := bind_some h
  rw [zam]
  refine hf _ d h1 _ _ ?_
  unfold xpar at h
  split at h
  · cases h
    exact q
  · cases h
def augI : Option (Option D) → Option Int
  | some (some (.int a)) => some a
  | _ => none
theorem augI_some {o : Option (Option D)} {a : Int} (h : augI o = some a) : o = some (some (.int a)) := by
  unfold augI at h
  split at h
  · cases h
    rfl
  · cases h
def intI : D → Option Int
  | .int a => some a
  | _ => none
theorem intI_some {d : D} {a : Int} (h : intI d = some a) : d = .int a := by
  unfold intI at h
  split at h
  · cases h
    rfl
  · cases h
def xsAug (i : Nat) (g : Int → Int → Int) (f : Rho → Option D) : XS := fun Γ => (augI (full Γ)[i]?).bind fun a => (f (full Γ)).bind fun d => (intI d).bind fun b => some (.nx (Γ.set i (some (.val (.int (g a b))))))
theorem ksAug (i : Nat) (g : Int → Int → Int) (hf : KE f xf) : KSt (sAug i g f) (xsAug i g xf) := fun Γ o h k q => by
  obtain ⟨a, h1, h2⟩ := bind_some h
  obtain ⟨d, h3, h4⟩ := bind_some h2
  obtain ⟨b, h5, h6⟩ := bind_some h4
  obtain rfl := intI_some h5
  obtain rfl := Option.some.inj h6
  unfold sAug
  rw [augI_some h1]
  exact hf _ _ h3 _ _ q
def xown (i : Nat) (Γ : Env) : Option (List D) := match Γ[i]? with
  | some (some (.own (.lst xs))) => some xs
  | _ => none
theorem xown_at {i : Nat} {Γ : Env} {xs : List D} (h : xown i Γ = some xs) : Γ[i]? = some (some (.own (.lst xs))) := by
  unfold xown at h
  split at h
  · rename_i e
    cases h
    exact e
  · cases h
theorem xown_some {i : Nat} {Γ : Env} {xs : List D} (h : xown i Γ = some xs) (Q : List D → Prop) (q : Q xs) : ownAt Γ i Q := by
  unfold ownAt
  rw [xown_at h]
  exact q
def xsApp (i : Nat) (f : Rho → Option D) : XS := fun Γ => (xown i Γ).bind fun xs => (f (clean Γ)).bind fun d => xif (xs.length < 1000000) (some (.nx (Γ.set i (some (.own (.lst (xs ++ [d])))))))
theorem ksApp (i : Nat) (hf : KE f xf) : KSt (sApp i f) (xsApp i xf) := fun Γ o h k q => by
  obtain ⟨xs, h1, h⟩ := bind_some h
  obtain ⟨d, h2, h⟩ := bind_some h
  obtain ⟨h3, h⟩ := xif_some h
  cases h
  exact xown_some h1 _ (hf _ d h2 _ _ ⟨h3, q⟩)
def xsAppP (i : Nat) (f : Rho → Option D) : XS := fun Γ => (xown i Γ).bind fun xs => (f (full Γ)).bind fun d => xif (pureD d = true ∧ xs.length < 1000000) (some (.nx (Γ.set i (some (.own (.lst (xs ++ [d])))))))
theorem ksAppP (i : Nat) (hf : KE f xf) : KSt (sAppP i f) (xsAppP i xf) := fun Γ o h k q => by
  obtain ⟨xs, h1, h⟩ := bind_some h
  obtain ⟨d, h2, h⟩ := bind_some h
  obtain ⟨⟨h3, h4⟩, h⟩ := xif_some h
  cases h
  exact xown_some h1 _ (hf _ d h2 _ _ ⟨h3, h4, q⟩)
def xsFrz (i : Nat) (F : XS) : XS := fun Γ => F (frz i Γ)
theorem ksFrz (i : Nat) (hF : KSt F xF) : KSt (sFrz i F) (xsFrz i xF) := fun Γ o h k q => hF _ o h k q
def xfor (T : Tg) (F : XS) : List D → Env → Option Out
  | [], Γ => some (.nx Γ)
  | x :: xs, Γ => (bindT T x).bind fun l => (F (setV Γ l)).bind fun o => match o with
    | .nx Γ' => xfor T F xs Γ'
    | .ct Γ' => xfor T F xs Γ'
    | .bk Γ' => some (.nx Γ')
    | .rt d => some (.rt d)
theorem kfor {T : Tg} (hF : KSt F xF) {k : KS} : ∀ {xs : List D} {Γ : Env} {o : Out}, xfor T xF xs Γ = some o → fits k o → forLoop T F k xs Γ
  | [], Γ, o, h, q => by
    cases h
    exact q
  | x :: xs, Γ, o, h, q => by
    obtain ⟨l, h1, h⟩ := bind_some h
    obtain ⟨o1, h2, h⟩ := bind_some h
    unfold forLoop
    rw [h1]
    refine hF _ o1 h2 _ ?_
    split at h
    · exact kfor hF h q
    · exact kfor hF h q
    · cases h
      exact q
    · cases h
      exact q
def xsFor (fi : Rho → Option (List D)) (T : Tg) (F : XS) : XS := fun Γ => (fi (clean Γ)).bind fun xs => xfor T F xs Γ
theorem ksFor (hi : KE fa xa) (T : Tg) (hF : KSt F xF) : KSt (sFor fa T F) (xsFor xa T xF) := fun Γ o h k q => by
  obtain ⟨xs, h1, h⟩ := bind_some h
  exact hi _ xs h1 _ _ (kfor hF h q)
def xwh (c : Rho → Option Bool) (F : XS) : Nat → Env → Option Out
  | 0, _ => none
  | n + 1, Γ => (c (full Γ)).bind fun b => if b = true then (F Γ).bind fun o => match o with
    | .nx Γ' => xwh c F n Γ'
    | .ct Γ' => xwh c F n Γ'
    | .bk Γ' => some (.nx Γ')
    | .rt d => some (.rt d) else some (.nx Γ)
theorem kwh (hc : KE ga xga) (hF : KSt F xF) {k : KS} : ∀ {n : Nat} {Γ : Env} {o : Out}, xwh xga xF n Γ = some o → fits k o → whLoop ga F k n Γ
  | 0, Γ, o, h, q => by cases h
  | n + 1, Γ, o, h, q => by
    obtain ⟨b, h1, h⟩ := bind_some h
    unfold whLoop
    refine hc _ b h1 _ _ ?_
    show if b = true then _ else _
    split at h <;> rename_i e
    · rw [if_pos e]
      obtain ⟨o1, h2, h⟩ := bind_some h
      refine hF _ o1 h2 _ ?_
      split at h
      · exact kwh hc hF h q
      · exact kwh hc hF h q
      · cases h
        exact q
      · cases h
        exact q
    · rw [if_neg e]
      cases h
      exact q
def xsWhile (c : Rho → Option Bool) (F : XS) : XS := fun Γ => xwh c F 200 Γ
theorem ksWhile (hc : KE ga xga) (hF : KSt F xF) : KSt (sWhile ga F) (xsWhile xga xF) := fun Γ o h k q => ⟨200, kwh hc hF h q⟩
def xfn0 (n : Nat) (F : XS) : List D → Option D := fun ds => (F (startE n ds)).bind fun o => match o with
  | .nx _ => some .none
  | .rt d => some d
  | _ => none
theorem kfn0 (n : Nat) (hF : KSt F xF) : KC (fn0 n F) (xfn0 n xF) := fun ds d h Q E q => by
  obtain ⟨o, h1, h⟩ := bind_some h
  refine hF _ o h1 _ ?_
  split at h
  · cases h
    exact q
  · cases h
    exact q
  · cases h
def xsParFF (i j : Nat) (f g : Rho → Option (List D)) : XS := fun Γ => (f (clean Γ)).bind fun xs => (g (clean Γ)).bind fun ys => some (.nx ((Γ.set i (some (.own (.lst xs)))).set j (some (.own (.lst ys)))))
theorem ksParFF (i j : Nat) (hf : KE fa xa) (hg : KE fi1 xi1) : KSt (sParFF i j fa fi1) (xsParFF i j xa xi1) := fun Γ o h k q => by
  obtain ⟨xs, h1, h⟩ := bind_some h
  obtain ⟨ys, h2, h⟩ := bind_some h
  cases h
  exact hf _ xs h1 _ _ (hg _ ys h2 _ _ q)
def xpar3 (i j m : Nat) (Γ : Env) : List D → Option Out
  | [d, e, c] => some (.nx (((Γ.set i (some (.val d))).set j (some (.val e))).set m (some (.val c))))
  | _ => none
def xsPar3 (i j m : Nat) (f : Rho → Option (List D)) : XS := fun Γ => (f (clean Γ)).bind (xpar3 i j m Γ)
theorem ksPar3 (i j m : Nat) (hf : KE fa xa) : KSt (sPar3 i j m fa) (xsPar3 i j m xa) := fun Γ o h k q => by
  obtain ⟨d, h1, h⟩ := bind_some h
  refine hf _ d h1 _ _ ?_
  unfold xpar3 at h
  split at h
  · cases h
    exact q
  · cases h
def xeStuck : Rho → Option D := fun _ => none
theorem keStuck : KE eStuck xeStuck := fun ρ a h Q E q => by cases h
def xzipD : List D → Option (List D)
  | [.list xs, .list ys] => some ((xs.zip ys).map fun p => .tuple [p.1, p.2])
  | _ => none
theorem kzipD : KC zipD xzipD := fun ds a h Q E q => by
  unfold xzipD at h
  split at h
  · cases h
    exact q
  · cases h
def xenumerateD : List D → Option (List D)
  | [.list xs] => some (((upTo 0 xs.length).zip xs).map fun p => .tuple [p.1, p.2])
  | [.tuple xs] => some (((upTo 0 xs.length).zip xs).map fun p => .tuple [p.1, p.2])
  | _ => none
theorem kenumerateD : KC enumerateD xenumerateD := fun ds a h Q E q => by
  unfold xenumerateD at h
  split at h
  · cases h
    exact q
  · cases h
    exact q
  · cases h
/-! sorted ints, by putting each in its place -/
def allInts : List D → Option (List Int)
  | [] => some []
  | .int i :: r => (allInts r).bind fun l => some (i :: l)
  | _ => none
theorem allInts_some : ∀ {ds : List D} {ns : List Int}, allInts ds = some ns → ds = intsD ns
  | [], ns, h => by
    cases h
    rfl
  | d :: ds, ns, h => by
    unfold allInts at h
    split at h
    · cases ‹_ :: _ = []›
    · rename_i i r e
      cases e
      obtain ⟨l, h1, h⟩ := bind_some h
      cases h
      rw [allInts_some h1]
      rfl
    · cases h
def putI (i : Int) : List Int → List Int
  | [] => [i]
  | j :: r => if i ≤ j then i :: j :: r else j :: putI i r
def sortI : List Int → List Int
  | [] => []
  | i :: r => putI i (sortI r)
theorem putI_perm (i : Int) : ∀ l, (putI i l).Perm (i :: l)
  | [] => .refl _
  | j :: r => by
    unfold putI
    split
    · exact .refl _
    · exact ((putI_perm i r).cons j).trans (.swap i j r)
theorem sortI_perm : ∀ l, (sortI l).Perm l
  | [] => .refl _
  | i :: r => (putI_perm i (sortI r)).trans ((sortI_perm r).cons i)
theorem putI_sorted (i : Int) : ∀ {l : List Int}, l.Pairwise (· ≤ ·) → (putI i l).Pairwise (· ≤ ·)
  | [], _ => List.pairwise_singleton _ _
  | j :: r, h => by
    obtain ⟨h1, h2⟩ := List.pairwise_cons.mp h
    unfold putI
    split
    · rename_i e
      refine List.pairwise_cons.mpr ⟨fun x hx => ?_, h⟩
      rcases List.mem_cons.mp hx with z | z
      · omega
      · have := h1 x z
        omega
    · refine List.pairwise_cons.mpr ⟨fun x hx => ?_, putI_sorted i h2⟩
      rcases List.mem_cons.mp ((putI_perm i r).mem_iff.mp hx) with z | z
      · omega
      · exact h1 x z
theorem sortI_sorted : ∀ l, (sortI l).Pairwise (· ≤ ·)
  | [] => List.Pairwise.nil
  | i :: r => putI_sorted i (sortI_sorted r)
theorem sortL_I (ns : List Int) : sortL (intsD ns) = intsD (sortI ns) := by
  rw [sortL_ints, sort_perm (sortI_perm ns).symm (sortI_sorted ns)]
def xsortD (d : D) : Option (List D) := (xlistD d).bind fun ds => (allInts ds).bind fun ns => some (intsD (sortI ns))
theorem ksortD : KU sortD xsortD := fun d a h Q E q => by
  obtain ⟨ds, h1, h⟩ := bind_some h
  obtain ⟨ns, h2, h⟩ := bind_some h
  cases h
  cases allInts_some h2
  unfold xlistD at h1
  split at h1
  · cases h1
    exact ⟨srt_ints ns, by rw [sortL_I]; exact q⟩
  · cases h1
    exact ⟨srt_ints ns, by rw [sortL_I]; exact q⟩
  · cases h1
end
end DL

namespace DL
open PySem PySem.Spec L2
section
variable [Nm] {f g : Rho → WD D} {xf xg : Rho → Option D} {fo fo' : Rho → WD (Option Int)} {xo xo' : Rho → Option (Option Int)} {F : FS} {xF : XS} {h : List D → D → WD D} {xh : List D → D → Option D} {fd : Rho → WD (List (Key × D))} {xd : Rho → Option (List (Key × D))}
abbrev KM (h : List D → D → WD D) (xh : List D → D → Option D) : Prop := ∀ ds d c, xh ds d = some c → ∀ Q E, Q c → h ds d Q E
def xseqD : D → Option (List D)
  | .list ds => some ds
  | .tuple ds => some ds
  | _ => none
def xeMt (xh : List D → D → Option D) (xf xg : Rho → Option D) : Rho → Option D := fun ρ => (xf ρ).bind fun x => (xseqD x).bind fun ds => (xg ρ).bind fun y => xh ds y
theorem keMt (hh : KM h xh) (hf : KE f xf) (hg : KE g xg) : KE (eMt h f g) (xeMt xh xf xg) := fun ρ c e Q E q => by
  obtain ⟨a, h1, e1⟩ := bind_some e
  obtain ⟨ds, h2, e2⟩ := bind_some e1
  obtain ⟨b, h3, e3⟩ := bind_some e2
  clear e e1 e2
  refine hf ρ a h1 _ E ?_
  unfold xseqD at h2
  split at h2
  · cases h2
    exact hg ρ b h3 _ E (hh _ b c e3 Q E q)
  · cases h2
    exact hg ρ b h3 _ E (hh _ b c e3 Q E q)
  · cases h2
def xplcD (ds : List D) (d : D) : Option D := xif (SeqAt.shaped (.list ds) = true ∧ SeqAt.shaped d = true) ((SeqAt.dataPlace ds d).bind fun j => some (.int (j : Nat)))
theorem kplcD : KM plcD xplcD := fun ds d c e Q E q => by
  obtain ⟨h1, e⟩ := xif_some e
  obtain ⟨j, h2, e⟩ := bind_some e
  cases e
  refine ⟨h1.1, h1.2, ?_⟩
  rw [h2]
  exact q
def xcntD (ds : List D) (d : D) : Option D := xif (SeqAt.shaped (.list ds) = true ∧ SeqAt.shaped d = true) (some (.int ((ds.countP fun z => PyData.eqv z d : Nat) : Int)))
theorem kcntD : KM cntD xcntD := fun ds d c e Q E q => by
  obtain ⟨h1, e⟩ := xif_some e
  cases e
  exact ⟨h1.1, h1.2, q⟩
def xslKD (k : Int) (d : D) (lo hi : Option Int) : Option (List D) := match d with
  | .list xs => some (pickL xs lo hi (some (-k)))
  | _ => none
def xeSlK (k : Int) (f : Rho → Option D) (g h : Rho → Option (Option Int)) : Rho → Option (List D) := fun ρ => (f ρ).bind fun d => (g ρ).bind fun lo => (h ρ).bind fun hi => xslKD k d lo hi
theorem keSlK (k : Int) (hf : KE f xf) (hg : KE fo xo) (hh : KE fo' xo') : KE (eSlK k f fo fo') (xeSlK k xf xo xo') := fun ρ c e Q E q => by
  obtain ⟨a, h1, e⟩ := bind_some e
  obtain ⟨lo, h2, e⟩ := bind_some e
  obtain ⟨hi, h3, e⟩ := bind_some e
  refine hf ρ a h1 _ E (hg ρ lo h2 _ E (hh ρ hi h3 _ E ?_))
  unfold xslKD at e
  split at e
  · cases e
    exact q
  · cases e
def xownD (i : Nat) (Γ : Env) : Option (List (Key × D)) := match Γ[i]? with
  | some (some (.own (.dct ds))) => some ds
  | _ => none
theorem xownD_some {i : Nat} {Γ : Env} {ds : List (Key × D)} (h : xownD i Γ = some ds) (Q : List (Key × D) → Prop) (q : Q ds) : ownDAt Γ i Q := by
  unfold xownD at h
  unfold ownDAt
  generalize Γ[i]? = o at h ⊢
  match o, h with
  | some (some (.own (.dct l))), h =>
    cases h
    exact q
def xsLck (i : Nat) (F : XS) : XS := fun Γ => (xownD i Γ).bind fun ds => F (Γ.set i (some (.val (dictZ ds))))
theorem ksLck (i : Nat) (hF : KSt F xF) : KSt (sLck i F) (xsLck i xF) := fun Γ o e k q => by
  obtain ⟨ds, h1, e⟩ := bind_some e
  exact xownD_some h1 _ (hF _ o e k q)
def xsUpd (i : Nat) (f : Rho → Option (List (Key × D))) : XS := fun Γ => (xownD i Γ).bind fun ds => (f (clean Γ)).bind fun es => xif (ds.length + es.length ≤ 1000000) (some (.nx (Γ.set i (some (.own (.dct (mergeG ds es)))))))
theorem ksUpd (i : Nat) (hf : KE fd xd) : KSt (sUpd i fd) (xsUpd i xd) := fun Γ o e k q => by
  obtain ⟨ds, h1, e⟩ := bind_some e
  obtain ⟨es, h2, e⟩ := bind_some e
  obtain ⟨h3, e⟩ := xif_some e
  cases e
  exact xownD_some h1 _ (hf _ _ h2 _ _ ⟨h3, q⟩)
def xkeysD2 : D → Option (List D)
  | .dict ((.bool true, .none) :: l) => xif (keysOk (l.map (·.1)) = true) (some (l.map (·.1)))
  | _ => none
def xsKeys2 (f : Rho → Option D) : Rho → Option (List D) := fun ρ => (f ρ).bind xkeysD2
theorem ksKeys2 (hf : KE f xf) : KE (sKeys2 f) (xsKeys2 xf) := fun ρ c e Q E q => by
  obtain ⟨a, h1, e⟩ := bind_some e
  refine hf ρ a h1 _ E ?_
  unfold xkeysD2 at e
  split at e
  · obtain ⟨h3, e⟩ := xif_some e
    cases e
    exact ⟨h3, q⟩
  · cases e
def xsExt (i : Nat) (f : Rho → Option D) : XS := fun Γ => (xown i Γ).bind fun xs => (f (clean Γ)).bind fun d => match d with
  | .list ys => xif (xs.length + ys.length ≤ 1000000) (some (.nx (Γ.set i (some (.own (.lst (xs ++ ys)))))))
  | _ => none
theorem ksExt (i : Nat) (hf : KE f xf) : KSt (sExt i f) (xsExt i xf) := fun Γ o e k q => by
  obtain ⟨xs, h1, e⟩ := bind_some e
  obtain ⟨d, h2, e⟩ := bind_some e
  unfold sExt
  refine xown_some h1 _ (hf _ _ h2 _ _ ?_)
  split at e
  · obtain ⟨h3, e⟩ := xif_some e
    cases e
    exact ⟨h3, q⟩
  · cases e
end
end DL

/-! DLsF: sorting that runs; lists that stand ascending. -/
namespace DL
open PySem PySem.Spec L2
section
variable {α : Type} {le : α → α → Bool}
def insB (le : α → α → Bool) (x : α) : List α → List α
  | [] => [x]
  | y :: r => if le x y = true then x :: y :: r else y :: insB le x r
def isortB (le : α → α → Bool) : List α → List α
  | [] => []
  | x :: r => insB le x (isortB le r)
theorem insB_mem {x z : α} : ∀ {l : List α}, z ∈ insB le x l ↔ z = x ∨ z ∈ l
  | [] => by simp [insB]
  | y :: r => by
    unfold insB
    split
    · simp
    · simp only [List.mem_cons, insB_mem (l := r)]
      constructor
      · rintro (h | h | h) <;> simp [h]
      · rintro (h | h | h) <;> simp [h]
theorem insB_pw (h : PySem.W.TotalLe le) {x : α} : ∀ {l : List α}, l.Pairwise (fun a b => le a b = true) → (insB le x l).Pairwise (fun a b => le a b = true)
  | [], _ => by simp [insB]
  | y :: r, p => by
    obtain ⟨p1, p2⟩ := List.pairwise_cons.mp p
    unfold insB
    split
    · rename_i c
      refine List.pairwise_cons.mpr ⟨fun z hz => ?_, p⟩
      rcases List.mem_cons.mp hz with e | e
      · rw [e]
        exact c
      · exact h.trans _ _ _ c (p1 z e)
    · rename_i c
      refine List.pairwise_cons.mpr ⟨fun z hz => ?_, insB_pw h p2⟩
      rcases insB_mem.mp hz with e | e
      · rw [e]
        exact (h.total y x).resolve_right c
      · exact p1 z e
theorem insB_rank (h : PySem.W.TotalLe le) (c : α) {x : α} : ∀ {l : List α}, l.Pairwise (fun a b => le a b = true) → (insB le x l).filter (PySem.W.sameRank le c) = (x :: l).filter (PySem.W.sameRank le c)
  | [], _ => rfl
  | y :: r, p => by
    obtain ⟨p1, p2⟩ := List.pairwise_cons.mp p
    unfold insB
    split
    · rfl
    · rename_i n
      have ih := insB_rank h c (x := x) p2
      rw [List.filter_cons, ih]
      by_cases q : PySem.W.sameRank le c x = true
      · have ny : PySem.W.sameRank le c y = false := by
          cases e : PySem.W.sameRank le c y with
          | false => rfl
          | true =>
            unfold PySem.W.sameRank at q e
            rw [Bool.and_eq_true] at q e
            exact absurd (h.trans _ _ _ q.2 e.1) n
        simp [List.filter_cons, q, ny]
      · simp [List.filter_cons, q]
theorem isortB_pw (h : PySem.W.TotalLe le) : ∀ l : List α, (isortB le l).Pairwise (fun a b => le a b = true)
  | [] => .nil
  | x :: r => insB_pw h (isortB_pw h r)
theorem isortB_rank (h : PySem.W.TotalLe le) (c : α) : ∀ l : List α, (isortB le l).filter (PySem.W.sameRank le c) = l.filter (PySem.W.sameRank le c)
  | [] => rfl
  | x :: r => by
    show (insB le x (isortB le r)).filter _ = _
    rw [insB_rank h c (isortB_pw h r), List.filter_cons, List.filter_cons, isortB_rank h c r]
theorem isortB_eq (h : PySem.W.TotalLe le) (l : List α) : isortB le l = l.mergeSort le := PySem.W.sort_unique h (isortB_pw h l) fun c => isortB_rank h c l
/-- lists that stand strictly in order and have the same members are one -/
theorem strict_uniq {lt : α → α → Prop} (as : ∀ a b, lt a b → lt b a → False) : ∀ {a b : List α}, a.Pairwise lt → b.Pairwise lt → (∀ k, k ∈ a ↔ k ∈ b) → a = b
  | [], [], _, _, _ => rfl
  | [], y :: _, _, _, h => absurd ((h y).mpr List.mem_cons_self) List.not_mem_nil
  | x :: _, [], _, _, h => absurd ((h x).mp List.mem_cons_self) List.not_mem_nil
  | x :: a, y :: b, p, q, h => by
    obtain ⟨p1, p2⟩ := List.pairwise_cons.mp p
    obtain ⟨q1, q2⟩ := List.pairwise_cons.mp q
    have e : x = y := by
      rcases List.mem_cons.mp ((h x).mp List.mem_cons_self) with e | e
      · exact e
      · rcases List.mem_cons.mp ((h y).mpr List.mem_cons_self) with e2 | e2
        · exact e2.symm
        · exact (as _ _ (q1 x e) (p1 y e2)).elim
    subst e
    rw [strict_uniq as p2 q2 fun k => ?_]
    constructor
    · intro hk
      rcases List.mem_cons.mp ((h k).mp (List.mem_cons_of_mem _ hk)) with e | e
      · subst e
        exact (as _ _ (p1 k hk) (p1 k hk)).elim
      · exact e
    · intro hk
      rcases List.mem_cons.mp ((h k).mpr (List.mem_cons_of_mem _ hk)) with e | e
      · subst e
        exact (as _ _ (q1 k hk) (q1 k hk)).elim
      · exact e
end
theorem leD1_total : PySem.W.TotalLe leD1 := PySem.W.sortLe_total _ false _
theorem isort_sortL (l : List D) : isortB leD1 l = sortL l := isortB_eq leD1_total l
abbrev ltT (a b : D) : Prop := PySem.W.dataLt a b = true
theorem leT_lt (a b : D) : leT a b ↔ ¬ ltT b a := by
  have h : PySem.W.dataLe false (fun b : D => b) a b = !PySem.W.dataLt b a := by
    rw [PySem.W.dataLe_eq]
    rfl
  unfold leT ltT
  rw [h]
  simp
theorem ltT_asym (a b : D) (h1 : ltT a b) (h2 : ltT b a) : False := by
  have q : PySem.W.TotalLe (PySem.W.dataLe false (fun b : D => b)) := PySem.W.sortLe_total _ false _
  have t := q.total a b
  rcases t with t | t
  · exact (leT_lt a b).mp t h2
  · exact (leT_lt b a).mp t h1
theorem ltT_trans (a b c : D) (h1 : ltT a b) (h2 : ltT b c) : ltT a c := by
  have q : PySem.W.TotalLe (PySem.W.dataLe false (fun b : D => b)) := PySem.W.sortLe_total _ false _
  apply Classical.byContradiction
  intro n
  have l1 : leT c a := (leT_lt c a).mpr n
  have l2 : leT a b := (leT_lt a b).mpr fun z => ltT_asym _ _ h1 z
  exact (leT_lt c b).mp (q.trans _ _ _ l1 l2) h2
/-- each item is less than the next -/
def ascB : List D → Bool
  | [] => true
  | x :: r => (match r with
    | [] => true
    | y :: _ => PySem.W.dataLt x y) && ascB r
theorem ascB_pw : ∀ {l : List D}, ascB l = true → l.Pairwise ltT
  | [], _ => .nil
  | [x], _ => by simp
  | x :: y :: r, h => by
    have e : PySem.W.dataLt x y = true ∧ ascB (y :: r) = true := by simpa [ascB] using h
    have ih := ascB_pw e.2
    refine List.pairwise_cons.mpr ⟨fun z hz => ?_, ih⟩
    rcases List.mem_cons.mp hz with q | q
    · rw [q]
      exact e.1
    · exact ltT_trans _ _ _ e.1 ((List.pairwise_cons.mp ih).1 z q)
/-! ### no truth values within: the key tells the data -/
def noB : D → Bool
  | .none => true
  | .int _ => true
  | .str _ => true
  | .tuple xs => noBs xs
  | _ => false
where noBs : List D → Bool
  | [] => true
  | x :: xs => noB x && noBs xs
mutual
theorem nk_inj : ∀ {d e : D}, noB d = true → noB e = true → nk d = nk e → d = e
  | .none, e, _, he, h => by
    cases e <;> simp_all [nk, noB]
  | .int i, e, _, he, h => by
    cases e <;> simp_all [nk, noB]
  | .str x, e, _, he, h => by
    cases e <;> simp_all [nk, noB]
  | .tuple xs, e, hd, he, h => by
    cases e with
    | tuple ys =>
      have h' : nk.nks xs = nk.nks ys := by simpa [nk] using h
      rw [nks_inj (by simpa [noB] using hd) (by simpa [noB] using he) h']
    | _ => simp_all [nk, noB]
  | .bool _, e, hd, _, _ => by simp [noB] at hd
  | .list _, e, hd, _, _ => by simp [noB] at hd
  | .dict _, e, hd, _, _ => by simp [noB] at hd
theorem nks_inj : ∀ {ds es : List D}, noB.noBs ds = true → noB.noBs es = true → nk.nks ds = nk.nks es → ds = es
  | [], es, _, _, h => by
    cases es with
    | nil => rfl
    | cons _ _ => simp [nk.nks] at h
  | d :: ds, es, hd, he, h => by
    cases es with
    | nil => simp [nk.nks] at h
    | cons e es =>
      have a : noB d = true ∧ noB.noBs ds = true := by simpa [noB.noBs] using hd
      have b : noB e = true ∧ noB.noBs es = true := by simpa [noB.noBs] using he
      have c : nk d = nk e ∧ nk.nks ds = nk.nks es := by simpa [nk.nks] using h
      rw [nk_inj a.1 b.1 c.1, nks_inj a.2 b.2 c.2]
end
/-- sorted(set(xs)) of what stands ascending is the same again -/
theorem sortT_asc {ds : List D} {Q : List D → Prop} (ok : sortTOk ds) (nb : ∀ d ∈ ds, noB d = true) (asc : ds.Pairwise ltT) (q : Q ds) : sortTQ ds Q := by
  refine ⟨ok, fun ys sub all nd pw => ?_⟩
  have mem : ∀ k, k ∈ ys ↔ k ∈ ds := fun k => ⟨sub k, fun hk => by
    obtain ⟨y, hy, e⟩ := List.mem_map.mp (all k hk)
    rw [← nk_inj (nb y (sub y hy)) (nb k hk) e]
    exact hy⟩
  have nd' : ys.Nodup := L2.nodup_of_map nd
  have apart : ∀ a ∈ ds, ∀ b ∈ ds, a ≠ b → ltT a b ∨ ltT b a := fun a ha b hb ne => by
    obtain ⟨i, hi, e1⟩ := List.getElem_of_mem ha
    obtain ⟨j, hj, e2⟩ := List.getElem_of_mem hb
    have p := List.pairwise_iff_getElem.mp asc
    rcases Nat.lt_trichotomy i j with c | c | c
    · exact .inl (e1 ▸ e2 ▸ p i j hi hj c)
    · subst c
      exact absurd (e1.symm.trans e2) ne
    · exact .inr (e1 ▸ e2 ▸ p j i hj hi c)
  have st : ys.Pairwise ltT := by
    refine (List.Pairwise.and_mem.mp (pw.and nd')).imp ?_
    rintro a b ⟨ha, hb, hle, hne⟩
    rcases apart a (sub a ha) b (sub b hb) hne with z | z
    · exact z
    · exact absurd z ((leT_lt a b).mp hle)
  rw [strict_uniq ltT_asym st asc mem]
  exact q
/-! ### tuples of texts -/
def strT : D → Bool
  | .tuple (x :: xs) => (x :: xs).all fun d => match d with
    | .str s => PyData.strOk s
    | _ => false
  | _ => false
theorem strT_inv {d : D} (h : strT d = true) : ∃ ss : List Str, ss ≠ [] ∧ d = .tuple (ss.map .str) ∧ ∀ s ∈ ss, PyData.strOk s = true := by
  unfold strT at h
  split at h
  · rename_i x xs
    have key : ∀ l : List D, (l.all fun d => match d with | .str s => PyData.strOk s | _ => false) = true → ∃ ss : List Str, l = ss.map .str ∧ ∀ s ∈ ss, PyData.strOk s = true := by
      intro l
      induction l with
      | nil => exact fun _ => ⟨[], rfl, fun s hs => by cases hs⟩
      | cons y l ih =>
        intro h
        rw [List.all_cons, Bool.and_eq_true] at h
        obtain ⟨ss, e, ok⟩ := ih h.2
        cases y with
        | str s => exact ⟨s :: ss, by rw [e]; rfl, fun z hz => by
            rcases List.mem_cons.mp hz with q | q
            · rw [q]
              exact h.1
            · exact ok z q⟩
        | _ => simp at h
    obtain ⟨ss, e, ok⟩ := key _ h
    refine ⟨ss, fun z => ?_, by rw [e], ok⟩
    subst z
    simp at e
  · cases h
theorem alike_strs : ∀ xs ys : List Str, PySem.W.alikeAll (xs.map .str) (ys.map .str) = true
  | [], ys => by simp [PySem.W.alikeAll]
  | x :: xs, [] => by simp [PySem.W.alikeAll]
  | x :: xs, y :: ys => by simp [PySem.W.alikeAll, PySem.W.alike, alike_strs xs ys]
theorem lay_strs : ∀ xs : List Str, (∀ s ∈ xs, PyData.strOk s = true) → PyData.canLayAll0 (xs.map .str) = true
  | [], _ => by simp [PyData.canLayAll0]
  | x :: xs, h => by
    have a := h x List.mem_cons_self
    have b := lay_strs xs fun s hs => h s (List.mem_cons_of_mem _ hs)
    simp only [List.map_cons, PyData.canLayAll0, PyData.canLay0, Bool.and_eq_true]
    exact ⟨by simpa using a, b⟩
theorem depth_strs : ∀ xs : List Str, PyData.depthAll (xs.map .str) = 0
  | [] => by simp [PyData.depthAll]
  | x :: xs => by simp [PyData.depthAll, PyData.depth, depth_strs xs]
theorem pure_strs : ∀ xs : List Str, pureD.pureAll (xs.map .str) = true ∧ noB.noBs (xs.map .str) = true ∧ NestedKey.depthAll (nk.nks (xs.map .str)) = 0
  | [] => ⟨rfl, rfl, rfl⟩
  | x :: xs => by
    obtain ⟨a, b, c⟩ := pure_strs xs
    refine ⟨by simp [pureD.pureAll, pureD, a], by simp [noB.noBs, noB, b], ?_⟩
    simp only [List.map_cons, nk.nks, nk, NestedKey.depthAll, NestedKey.depth, c]
    rfl
theorem strT_ok {d : D} (h : strT d = true) : okT d ∧ noB d = true := by
  obtain ⟨ss, ne, rfl, ok⟩ := strT_inv h
  obtain ⟨a, b, c⟩ := pure_strs ss
  refine ⟨⟨a, by simpa [PyData.canLay0] using lay_strs ss ok, ?_, ?_, ?_⟩, b⟩
  · show NestedKey.depthAll (nk.nks (ss.map .str)) + 1 ≤ 8
    rw [c]
    decide
  · simp [PyData.depth, depth_strs]
  · cases ss with
    | nil => exact absurd rfl ne
    | cons s ss => exact ⟨_, _, rfl⟩
theorem strTs_alike {ds : List D} (h : ∀ d ∈ ds, strT d = true) : PySem.W.AllAlike ds := fun d hd e he => by
  obtain ⟨ss, _, rfl, _⟩ := strT_inv (h d hd)
  obtain ⟨ts, _, rfl, _⟩ := strT_inv (h e he)
  simpa [PySem.W.alike] using alike_strs ss ts
theorem strTs_srt {ds : List D} (h : ∀ d ∈ ds, strT d = true) : srtOk ds :=
  ⟨strTs_alike h, .inl fun d hd => (strT_ok (h d hd)).1.shp, fun d hd => ⟨(strT_ok (h d hd)).1.lay, Nat.le_trans (strT_ok (h d hd)).1.dep (by decide)⟩⟩
/-- sorted of tuples of texts, run -/
def xsortS (d : D) : Option (List D) := (xlistD d).bind fun ds => xif ((ds.all strT) = true) (some (isortB leD1 ds))
theorem ksortS : KU sortD xsortS := fun d a h Q E q => by
  obtain ⟨ds, h1, h⟩ := bind_some h
  obtain ⟨h2, h⟩ := xif_some h
  cases h
  rw [isort_sortL] at q
  have ok := strTs_srt (List.all_eq_true.mp h2)
  unfold xlistD at h1
  split at h1
  · cases h1
    exact ⟨ok, q⟩
  · cases h1
    exact ⟨ok, q⟩
  · cases h1
/-- sorted(set(xs)), xs ascending tuples of texts, run -/
def xsortTD (d : D) : Option (List D) := (xlistD d).bind fun ds => xif ((ds.all strT) = true ∧ ascB ds = true ∧ ds.length < 300) (some ds)
theorem ksortTD : KU sortTD xsortTD := fun d a h Q E q => by
  obtain ⟨ds, h1, h⟩ := bind_some h
  obtain ⟨⟨h2, h3, h4⟩, h⟩ := xif_some h
  replace h := Option.some.inj h
  subst h
  have st := List.all_eq_true.mp h2
  have ok : sortTQ _ Q := sortT_asc ⟨h4, fun d hd => (strT_ok (st d hd)).1, strTs_alike st⟩ (fun d hd => (strT_ok (st d hd)).2) (ascB_pw h3) q
  unfold xlistD at h1
  split at h1
  · cases h1
    exact ok
  · cases h1
    exact ok
  · cases h1
end DL

namespace G6
open PySem PySem.Spec L2 DL
def xb1_is_word : XS := (xsRet (xeAnd (xeUn1 (xisiD "str") (xeVar 0)) (xeOp (xinD false) (xeVar 0) (xeVar 1))))
theorem kb1_is_word : KSt b1_is_word xb1_is_word := (ksRet (keAnd (keUn1 (kisiD "str") (keVar 0)) (keOp (kinD false) (keVar 0) (keVar 1))))
def x_is_word : List D → Option D := xfn0 2
    xb1_is_word
theorem k_is_word : KC m_is_word x_is_word := kfn0 2 kb1_is_word
def xb1__law_count : XS := (xsRet (xeCb (xone1 xlenD) (xaCons (xeOfF (xeLc (xsItems (xeVar 0)) (.name 4) [4] (xtAndD (xtB1 (xeOp (xeqD false) (xeOp xidxD (xeVar 4) (xeC (.int 0))) (xeVar 1))) (xtB1 (xeOp (xeqD false) (xeOp xidxD (xeVar 4) (xeVar 2)) (xeVar 3)))) (xeVar 4))) xaNil)))
theorem kb1__law_count : KSt b1__law_count xb1__law_count := (ksRet (keCb (kone1 klenD) (kaCons (keOfF (keLc (ksItems (keVar 0)) (.name 4) [4] (ktAndD (ktB1 (keOp (keqD false) (keOp kidxD (keVar 4) (keC (.int 0))) (keVar 1))) (ktB1 (keOp (keqD false) (keOp kidxD (keVar 4) (keVar 2)) (keVar 3)))) (keVar 4))) kaNil)))
def x__law_count : List D → Option D := xfn0 5
    xb1__law_count
theorem k__law_count : KC m__law_count x__law_count := kfn0 5 kb1__law_count
def xb1_is_slot_way : XS := (xsIf (xtOrD (xtB1 (xeOp (xeqD true) (xeCb (xone1 xlenD) (xaCons (xeVar 0) xaNil)) (xeC (.int 6)))) (xtOrD (xtNotD (xtB1 (xeCb x_is_word (xaCons (xeOp xidxD (xeVar 0) (xeC (.int 1))) (xaCons (xeC c_HOMES) xaNil))))) (xtNotD (xtB1 (xeCb x_is_word (xaCons (xeOp xidxD (xeVar 0) (xeC (.int 2))) (xaCons (xeC c_STEPS) xaNil))))))) (xsRet (xeC (.bool false))) xsNext)
theorem kb1_is_slot_way : KSt b1_is_slot_way xb1_is_slot_way := (ksIf (ktOrD (ktB1 (keOp (keqD true) (keCb (kone1 klenD) (kaCons (keVar 0) kaNil)) (keC (.int 6)))) (ktOrD (ktNotD (ktB1 (keCb k_is_word (kaCons (keOp kidxD (keVar 0) (keC (.int 1))) (kaCons (keC c_HOMES) kaNil))))) (ktNotD (ktB1 (keCb k_is_word (kaCons (keOp kidxD (keVar 0) (keC (.int 2))) (kaCons (keC c_STEPS) kaNil))))))) (ksRet (keC (.bool false))) ksNext)
def xb2_is_slot_way : XS := (xsIf (xtOrD (xtNotD (xtB1 (xeCb x_is_word (xaCons (xeOp xidxD (xeVar 0) (xeC (.int 3))) (xaCons (xeC c_COMES) xaNil))))) (xtOrD (xtNotD (xtB1 (xeCb x_is_word (xaCons (xeOp xidxD (xeVar 0) (xeC (.int 4))) (xaCons (xeC c_GONES) xaNil))))) (xtNotD (xtB1 (xeCb x_is_word (xaCons (xeOp xidxD (xeVar 0) (xeC (.int 5))) (xaCons (xeC c_GROWS) xaNil))))))) (xsRet (xeC (.bool false))) xsNext)
theorem kb2_is_slot_way : KSt b2_is_slot_way xb2_is_slot_way := (ksIf (ktOrD (ktNotD (ktB1 (keCb k_is_word (kaCons (keOp kidxD (keVar 0) (keC (.int 3))) (kaCons (keC c_COMES) kaNil))))) (ktOrD (ktNotD (ktB1 (keCb k_is_word (kaCons (keOp kidxD (keVar 0) (keC (.int 4))) (kaCons (keC c_GONES) kaNil))))) (ktNotD (ktB1 (keCb k_is_word (kaCons (keOp kidxD (keVar 0) (keC (.int 5))) (kaCons (keC c_GROWS) kaNil))))))) (ksRet (keC (.bool false))) ksNext)
def xb3_is_slot_way : XS := (xsRet (xeOr (xeOp (xinD false) (xeOp xidxD (xeVar 0) (xeC (.int 2))) (xeTup (xaCons (xeC (.str "up")) (xaCons (xeC (.str "down")) xaNil)))) (xeAnd (xeOp (xinD false) (xeOp xidxD (xeVar 0) (xeC (.int 3))) (xeTup (xaCons (xeC (.str "late")) (xaCons (xeC (.str "empty")) xaNil)))) (xeOp (xeqD true) (xeOp xidxD (xeVar 0) (xeC (.int 4))) (xeC (.str "pull"))))))
theorem kb3_is_slot_way : KSt b3_is_slot_way xb3_is_slot_way := (ksRet (keOr (keOp (kinD false) (keOp kidxD (keVar 0) (keC (.int 2))) (keTup (kaCons (keC (.str "up")) (kaCons (keC (.str "down")) kaNil)))) (keAnd (keOp (kinD false) (keOp kidxD (keVar 0) (keC (.int 3))) (keTup (kaCons (keC (.str "late")) (kaCons (keC (.str "empty")) kaNil)))) (keOp (keqD true) (keOp kidxD (keVar 0) (keC (.int 4))) (keC (.str "pull"))))))
def x_is_slot_way : List D → Option D := xfn0 1
    (xsSeq xb1_is_slot_way
    (xsSeq xb2_is_slot_way
    xb3_is_slot_way))
theorem k_is_slot_way : KC m_is_slot_way x_is_slot_way := kfn0 1 (ksSeq kb1_is_slot_way
    (ksSeq kb2_is_slot_way
    kb3_is_slot_way))
def xb6__law_way : XS := (xsSet 4 (xeOp (xinD false) (xeVar 3) (xeTup (xaCons (xeC (.str "up")) (xaCons (xeC (.str "down")) xaNil)))))
theorem kb6__law_way : KSt b6__law_way xb6__law_way := (ksSet 4 (keOp (kinD false) (keVar 3) (keTup (kaCons (keC (.str "up")) (kaCons (keC (.str "down")) kaNil)))))
def xb1_is_way : XS := (xsIf (xtOrD (xtNotD (xtB1 (xeUn1 (xisiD "tuple") (xeVar 0)))) (xtOrD (xtB1 (xeOp (xeqD false) (xeVar 0) (xeTup xaNil))) (xtNotD (xtB1 (xeCb x_is_word (xaCons (xeOp xidxD (xeVar 0) (xeC (.int 0))) (xaCons (xeTup (xaCons (xeC (.str "slots")) (xaCons (xeC (.str "rows")) xaNil))) xaNil))))))) (xsRet (xeC (.bool false))) xsNext)
theorem kb1_is_way : KSt b1_is_way xb1_is_way := (ksIf (ktOrD (ktNotD (ktB1 (keUn1 (kisiD "tuple") (keVar 0)))) (ktOrD (ktB1 (keOp (keqD false) (keVar 0) (keTup kaNil))) (ktNotD (ktB1 (keCb k_is_word (kaCons (keOp kidxD (keVar 0) (keC (.int 0))) (kaCons (keTup (kaCons (keC (.str "slots")) (kaCons (keC (.str "rows")) kaNil))) kaNil))))))) (ksRet (keC (.bool false))) ksNext)
def xb2_is_way : XS := (xsIf (xtB1 (xeOp (xeqD false) (xeOp xidxD (xeVar 0) (xeC (.int 0))) (xeC (.str "slots")))) (xsRet (xeCb x_is_slot_way (xaCons (xeVar 0) xaNil))) xsNext)
theorem kb2_is_way : KSt b2_is_way xb2_is_way := (ksIf (ktB1 (keOp (keqD false) (keOp kidxD (keVar 0) (keC (.int 0))) (keC (.str "slots")))) (ksRet (keCb k_is_slot_way (kaCons (keVar 0) kaNil))) ksNext)
def xb3_is_way : XS := (xsIf (xtOrD (xtB1 (xeOp (xeqD true) (xeCb (xone1 xlenD) (xaCons (xeVar 0) xaNil)) (xeC (.int 4)))) (xtNotD (xtB1 (xeCb x_is_word (xaCons (xeOp xidxD (xeVar 0) (xeC (.int 1))) (xaCons (xeC c_HOMES) xaNil)))))) (xsRet (xeC (.bool false))) xsNext)
theorem kb3_is_way : KSt b3_is_way xb3_is_way := (ksIf (ktOrD (ktB1 (keOp (keqD true) (keCb (kone1 klenD) (kaCons (keVar 0) kaNil)) (keC (.int 4)))) (ktNotD (ktB1 (keCb k_is_word (kaCons (keOp kidxD (keVar 0) (keC (.int 1))) (kaCons (keC c_HOMES) kaNil)))))) (ksRet (keC (.bool false))) ksNext)
def xb4_is_way : XS := (xsRet (xeAnd (xeCb x_is_word (xaCons (xeOp xidxD (xeVar 0) (xeC (.int 2))) (xaCons (xeTup (xaCons (xeC (.str "front")) (xaCons (xeC (.str "end")) xaNil))) xaNil))) (xeCb x_is_word (xaCons (xeOp xidxD (xeVar 0) (xeC (.int 3))) (xaCons (xeTup (xaCons (xeC (.str "one")) (xaCons (xeC (.str "two")) xaNil))) xaNil)))))
theorem kb4_is_way : KSt b4_is_way xb4_is_way := (ksRet (keAnd (keCb k_is_word (kaCons (keOp kidxD (keVar 0) (keC (.int 2))) (kaCons (keTup (kaCons (keC (.str "front")) (kaCons (keC (.str "end")) kaNil))) kaNil))) (keCb k_is_word (kaCons (keOp kidxD (keVar 0) (keC (.int 3))) (kaCons (keTup (kaCons (keC (.str "one")) (kaCons (keC (.str "two")) kaNil))) kaNil)))))
def x_is_way : List D → Option D := xfn0 1
    (xsSeq xb1_is_way
    (xsSeq xb2_is_way
    (xsSeq xb3_is_way
    xb4_is_way)))
theorem k_is_way : KC m_is_way x_is_way := kfn0 1 (ksSeq kb1_is_way
    (ksSeq kb2_is_way
    (ksSeq kb3_is_way
    kb4_is_way)))
def xb1_all_ways : XS := (xsExt 0 (xeOfF (xeLc2 (xsItems (xeTup (xaCons (xeC (.str "front")) (xaCons (xeC (.str "end")) xaNil)))) (.name 3) [3, 5] xtYesD (xsItems (xeTup (xaCons (xeC (.str "one")) (xaCons (xeC (.str "two")) xaNil)))) (.name 5) [5] xtYesD (xeTup (xaCons (xeC (.str "rows")) (xaCons (xeVar 1) (xaCons (xeVar 3) (xaCons (xeVar 5) xaNil))))))))
theorem kb1_all_ways : KSt b1_all_ways xb1_all_ways := (ksExt 0 (keOfF (keLc2 (ksItems (keTup (kaCons (keC (.str "front")) (kaCons (keC (.str "end")) kaNil)))) (.name 3) [3, 5] ktYesD (ksItems (keTup (kaCons (keC (.str "one")) (kaCons (keC (.str "two")) kaNil)))) (.name 5) [5] ktYesD (keTup (kaCons (keC (.str "rows")) (kaCons (keVar 1) (kaCons (keVar 3) (kaCons (keVar 5) kaNil))))))))
def xb2_all_ways : XS := (xsExt 0 (xeOfF (xeLc (xsItems (xeC c_GROWS)) (.name 5) [5] xtYesD (xeTup (xaCons (xeC (.str "slots")) (xaCons (xeVar 1) (xaCons (xeVar 2) (xaCons (xeVar 3) (xaCons (xeVar 4) (xaCons (xeVar 5) xaNil))))))))))
theorem kb2_all_ways : KSt b2_all_ways xb2_all_ways := (ksExt 0 (keOfF (keLc (ksItems (keC c_GROWS)) (.name 5) [5] ktYesD (keTup (kaCons (keC (.str "slots")) (kaCons (keVar 1) (kaCons (keVar 2) (kaCons (keVar 3) (kaCons (keVar 4) (kaCons (keVar 5) kaNil))))))))))
def xb3_all_ways : XS := (xsFor (xsItems (xeC c_COMES)) (.name 3) (xsFor (xsItems (xeC c_GONES)) (.name 4) xb2_all_ways))
theorem kb3_all_ways : KSt b3_all_ways xb3_all_ways := (ksFor (ksItems (keC c_COMES)) (.name 3) (ksFor (ksItems (keC c_GONES)) (.name 4) kb2_all_ways))
def xb4_all_ways : XS := (xsSeq xb1_all_ways
    (xsFor (xsItems (xeC c_STEPS)) (.name 2) xb3_all_ways))
theorem kb4_all_ways : KSt b4_all_ways xb4_all_ways := (ksSeq kb1_all_ways
    (ksFor (ksItems (keC c_STEPS)) (.name 2) kb3_all_ways))
def xb5_all_ways : XS := (xsRet (xeCb (xone1 xtupleD) (xaCons (xeOfF (xeCbF (xone1F xsortS) (xaCons (xeOfF (xeLc (xsItems (xeVar 0)) (.name 6) [6] (xtB1 (xeCb x_is_way (xaCons (xeVar 6) xaNil))) (xeVar 6))) xaNil))) xaNil)))
theorem kb5_all_ways : KSt b5_all_ways xb5_all_ways := (ksRet (keCb (kone1 ktupleD) (kaCons (keOfF (keCbF (kone1F ksortS) (kaCons (keOfF (keLc (ksItems (keVar 0)) (.name 6) [6] (ktB1 (keCb k_is_way (kaCons (keVar 6) kaNil))) (keVar 6))) kaNil))) kaNil)))
def x_all_ways : List D → Option D := xfn0 7
    (xsSeq (xsSetF 0 (xeLst xaNil))
    (xsSeq (xsFor (xsItems (xeC c_HOMES)) (.name 1) xb4_all_ways)
    xb5_all_ways))
theorem k_all_ways : KC m_all_ways x_all_ways := kfn0 7 (ksSeq (ksSetF 0 (keLst kaNil))
    (ksSeq (ksFor (ksItems (keC c_HOMES)) (.name 1) kb4_all_ways)
    kb5_all_ways))
def xb2_law : XS := (xsIf (xtOrD (xtB1 (xeOp (xeqD true) (xeCb (xone1 xlenD) (xaCons (xeVar 3) xaNil)) (xeC (.int 272)))) (xtOrD (xtB1 (xeOp (xeqD true) (xeOfF (xeCbF (xone1F xlistD) (xaCons (xeVar 3) xaNil))) (xeOfF (xeUnF xsortTD (xeVar 3))))) (xtNotD (xtB1 (xeCb (xone1 xallD) (xaCons (xeOfF (xeLc (xsItems (xeVar 3)) (.name 5) [5] xtYesD (xeCb x_is_way (xaCons (xeVar 5) xaNil)))) xaNil)))))) (xsRet (xeC (.bool false))) xsNext)
theorem kb2_law : KSt b2_law xb2_law := (ksIf (ktOrD (ktB1 (keOp (keqD true) (keCb (kone1 klenD) (kaCons (keVar 3) kaNil)) (keC (.int 272)))) (ktOrD (ktB1 (keOp (keqD true) (keOfF (keCbF (kone1F klistD) (kaCons (keVar 3) kaNil))) (keOfF (keUnF ksortTD (keVar 3))))) (ktNotD (ktB1 (keCb (kone1 kallD) (kaCons (keOfF (keLc (ksItems (keVar 3)) (.name 5) [5] ktYesD (keCb k_is_way (kaCons (keVar 5) kaNil)))) kaNil)))))) (ksRet (keC (.bool false))) ksNext)
def xb3_law : XS := (xsIf (xtB1 (xeOp (xeqD true) (xeOfF (xeLc (xsItems (xeTup (xaCons (xeC (.str "front")) (xaCons (xeC (.str "end")) xaNil)))) (.name 4) [4] xtYesD (xeCb x__law_count (xaCons (xeVar 3) (xaCons (xeC (.str "rows")) (xaCons (xeC (.int 2)) (xaCons (xeVar 4) xaNil))))))) (xeOfF (xeLst (xaCons (xeC (.int 4)) (xaCons (xeC (.int 4)) xaNil)))))) (xsRet (xeC (.bool false))) xsNext)
theorem kb3_law : KSt b3_law xb3_law := (ksIf (ktB1 (keOp (keqD true) (keOfF (keLc (ksItems (keTup (kaCons (keC (.str "front")) (kaCons (keC (.str "end")) kaNil)))) (.name 4) [4] ktYesD (keCb k__law_count (kaCons (keVar 3) (kaCons (keC (.str "rows")) (kaCons (keC (.int 2)) (kaCons (keVar 4) kaNil))))))) (keOfF (keLst (kaCons (keC (.int 4)) (kaCons (keC (.int 4)) kaNil)))))) (ksRet (keC (.bool false))) ksNext)
def xb4_law : XS := (xsIf (xtB1 (xeOp (xeqD true) (xeOfF (xeLc (xsItems (xeTup (xaCons (xeC (.str "up")) (xaCons (xeC (.str "down")) (xaCons (xeC (.str "wide")) (xaCons (xeC (.str "own")) xaNil)))))) (.name 4) [4] xtYesD (xeCb x__law_count (xaCons (xeVar 3) (xaCons (xeC (.str "slots")) (xaCons (xeC (.int 2)) (xaCons (xeVar 4) xaNil))))))) (xeOfF (xeLst (xaCons (xeC (.int 96)) (xaCons (xeC (.int 96)) (xaCons (xeC (.int 36)) (xaCons (xeC (.int 36)) xaNil)))))))) (xsRet (xeC (.bool false))) xsNext)
theorem kb4_law : KSt b4_law xb4_law := (ksIf (ktB1 (keOp (keqD true) (keOfF (keLc (ksItems (keTup (kaCons (keC (.str "up")) (kaCons (keC (.str "down")) (kaCons (keC (.str "wide")) (kaCons (keC (.str "own")) kaNil)))))) (.name 4) [4] ktYesD (keCb k__law_count (kaCons (keVar 3) (kaCons (keC (.str "slots")) (kaCons (keC (.int 2)) (kaCons (keVar 4) kaNil))))))) (keOfF (keLst (kaCons (keC (.int 96)) (kaCons (keC (.int 96)) (kaCons (keC (.int 36)) (kaCons (keC (.int 36)) kaNil)))))))) (ksRet (keC (.bool false))) ksNext)
def xb5_law : XS := (xsIf (xtB1 (xeOp (xeqD true) (xeOfF (xeLc (xsItems (xeTup (xaCons (xeC (.str "late")) (xaCons (xeC (.str "empty")) (xaCons (xeC (.str "near")) (xaCons (xeC (.str "first")) xaNil)))))) (.name 4) [4] xtYesD (xeCb x__law_count (xaCons (xeVar 3) (xaCons (xeC (.str "slots")) (xaCons (xeC (.int 3)) (xaCons (xeVar 4) xaNil))))))) (xeOfF (xeLst (xaCons (xeC (.int 84)) (xaCons (xeC (.int 84)) (xaCons (xeC (.int 48)) (xaCons (xeC (.int 48)) xaNil)))))))) (xsRet (xeC (.bool false))) xsNext)
theorem kb5_law : KSt b5_law xb5_law := (ksIf (ktB1 (keOp (keqD true) (keOfF (keLc (ksItems (keTup (kaCons (keC (.str "late")) (kaCons (keC (.str "empty")) (kaCons (keC (.str "near")) (kaCons (keC (.str "first")) kaNil)))))) (.name 4) [4] ktYesD (keCb k__law_count (kaCons (keVar 3) (kaCons (keC (.str "slots")) (kaCons (keC (.int 3)) (kaCons (keVar 4) kaNil))))))) (keOfF (keLst (kaCons (keC (.int 84)) (kaCons (keC (.int 84)) (kaCons (keC (.int 48)) (kaCons (keC (.int 48)) kaNil)))))))) (ksRet (keC (.bool false))) ksNext)
def xb6_law : XS := (xsIf (xtB1 (xeOp (xeqD true) (xeOfF (xeLc (xsItems (xeTup (xaCons (xeC (.str "mark")) (xaCons (xeC (.str "hole")) (xaCons (xeC (.str "again")) (xaCons (xeC (.str "pull")) xaNil)))))) (.name 4) [4] xtYesD (xeCb x__law_count (xaCons (xeVar 3) (xaCons (xeC (.str "slots")) (xaCons (xeC (.int 4)) (xaCons (xeVar 4) xaNil))))))) (xeOfF (xeLst (xaCons (xeC (.int 72)) (xaCons (xeC (.int 72)) (xaCons (xeC (.int 72)) (xaCons (xeC (.int 48)) xaNil)))))))) (xsRet (xeC (.bool false))) xsNext)
theorem kb6_law : KSt b6_law xb6_law := (ksIf (ktB1 (keOp (keqD true) (keOfF (keLc (ksItems (keTup (kaCons (keC (.str "mark")) (kaCons (keC (.str "hole")) (kaCons (keC (.str "again")) (kaCons (keC (.str "pull")) kaNil)))))) (.name 4) [4] ktYesD (keCb k__law_count (kaCons (keVar 3) (kaCons (keC (.str "slots")) (kaCons (keC (.int 4)) (kaCons (keVar 4) kaNil))))))) (keOfF (keLst (kaCons (keC (.int 72)) (kaCons (keC (.int 72)) (kaCons (keC (.int 72)) (kaCons (keC (.int 48)) kaNil)))))))) (ksRet (keC (.bool false))) ksNext)
def tl_law : FS := (sRet (eC (.bool true)))
def xtl_law : XS := (xsRet (xeC (.bool true)))
theorem ktl_law : KSt tl_law xtl_law := (ksRet (keC (.bool true)))
theorem tl_law_r (Γ : DL.Env) (k : KS) : tl_law Γ k = (sRet (eC (.bool true))) Γ k := propext Iff.rfl
end G6

/-! plain tables: what the program computes, in plain Lean -/
namespace TM
def KeyOk (k : Int) : Prop := 0 ≤ k ∧ k ≤ 31
def SizeOk (n : Int) : Prop := n = 4 ∨ n = 8 ∨ n = 16 ∨ n = 32 ∨ n = 64
theorem small {n : Int} (h : SizeOk n) : 0 < n ∧ n ≤ 64 := by rcases h with rfl | rfl | rfl | rfl | rfl <;> decide
theorem four {n : Int} (h : SizeOk n) : 4 ≤ n := by rcases h with rfl | rfl | rfl | rfl | rfl <;> decide
def foldK (h : String) (k : Int) : Int := if h = "low" then k else k + k / 4
def homeOf (h : String) (k n : Int) : Int := foldK h k % n
/-- the step's offset -/
def stepOf (st : String) (k n i : Int) : Int := if st = "up" then i else if st = "down" then -i else if st = "wide" then i * (i + 1) / 2 else i * (1 + 2 * (k / 8 % 2))
def pathOf (h st : String) (k n : Int) : List Int := (List.range n.toNat).map fun i : Nat => (homeOf h k n + stepOf st k n i) % n
theorem emod_shift {n a s t : Int} (hn : 0 < n) (h : (a + s) % n = (a + t) % n) : s % n = t % n := by
  have h1 : ((a + s) - (a + t)) % n = 0 := Int.emod_emod_of_dvd _ (Int.dvd_refl n) ▸ (Int.emod_eq_emod_iff_emod_sub_eq_zero.mp h)
  have h2 : (a + s) - (a + t) = s - t := by omega
  rw [h2] at h1
  exact Int.emod_eq_emod_iff_emod_sub_eq_zero.mpr h1
theorem perm_sub {α : Type} [DecidableEq α] : ∀ {l m : List α}, l.Nodup → (∀ x ∈ l, x ∈ m) → m.length ≤ l.length → l.Perm m
  | [], m, _, _, h => by
    have : m = [] := List.length_eq_zero_iff.mp (by simpa using h)
    rw [this]
  | a :: r, m, hn, hs, h => by
    have ha : a ∈ m := hs a List.mem_cons_self
    have hp := List.perm_cons_erase ha
    have hn' := List.nodup_cons.mp hn
    have : r.Perm (m.erase a) := perm_sub hn'.2 (fun x hx => (List.mem_erase_of_ne (fun e => hn'.1 (by rw [← e]; exact hx))).mpr (hs x (List.mem_cons_of_mem _ hx))) (by
      have := hp.length_eq
      simp only [List.length_cons] at this h
      omega)
    exact (this.cons a).trans hp.symm
/-- no list without copies within m is longer than m -/
theorem nodup_le {α : Type} [DecidableEq α] : ∀ {l m : List α}, l.Nodup → (∀ x ∈ l, x ∈ m) → l.length ≤ m.length
  | [], _, _, _ => Nat.zero_le _
  | a :: r, m, hn, hs => by
    have ha : a ∈ m := hs a List.mem_cons_self
    have hp := (List.perm_cons_erase ha).length_eq
    have hn' := List.nodup_cons.mp hn
    have := nodup_le (l := r) (m := m.erase a) hn'.2 fun x hx => (List.mem_erase_of_ne (fun e => hn'.1 (by rw [← e]; exact hx))).mpr (hs x (List.mem_cons_of_mem _ hx))
    simp only [List.length_cons] at hp ⊢
    omega
theorem nodup_map {n : Nat} {f : Nat → Int} (hi : ∀ i < n, ∀ j < n, f i = f j → i = j) : ((List.range n).map f).Nodup :=
  List.pairwise_map.mpr (List.Pairwise.imp_of_mem (fun {q r} hq hr hne e => hne (hi q (List.mem_range.mp hq) r (List.mem_range.mp hr) e)) List.nodup_range)
theorem perm_of {n : Nat} {f : Nat → Int} (hr : ∀ i < n, 0 ≤ f i ∧ f i < n) (hi : ∀ i < n, ∀ j < n, f i = f j → i = j) : ((List.range n).map f).Perm ((List.range n).map fun i : Nat => (i : Int)) := by
  refine perm_sub (nodup_map hi) (fun x hx => ?_) (by simp)
  obtain ⟨i, h1, rfl⟩ := List.mem_map.mp hx
  obtain ⟨h2, h3⟩ := hr i (List.mem_range.mp h1)
  exact List.mem_map.mpr ⟨(f i).toNat, List.mem_range.mpr (by omega), by omega⟩
theorem range_sorted (n : Nat) : ((List.range n).map fun i : Nat => (i : Int)).Pairwise (· ≤ ·) :=
  List.pairwise_map.mpr (List.pairwise_lt_range.imp fun h => by omega)
def offInj (n : Nat) (f : Nat → Int) : Bool := (List.range n).all fun i => (List.range n).all fun j => decide (f i % n = f j % n → i = j)
theorem off_of {n : Nat} {f : Nat → Int} (h : offInj n f = true) : ∀ i < n, ∀ j < n, f i % n = f j % n → i = j := by
  intro i hi j hj
  have h1 := List.all_eq_true.mp h i (List.mem_range.mpr hi)
  have h2 := List.all_eq_true.mp h1 j (List.mem_range.mpr hj)
  exact of_decide_eq_true h2
theorem wide4 : offInj 4 (fun i => (i : Int) * (i + 1) / 2) = true := by decide +kernel
theorem wide8 : offInj 8 (fun i => (i : Int) * (i + 1) / 2) = true := by decide +kernel
theorem wide16 : offInj 16 (fun i => (i : Int) * (i + 1) / 2) = true := by decide +kernel
theorem wide32 : offInj 32 (fun i => (i : Int) * (i + 1) / 2) = true := by decide +kernel
theorem wide64 : offInj 64 (fun i => (i : Int) * (i + 1) / 2) = true := by decide +kernel
theorem off_step {st : String} {k n : Int} (hn : SizeOk n) : ∀ i < n.toNat, ∀ j < n.toNat, stepOf st k n (i : Nat) % n = stepOf st k n (j : Nat) % n → i = j := by
  have h2 : k / 8 % 2 = 0 ∨ k / 8 % 2 = 1 := by omega
  unfold stepOf
  intro i hi j hj
  by_cases e1 : st = "up"
  · simp only [e1, if_true]
    rcases hn with rfl | rfl | rfl | rfl | rfl <;> omega
  · by_cases e2 : st = "down"
    · simp only [e1, e2, if_true, if_false]
      rcases hn with rfl | rfl | rfl | rfl | rfl <;> simp <;> omega
    · by_cases e3 : st = "wide"
      · simp only [e1, e2, e3, if_true, if_false]
        rcases hn with rfl | rfl | rfl | rfl | rfl
        · exact off_of wide4 i hi j hj
        · exact off_of wide8 i hi j hj
        · exact off_of wide16 i hi j hj
        · exact off_of wide32 i hi j hj
        · exact off_of wide64 i hi j hj
      · simp only [e1, e2, e3, if_false]
        rcases h2 with h2 | h2 <;> rw [h2] <;> rcases hn with rfl | rfl | rfl | rfl | rfl <;> omega
theorem path_perm {h st : String} {k n : Int} (hn : SizeOk n) : (pathOf h st k n).Perm ((List.range n.toNat).map fun i : Nat => (i : Int)) := by
  obtain ⟨hn0, hn1⟩ := small hn
  unfold pathOf
  refine perm_of (fun i hi => ⟨Int.emod_nonneg _ (by omega), ?_⟩) fun i hi j hj e => off_step hn i hi j hj (emod_shift hn0 e)
  have := Int.emod_lt_of_pos (homeOf h k n + stepOf st k n i) hn0
  omega
theorem path_mem {h st : String} {k n s : Int} (hn : SizeOk n) : s ∈ pathOf h st k n ↔ 0 ≤ s ∧ s < n := by
  rw [(path_perm hn).mem_iff, List.mem_map]
  obtain ⟨hn0, hn1⟩ := small hn
  constructor
  · rintro ⟨i, hi, rfl⟩
    have := List.mem_range.mp hi
    omega
  · rintro ⟨h0, h1⟩
    exact ⟨s.toNat, List.mem_range.mpr (by omega), by omega⟩
theorem path_len {h st : String} {k n : Int} : (pathOf h st k n).length = n.toNat := by simp [pathOf]
theorem home_rng {h : String} {k n : Int} (hn : SizeOk n) : 0 ≤ homeOf h k n ∧ homeOf h k n < n := by
  obtain ⟨hn0, hn1⟩ := small hn
  exact ⟨Int.emod_nonneg _ (by omega), Int.emod_lt_of_pos _ hn0⟩
/-! ### slots -/
/-- what stands in a slot -/
def ga (T : List Int) (s : Int) : Int := T.getD s.toNat 0
def put (T : List Int) (s x : Int) : List Int := T.set s.toNat x
theorem put_len (T : List Int) (s x : Int) : (put T s x).length = T.length := by simp [put]
theorem ga_put {T : List Int} {s r x : Int} (hs : 0 ≤ s) (hr : 0 ≤ r) (h : s < T.length) : ga (put T s x) r = if s = r then x else ga T r := by
  unfold ga put
  rw [List.getD_eq_getElem?_getD, List.getElem?_set]
  by_cases e : s = r
  · subst e
    have : s.toNat < T.length := by omega
    simp [this]
  · have : s.toNat ≠ r.toNat := by omega
    simp [this, e]
theorem ga_mem {T : List Int} {s : Int} (h0 : 0 ≤ s) (h : s < T.length) : ga T s ∈ T := by
  unfold ga
  rw [List.getD_eq_getElem?_getD, List.getElem?_eq_getElem (by omega)]
  exact List.getElem_mem _
theorem mem_put {T : List Int} {s x y : Int} (h : y ∈ put T s x) : y = x ∨ y ∈ T := by
  rcases List.mem_or_eq_of_mem_set h with h | h
  · exact .inr h
  · exact .inl h
def seek (T : List Int) (k : Int) : List Int → Int → Option Int × Int
  | [], l => (none, l)
  | s :: r, l => if ga T s = -1 then (none, l + 1) else if ga T s = k then (some s, l + 1) else seek T k r (l + 1)
def used (T : List Int) : Nat := T.countP (· ≠ -1)
def keysS (T : List Int) : List Int := T.filter (0 ≤ ·)
def once : List Int → List Int → List Int
  | acc, [] => acc
  | acc, x :: r => if x ∈ acc then once acc r else once (acc ++ [x]) r
theorem once_nil (acc : List Int) : once acc [] = acc := rfl
theorem once_cons (acc : List Int) (x : Int) (r : List Int) : once acc (x :: r) = if x ∈ acc then once acc r else once (acc ++ [x]) r := rfl
def isFree (c : String) (x : Int) : Bool := x == -1 || (c == "late" && x == -2)
def frees (h st c : String) (T : List Int) (k : Int) : List Int := (pathOf h st k T.length).filter fun s => isFree c (ga T s)
def dist (h st : String) (k s n : Int) : Int := if st = "up" then (s - homeOf h k n) % n else (homeOf h k n - s) % n
def nxt (st : String) (s n : Int) : Int := if st = "up" then (s + 1) % n else (s - 1) % n
def shove (h st c : String) (n : Int) : Nat → List Int → Int → Int → List Int
  | 0, T, _, _ => T
  | f + 1, T, s, m => if 0 ≤ ga T s then
      (if c = "first" ∨ dist h st (ga T s) s n < dist h st m s n then shove h st c n f (put T s m) (nxt st s n) (ga T s) else shove h st c n f T (nxt st s n) m)
    else put T s m
def placeS (h st c : String) (T : List Int) (k : Int) : List Int :=
  if c = "late" ∨ c = "empty" then put T ((frees h st c T k).headD 0) k else shove h st c T.length T.length T (homeOf h k T.length) k
def anewS (h st c : String) (T : List Int) (n : Nat) : List Int := (once [] (keysS T)).foldl (placeS h st c) (List.replicate n (-1))
def growOf (gr : String) (n : Int) : Int := if gr = "half" then n / 2 else if gr = "three" then n * 3 / 4 else n - 1
def grownS (h st c gr : String) (T : List Int) : List Int :=
  if (used T : Int) + 1 ≤ growOf gr T.length then T else if ((once [] (keysS T)).length : Int) + 1 ≤ growOf gr T.length then anewS h st c T T.length else anewS h st c T (2 * T.length)
def pull (h st : String) (n : Int) : Nat → List Int → Int → Int → List Int
  | 0, T, _, _ => T
  | f + 1, T, s, a => if ga T (nxt st a n) = -1 then T else
      if dist h st (ga T (nxt st a n)) s n ≤ dist h st (ga T (nxt st a n)) (nxt st a n) n then pull h st n f (put (put T s (ga T (nxt st a n))) (nxt st a n) (-1)) (nxt st a n) (nxt st a n)
      else pull h st n f T s (nxt st a n)
def removedS (h st c g : String) (T : List Int) (s : Int) : List Int :=
  if g = "mark" then put T s (-2) else if g = "pull" then pull h st T.length T.length (put T s (-1)) s s else if g = "hole" then put T s (-1) else anewS h st c (put T s (-1)) T.length
/-! ### rows -/
def rat (R : List (List Int)) (s : Int) : List Int := R.getD s.toNat []
def rput (R : List (List Int)) (s : Int) (r : List Int) : List (List Int) := R.set s.toNat r
def placeR (h c : String) (R : List (List Int)) (k : Int) : List (List Int) :=
  rput R (homeOf h k R.length) (if c = "front" then k :: rat R (homeOf h k R.length) else rat R (homeOf h k R.length) ++ [k])
def anewR (h c : String) (R : List (List Int)) (n : Nat) : List (List Int) := (once [] R.flatten).foldl (placeR h c) (List.replicate n [])
def manyOf (o : String) (n : Int) : Int := if o = "one" then n else 2 * n
def grownR (h c o : String) (R : List (List Int)) : List (List Int) := if (R.flatten.length : Int) + 1 ≤ manyOf o R.length then R else anewR h c R (2 * R.length)
/-! ### both -/
inductive Way where
  | r (h c o : String)
  | s (h st c g gr : String)
inductive Tab where
  | r (R : List (List Int))
  | s (T : List Int)
def RowsOk (h c o : String) : Prop := (h = "low" ∨ h = "fold") ∧ (c = "front" ∨ c = "end") ∧ (o = "one" ∨ o = "two")
def SlotsOk (h st c g gr : String) : Prop := (h = "low" ∨ h = "fold") ∧ (st = "up" ∨ st = "down" ∨ st = "wide" ∨ st = "own") ∧ (c = "late" ∨ c = "empty" ∨ c = "near" ∨ c = "first") ∧ (g = "mark" ∨ g = "hole" ∨ g = "again" ∨ g = "pull") ∧ (gr = "half" ∨ gr = "three" ∨ gr = "full") ∧
  ((st = "up" ∨ st = "down") ∨ ((c = "late" ∨ c = "empty") ∧ g ≠ "pull"))
def Way.Ok : Way → Prop
  | .r h c o => RowsOk h c o
  | .s h st c g gr => SlotsOk h st c g gr
def begun : Way → Tab
  | .r _ _ _ => .r (List.replicate 4 [])
  | .s _ _ _ _ _ => .s (List.replicate 4 (-1))
def order : Tab → List Int
  | .r R => R.flatten
  | .s T => keysS T
def size : Tab → Nat
  | .r R => R.length
  | .s T => T.length
def found : Way → Tab → Int → Option Int × Int
  | .r h _ _, .r R, k => if k ∈ rat R (homeOf h k R.length) then (some (homeOf h k R.length), ((rat R (homeOf h k R.length)).idxOf k : Int) + 1) else (none, (rat R (homeOf h k R.length)).length)
  | .s h st _ _ _, .s T, k => seek T k (pathOf h st k T.length) 0
  | _, _, _ => (none, 0)
def grown : Way → Tab → Tab
  | .r h c o, .r R => .r (grownR h c o R)
  | .s h st c _ gr, .s T => .s (grownS h st c gr T)
  | _, t => t
def placed : Way → Tab → Int → Tab
  | .r h c _, .r R, k => .r (placeR h c R k)
  | .s h st c _ _, .s T, k => .s (placeS h st c T k)
  | _, t, _ => t
def removed : Way → Tab → Int → Int → Tab
  | .r _ _ _, .r R, s, k => .r (rput R s ((rat R s).filter (· ≠ k)))
  | .s h st c g _, .s T, s, _ => .s (removedS h st c g T s)
  | _, t, _, _ => t
inductive Deed3 where
  | ask | put | take
deriving DecidableEq
def done (w : Way) (t : Tab) (kd : Deed3) (k : Int) : Tab := match kd, (found w t k).1 with
  | .put, none => placed w (grown w t) k
  | .take, some s => removed w t s k
  | _, _ => t
end TM

namespace TM
/-! ### counts -/
theorem used_put {T : List Int} {s x : Int} (h0 : 0 ≤ s) (h : s < T.length) : used (put T s x) + (if ga T s = -1 then 0 else 1) = used T + (if x = -1 then 0 else 1) := by
  unfold used put ga
  have hl : s.toNat < T.length := by omega
  rw [List.countP_set hl, List.getD_eq_getElem?_getD, List.getElem?_eq_getElem hl]
  simp only [Option.getD_some]
  by_cases e : T[s.toNat] = -1
  · by_cases e2 : x = -1 <;> simp [e, e2]
  · have hc : 0 < T.countP (fun x => decide (x ≠ -1)) := List.countP_pos_iff.mpr ⟨_, List.getElem_mem hl, by simpa using e⟩
    generalize T.countP (fun x => decide (x ≠ -1)) = m at hc
    by_cases e2 : x = -1
    · simp only [e, e2, ne_eq, not_true_eq_false, not_false_eq_true, decide_true, decide_false, if_true, if_false, Bool.false_eq_true]
      omega
    · simp only [e, e2, ne_eq, not_true_eq_false, not_false_eq_true, decide_true, decide_false, if_true, if_false, Bool.false_eq_true]
      omega
theorem exists_empty {T : List Int} (h : used T < T.length) : ∃ s : Int, 0 ≤ s ∧ s < T.length ∧ ga T s = -1 := by
  by_cases hx : ∀ x ∈ T, x ≠ -1
  · have : used T = T.length := by
      unfold used
      exact List.countP_eq_length.mpr fun x hx' => by simpa using hx x hx'
    omega
  · obtain ⟨x, hm, e⟩ : ∃ x, x ∈ T ∧ x = -1 := by
      simpa using hx
    subst e
    obtain ⟨i, hi, e⟩ := List.getElem_of_mem hm
    refine ⟨i, by omega, by omega, ?_⟩
    unfold ga
    rw [List.getD_eq_getElem?_getD]
    simp [List.getElem?_eq_getElem hi, e]
theorem used_le (T : List Int) : used T ≤ T.length := List.countP_le_length
theorem used_replicate (n : Nat) : used (List.replicate n (-1)) = 0 := by
  unfold used
  rw [List.countP_eq_zero]
  intro a ha
  have := List.eq_of_mem_replicate ha
  simp [this]
theorem keys_le (T : List Int) : (keysS T).length ≤ used T := by
  unfold keysS used
  rw [← List.countP_eq_length_filter]
  exact List.countP_mono_left fun x _ h => by
    simp at h ⊢
    omega
theorem once_spec : ∀ (l acc : List Int), acc.Nodup → (once acc l).Nodup ∧ (∀ x, x ∈ once acc l ↔ x ∈ acc ∨ x ∈ l) ∧ (once acc l).length ≤ acc.length + l.length
  | [], acc, h => ⟨h, fun x => by simp [once], by simp [once]⟩
  | y :: r, acc, h => by
    unfold once
    split
    · rename_i hm
      obtain ⟨h1, h2, h3⟩ := once_spec r acc h
      refine ⟨h1, fun x => ?_, by simp only [List.length_cons]; omega⟩
      rw [h2, List.mem_cons]
      constructor
      · rintro (z | z)
        · exact .inl z
        · exact .inr (.inr z)
      · rintro (z | z | z)
        · exact .inl z
        · exact .inl (z ▸ hm)
        · exact .inr z
    · rename_i hm
      have hn : (acc ++ [y]).Nodup := by
        rw [List.nodup_append]
        refine ⟨h, by simp, fun a ha b hb e => ?_⟩
        simp at hb
        exact hm (by rw [← hb, ← e]; exact ha)
      obtain ⟨h1, h2, h3⟩ := once_spec r (acc ++ [y]) hn
      refine ⟨h1, fun x => ?_, by simp only [List.length_append, List.length_cons, List.length_nil] at h3 ⊢; omega⟩
      rw [h2, List.mem_append, List.mem_cons]
      simp [or_assoc]
theorem once_nodup (l : List Int) : (once [] l).Nodup := (once_spec l [] (by simp)).1
theorem once_mem (l : List Int) (x : Int) : x ∈ once [] l ↔ x ∈ l := by simpa using (once_spec l [] (by simp)).2.1 x
theorem once_len (l : List Int) : (once [] l).length ≤ l.length := by simpa using (once_spec l [] (by simp)).2.2
/-! ### steps along a line -/
def iter (st : String) (n : Int) : Nat → Int → Int
  | 0, s => s
  | j + 1, s => iter st n j (nxt st s n)
theorem nxt_rng {st : String} {s n : Int} (hn : 0 < n) : 0 ≤ nxt st s n ∧ nxt st s n < n := by
  unfold nxt
  split
  · exact ⟨Int.emod_nonneg _ (by omega), Int.emod_lt_of_pos _ hn⟩
  · exact ⟨Int.emod_nonneg _ (by omega), Int.emod_lt_of_pos _ hn⟩
theorem iter_eq {st : String} {n : Int} (hn : 0 < n) : ∀ (j : Nat) (s : Int), 0 ≤ s → s < n → iter st n j s = if st = "up" then (s + j) % n else (s - j) % n
  | 0, s, h0, h1 => by
    unfold iter
    split
    · simp [Int.emod_eq_of_lt h0 h1]
    · simp [Int.emod_eq_of_lt h0 h1]
  | j + 1, s, h0, h1 => by
    obtain ⟨a, b⟩ := nxt_rng (st := st) (s := s) hn
    unfold iter
    rw [iter_eq hn j _ a b]
    unfold nxt
    by_cases e : st = "up"
    · simp only [e, if_true]
      rw [Int.emod_add_emod]
      congr 1
      omega
    · simp only [e, if_false]
      rw [Int.emod_sub_emod]
      congr 1
      omega
/-- each slot is met -/
theorem iter_meets {st : String} {n s e : Int} (hn : 0 < n) (h0 : 0 ≤ s) (h1 : s < n) (e0 : 0 ≤ e) (e1 : e < n) : ∃ j : Nat, (j : Int) < n ∧ iter st n j s = e := by
  by_cases hu : st = "up"
  · refine ⟨((e - s) % n).toNat, ?_, ?_⟩
    · have := Int.emod_lt_of_pos (e - s) hn
      have := Int.emod_nonneg (e - s) (by omega : n ≠ 0)
      omega
    · have h2 := Int.emod_nonneg (e - s) (by omega : n ≠ 0)
      rw [iter_eq hn _ s h0 h1, if_pos hu, Int.toNat_of_nonneg h2, Int.add_emod_emod]
      have : s + (e - s) = e := by omega
      rw [this, Int.emod_eq_of_lt e0 e1]
  · refine ⟨((s - e) % n).toNat, ?_, ?_⟩
    · have := Int.emod_lt_of_pos (s - e) hn
      have := Int.emod_nonneg (s - e) (by omega : n ≠ 0)
      omega
    · have h2 := Int.emod_nonneg (s - e) (by omega : n ≠ 0)
      rw [iter_eq hn _ s h0 h1, if_neg hu, Int.toNat_of_nonneg h2, Int.sub_emod_emod]
      have : s - (s - e) = e := by omega
      rw [this, Int.emod_eq_of_lt e0 e1]
/-! ### placing -/
structure Put (T T' : List Int) (k : Int) : Prop where
  len : T'.length = T.length
  mem : ∀ x ∈ T', x = k ∨ x ∈ T
  used : used T' ≤ used T + 1
theorem put_one {T : List Int} {s k : Int} (h0 : 0 ≤ s) (h : s < T.length) : Put T (put T s k) k := by
  refine ⟨put_len _ _ _, fun x hx => mem_put hx, ?_⟩
  have := used_put (x := k) h0 h
  split at this <;> split at this <;> omega
theorem frees_mem {h st c : String} {T : List Int} {k s : Int} (hn : SizeOk T.length) : s ∈ frees h st c T k ↔ (0 ≤ s ∧ s < T.length) ∧ isFree c (ga T s) = true := by
  unfold frees
  rw [List.mem_filter, path_mem hn]
theorem frees_ne {h st c : String} {T : List Int} {k : Int} (hn : SizeOk T.length) (hu : used T < T.length) : ∃ s r, frees h st c T k = s :: r ∧ (0 ≤ s ∧ s < T.length) ∧ isFree c (ga T s) = true := by
  obtain ⟨s, h0, h1, e⟩ := exists_empty hu
  have hm : s ∈ frees h st c T k := (frees_mem hn).mpr ⟨⟨h0, h1⟩, by simp [isFree, e]⟩
  cases q : frees h st c T k with
  | nil =>
    rw [q] at hm
    cases hm
  | cons a r =>
    have := (frees_mem hn).mp (show a ∈ frees h st c T k by rw [q]; exact List.mem_cons_self)
    exact ⟨a, r, rfl, this⟩
theorem shove_put {h st c : String} {n : Int} (hn : 0 < n) : ∀ (f : Nat) (T : List Int) (s m : Int), (T.length : Int) = n → 0 ≤ s → s < n → (∃ j : Nat, j < f ∧ ga T (iter st n j s) < 0) →
    (shove h st c n f T s m).length = T.length ∧ (∀ x ∈ shove h st c n f T s m, x = m ∨ x ∈ T) ∧ used (shove h st c n f T s m) ≤ used T + 1
  | 0, T, s, m, _, _, _, ⟨j, hj, _⟩ => by omega
  | f + 1, T, s, m, hl, h0, h1, ⟨j, hj, ej⟩ => by
    have h1' : s < T.length := by omega
    obtain ⟨a, b⟩ := nxt_rng (st := st) (s := s) hn
    unfold shove
    split
    · rename_i hg
      have hj0 : j ≠ 0 := fun z => by
        subst z
        unfold iter at ej
        omega
      obtain ⟨i, rfl⟩ : ∃ i, j = i + 1 := ⟨j - 1, by omega⟩
      have ej' : ga T (iter st n i (nxt st s n)) < 0 := ej
      split
      · have hne : s ≠ iter st n i (nxt st s n) := fun z => by
          rw [← z] at ej'
          omega
        have r0 : 0 ≤ iter st n i (nxt st s n) := by
          rw [iter_eq hn _ _ a b]
          split <;> exact Int.emod_nonneg _ (by omega)
        obtain ⟨p1, p2, p3⟩ := shove_put hn f (put T s m) (nxt st s n) (ga T s) (by rw [put_len]; exact hl) a b ⟨i, by omega, by rw [ga_put h0 r0 h1', if_neg hne]; exact ej'⟩
        refine ⟨by rw [p1, put_len], fun x hx => ?_, ?_⟩
        · rcases p2 x hx with z | z
          · exact .inr (z ▸ ga_mem h0 h1')
          · exact mem_put z
        · have u := used_put (x := m) h0 h1'
          have g1 : ga T s ≠ -1 := by omega
          rw [if_neg g1] at u
          split at u <;> omega
      · exact shove_put hn f T (nxt st s n) m hl a b ⟨i, by omega, ej'⟩
    · have := put_one (k := m) h0 h1'
      exact ⟨this.len, this.mem, this.used⟩
theorem place_put {h st c : String} {T : List Int} {k : Int} (hn : SizeOk T.length) (hu : used T < T.length) : Put T (placeS h st c T k) k := by
  obtain ⟨n0, n1⟩ := small hn
  unfold placeS
  split
  · obtain ⟨s, r, e, ⟨h0, h1⟩, _⟩ := frees_ne (h := h) (st := st) (c := c) (k := k) hn hu
    rw [e]
    exact put_one h0 h1
  · obtain ⟨e, e0, e1, ee⟩ := exists_empty hu
    obtain ⟨h0, h1⟩ := home_rng (h := h) (k := k) hn
    obtain ⟨j, hj, ej⟩ := iter_meets (st := st) n0 h0 h1 e0 e1
    obtain ⟨p1, p2, p3⟩ := shove_put (h := h) (c := c) n0 T.length T (homeOf h k T.length) k rfl h0 h1 ⟨j, by omega, by rw [ej, ee]; decide⟩
    exact ⟨p1, p2, p3⟩
theorem fold_put {h st c : String} : ∀ (L T : List Int), SizeOk T.length → used T + L.length ≤ T.length → (L.foldl (placeS h st c) T).length = T.length ∧ (∀ x ∈ L.foldl (placeS h st c) T, x ∈ L ∨ x ∈ T) ∧ used (L.foldl (placeS h st c) T) ≤ used T + L.length
  | [], T, _, _ => ⟨rfl, fun x hx => .inr hx, Nat.le_refl _⟩
  | k :: L, T, hn, hu => by
    simp only [List.length_cons] at hu
    have p := place_put (h := h) (st := st) (c := c) (k := k) hn (by omega)
    obtain ⟨q1, q2, q3⟩ := fold_put (h := h) (st := st) (c := c) L (placeS h st c T k) (by rw [p.len]; exact hn) (by have := p.used; have := p.len; omega)
    refine ⟨by rw [List.foldl_cons, q1, p.len], fun x hx => ?_, ?_⟩
    · rw [List.foldl_cons] at hx
      rcases q2 x hx with z | z
      · exact .inl (List.mem_cons_of_mem _ z)
      · rcases p.mem x z with z | z
        · exact .inl (z ▸ List.mem_cons_self)
        · exact .inr z
    · rw [List.foldl_cons]
      have := p.used
      simp only [List.length_cons]
      omega
theorem anew_put {h st c : String} {T : List Int} {n : Nat} (hn : SizeOk n) (hu : (once [] (keysS T)).length ≤ n) : (anewS h st c T n).length = n ∧ (∀ x ∈ anewS h st c T n, x = -1 ∨ (0 ≤ x ∧ x ∈ T)) ∧ used (anewS h st c T n) ≤ (once [] (keysS T)).length := by
  unfold anewS
  obtain ⟨q1, q2, q3⟩ := fold_put (h := h) (st := st) (c := c) (once [] (keysS T)) (List.replicate n (-1)) (by simpa using hn) (by rw [used_replicate]; simpa using hu)
  rw [used_replicate] at q3
  refine ⟨by simpa using q1, fun x hx => ?_, by omega⟩
  rcases q2 x hx with z | z
  · have := (once_mem _ _).mp z
    unfold keysS at this
    rw [List.mem_filter] at this
    exact .inr ⟨by simpa using this.2, this.1⟩
  · exact .inl (List.eq_of_mem_replicate z)
/-! ### tables that come about -/
structure OkS (gr : String) (ks : List Int) (T : List Int) : Prop where
  size : SizeOk T.length
  rng : ∀ x ∈ T, x = -2 ∨ x = -1 ∨ (KeyOk x ∧ x ∈ ks)
  used : (used T : Int) ≤ growOf gr T.length
def GrowOk (gr : String) : Prop := gr = "half" ∨ gr = "three" ∨ gr = "full"
theorem grow_lt {gr : String} {n : Int} (hg : GrowOk gr) (hn : SizeOk n) : 2 ≤ growOf gr n ∧ growOf gr n < n ∧ growOf gr n + 1 ≤ growOf gr (2 * n) := by
  unfold growOf
  rcases hg with rfl | rfl | rfl <;> rcases hn with rfl | rfl | rfl | rfl | rfl <;> decide
theorem OkS.once {gr : String} {ks T : List Int} (o : OkS gr ks T) : (once [] (keysS T)).length ≤ ks.length := by
  refine nodup_le (once_nodup _) fun x hx => ?_
  have := (once_mem _ _).mp hx
  unfold keysS at this
  rw [List.mem_filter] at this
  have h0 : 0 ≤ x := by simpa using this.2
  rcases o.rng x this.1 with z | z | z
  · omega
  · omega
  · exact z.2
theorem OkS.begun {gr : String} {ks : List Int} (hg : GrowOk gr) : OkS gr ks (List.replicate 4 (-1)) := by
  refine ⟨.inl rfl, fun x hx => .inr (.inl (List.eq_of_mem_replicate hx)), ?_⟩
  rw [used_replicate]
  have := (grow_lt (n := 4) hg (.inl rfl)).1
  simp
  omega
theorem OkS.anew {h st c gr : String} {ks T : List Int} {n : Nat} (o : OkS gr ks T) (hn : SizeOk n) (hu : ((TM.once [] (keysS T)).length : Int) ≤ growOf gr n) (hg : GrowOk gr) : OkS gr ks (anewS h st c T n) ∧ (anewS h st c T n).length = n ∧ TM.used (anewS h st c T n) ≤ (TM.once [] (keysS T)).length := by
  have hl := (grow_lt hg hn).2.1
  obtain ⟨q1, q2, q3⟩ := anew_put (h := h) (st := st) (c := c) (T := T) hn (by omega)
  refine ⟨⟨by rw [q1]; exact hn, fun x hx => ?_, by rw [q1]; omega⟩, q1, q3⟩
  rcases q2 x hx with z | ⟨z1, z2⟩
  · exact .inr (.inl z)
  · rcases o.rng x z2 with z | z | z
    · omega
    · omega
    · exact .inr (.inr z)
theorem OkS.grown {h st c gr : String} {ks T : List Int} (o : OkS gr ks T) (hg : GrowOk gr) (hk : ks.length ≤ 30) : OkS gr ks (grownS h st c gr T) ∧ (TM.used (grownS h st c gr T) : Int) + 1 ≤ growOf gr (grownS h st c gr T).length := by
  have ho := o.once
  have hl := grow_lt hg o.size
  have hm : (TM.once [] (keysS T)).length ≤ TM.used T := Nat.le_trans (once_len _) (keys_le T)
  have hu := o.used
  unfold grownS
  split
  · rename_i e
    exact ⟨o, e⟩
  · split
    · rename_i e
      obtain ⟨q1, q2, q3⟩ := o.anew (h := h) (st := st) (c := c) o.size (by omega) hg
      exact ⟨q1, by rw [q2]; omega⟩
    · rename_i e1 e2
      have hs : SizeOk ((2 * T.length : Nat) : Int) := by
        have h64 : growOf gr 64 ≥ 32 := by unfold growOf; rcases hg with rfl | rfl | rfl <;> decide
        rcases o.size with z | z | z | z | z
        · exact .inr (.inl (by omega))
        · exact .inr (.inr (.inl (by omega)))
        · exact .inr (.inr (.inr (.inl (by omega))))
        · exact .inr (.inr (.inr (.inr (by omega))))
        · rw [z] at e2
          omega
      have e3 : ((2 * T.length : Nat) : Int) = 2 * (T.length : Int) := by omega
      obtain ⟨q1, q2, q3⟩ := o.anew (h := h) (st := st) (c := c) (n := 2 * T.length) hs (by rw [e3]; omega) hg
      exact ⟨q1, by rw [q2, e3]; omega⟩
theorem OkS.placed {h st c gr : String} {ks T : List Int} {k : Int} (o : OkS gr ks T) (hg : GrowOk gr) (hu : (TM.used T : Int) + 1 ≤ growOf gr T.length) (hk : KeyOk k) (hm : k ∈ ks) : OkS gr ks (placeS h st c T k) := by
  have hl := grow_lt hg o.size
  have p := place_put (h := h) (st := st) (c := c) (k := k) o.size (by omega)
  refine ⟨by rw [p.len]; exact o.size, fun x hx => ?_, by rw [p.len]; have := p.used; omega⟩
  rcases p.mem x hx with z | z
  · exact .inr (.inr ⟨z ▸ hk, z ▸ hm⟩)
  · exact o.rng x z
/-! ### looking -/
theorem seek_spec (T : List Int) (k : Int) : ∀ (p : List Int) (l : Int), (∀ s, (seek T k p l).1 = some s → s ∈ p ∧ ga T s = k ∧ ga T s ≠ -1) ∧ l ≤ (seek T k p l).2 ∧ (seek T k p l).2 ≤ l + p.length
  | [], l => ⟨fun s h => by simp [seek] at h, by simp [seek], by simp [seek]⟩
  | a :: r, l => by
    unfold seek
    simp only [List.length_cons]
    split
    · exact ⟨fun s h => by simp at h, by simp; omega, by simp; omega⟩
    · split
      · rename_i h1 h2
        refine ⟨fun s h => ?_, by simp; omega, by simp; omega⟩
        simp at h
        subst h
        exact ⟨List.mem_cons_self, h2, h1⟩
      · obtain ⟨q1, q2, q3⟩ := seek_spec T k r (l + 1)
        refine ⟨fun s h => ?_, by omega, by push_cast; omega⟩
        obtain ⟨z1, z2, z3⟩ := q1 s h
        exact ⟨List.mem_cons_of_mem _ z1, z2, z3⟩
/-! ### taking -/
theorem pull_spec {h st : String} {n : Int} (hn : 0 < n) : ∀ (f : Nat) (T : List Int) (s a : Int), (T.length : Int) = n → 0 ≤ s → s < n → 0 ≤ a → a < n → ga T s = -1 → (∃ j : Nat, j < f ∧ ga T (iter st n (j + 1) a) = -1 ∧ iter st n (j + 1) a ≠ s) →
    (pull h st n f T s a).length = T.length ∧ (∀ x ∈ pull h st n f T s a, x ∈ T) ∧ used (pull h st n f T s a) = used T
  | 0, T, s, a, _, _, _, _, _, _, ⟨j, hj, _⟩ => by omega
  | f + 1, T, s, a, hl, s0, s1, a0, a1, es, ⟨j, hj, ej, nj⟩ => by
    obtain ⟨b0, b1⟩ := nxt_rng (st := st) (s := a) hn
    unfold pull
    split
    · exact ⟨rfl, fun x hx => hx, rfl⟩
    · rename_i hg
      have hj0 : j ≠ 0 := fun z => by
        subst z
        exact hg ej
      obtain ⟨i, rfl⟩ : ∃ i, j = i + 1 := ⟨j - 1, by omega⟩
      have ej' : ga T (iter st n (i + 1) (nxt st a n)) = -1 := ej
      have nj' : iter st n (i + 1) (nxt st a n) ≠ s := nj
      split
      · have r0 : 0 ≤ iter st n (i + 1) (nxt st a n) := by
          rw [iter_eq hn _ _ b0 b1]
          split <;> exact Int.emod_nonneg _ (by omega)
        have l1 : s < T.length := by omega
        have l2 : nxt st a n < (put T s (ga T (nxt st a n))).length := by rw [put_len]; omega
        have na : nxt st a n ≠ s := fun z => hg (by rw [z]; exact es)
        have ne : nxt st a n ≠ iter st n (i + 1) (nxt st a n) := fun z => hg (by rw [z]; exact ej')
        have g1 : ga (put T s (ga T (nxt st a n))) (nxt st a n) = ga T (nxt st a n) := by
          rw [ga_put s0 b0 l1, if_neg (fun z => na z.symm)]
        obtain ⟨p1, p2, p3⟩ := pull_spec (h := h) hn f (put (put T s (ga T (nxt st a n))) (nxt st a n) (-1)) (nxt st a n) (nxt st a n) (by rw [put_len, put_len]; exact hl) b0 b1 b0 b1
          (by rw [ga_put b0 b0 l2, if_pos rfl]) ⟨i, by omega, by rw [ga_put b0 r0 l2, if_neg ne, ga_put s0 r0 l1, if_neg (fun z => nj' z.symm)]; exact ej', fun z => ne z.symm⟩
        refine ⟨by rw [p1, put_len, put_len], fun x hx => ?_, ?_⟩
        · rcases mem_put (p2 x hx) with z | z
          · rw [z, ← es]
            exact ga_mem s0 l1
          · rcases mem_put z with z | z
            · rw [z]
              exact ga_mem b0 (by omega)
            · exact z
        · have u1 := used_put (x := ga T (nxt st a n)) s0 l1
          have u2 := used_put (T := put T s (ga T (nxt st a n))) (x := -1) b0 l2
          rw [g1, if_neg hg] at u2
          rw [if_pos es, if_neg hg] at u1
          simp at u2
          omega
      · exact pull_spec hn f T s (nxt st a n) hl s0 s1 b0 b1 es ⟨i, by omega, ej', nj'⟩
theorem OkS.removed {h st c g gr : String} {ks T : List Int} {s : Int} (o : OkS gr ks T) (hg : GrowOk gr) (h0 : 0 ≤ s) (h1 : s < T.length) (hs : ga T s ≠ -1) : OkS gr ks (removedS h st c g T s) := by
  have hl := grow_lt hg o.size
  obtain ⟨n0, n1⟩ := small o.size
  have hu := o.used
  have one : ∀ x : Int, (x = -1 ∨ x = -2) → OkS gr ks (put T s x) := fun x hx => by
    refine ⟨by rw [put_len]; exact o.size, fun y hy => ?_, ?_⟩
    · rcases mem_put hy with z | z
      · rcases hx with e | e
        · exact .inr (.inl (z.trans e))
        · exact .inl (z.trans e)
      · exact o.rng y z
    · have u := used_put (x := x) h0 h1
      rw [if_neg hs] at u
      rw [put_len]
      split at u <;> omega
  have u1 := used_put (x := -1) h0 h1
  rw [if_neg hs] at u1
  simp at u1
  unfold removedS
  split
  · exact one _ (.inr rfl)
  · split
    · have hlt : TM.used T < T.length := by omega
      obtain ⟨e, e0, e1, ee⟩ := exists_empty hlt
      have ne : e ≠ s := fun z => hs (by rw [← z]; exact ee)
      obtain ⟨j, hj, ej⟩ := iter_meets (st := st) n0 h0 h1 e0 e1
      have j0 : j ≠ 0 := fun z => by
        subst z
        exact ne ej.symm
      obtain ⟨i, rfl⟩ : ∃ i, j = i + 1 := ⟨j - 1, by omega⟩
      obtain ⟨p1, p2, p3⟩ := pull_spec (h := h) (st := st) n0 T.length (put T s (-1)) s s (by rw [put_len]) h0 h1 h0 h1 (by rw [ga_put h0 h0 h1, if_pos rfl]) ⟨i, by omega, by rw [ej, ga_put h0 e0 h1, if_neg (fun z => ne z.symm)]; exact ee, by rw [ej]; exact ne⟩
      have o1 := one (-1) (.inl rfl)
      exact ⟨by rw [p1]; exact o1.size, fun x hx => o1.rng x (p2 x hx), by rw [p1, p3]; exact o1.used⟩
    · split
      · exact one _ (.inl rfl)
      · have o1 := one (-1) (.inl rfl)
        have hm : (TM.once [] (keysS (put T s (-1)))).length ≤ TM.used (put T s (-1)) := Nat.le_trans (once_len _) (keys_le _)
        have := o1.used
        rw [put_len] at this
        exact (o1.anew (h := h) (st := st) (c := c) o.size (by omega) hg).1
end TM

namespace TM
/-! ### rows -/
theorem rput_len (R : List (List Int)) (s : Int) (r : List Int) : (rput R s r).length = R.length := by simp [rput]
theorem rat_rput {R : List (List Int)} {s u : Int} {r : List Int} (hs : 0 ≤ s) (hu : 0 ≤ u) (h : s < R.length) : rat (rput R s r) u = if s = u then r else rat R u := by
  unfold rat rput
  rw [List.getD_eq_getElem?_getD, List.getElem?_set]
  by_cases e : s = u
  · subst e
    have : s.toNat < R.length := by omega
    simp [this]
  · have : s.toNat ≠ u.toNat := by omega
    simp [this, e]
theorem rat_mem {R : List (List Int)} {s : Int} (h0 : 0 ≤ s) (h : s < R.length) : rat R s ∈ R := by
  unfold rat
  rw [List.getD_eq_getElem?_getD, List.getElem?_eq_getElem (by omega)]
  exact List.getElem_mem _
theorem mem_rat {R : List (List Int)} {r : List Int} (h : r ∈ R) : ∃ s : Int, 0 ≤ s ∧ s < R.length ∧ rat R s = r := by
  obtain ⟨i, hi, e⟩ := List.getElem_of_mem h
  refine ⟨i, by omega, by omega, ?_⟩
  unfold rat
  rw [List.getD_eq_getElem?_getD]
  simp [List.getElem?_eq_getElem hi, e]
theorem mem_flat {R : List (List Int)} {k : Int} : k ∈ R.flatten ↔ ∃ s : Int, 0 ≤ s ∧ s < R.length ∧ k ∈ rat R s := by
  rw [List.mem_flatten]
  constructor
  · rintro ⟨r, hr, hk⟩
    obtain ⟨s, h0, h1, e⟩ := mem_rat hr
    exact ⟨s, h0, h1, e ▸ hk⟩
  · rintro ⟨s, h0, h1, hk⟩
    exact ⟨_, rat_mem h0 h1, hk⟩
theorem flat_set : ∀ (R : List (List Int)) (i : Nat) (r : List Int) (h : i < R.length), (R.set i r).flatten.length + R[i].length = R.flatten.length + r.length
  | [], i, r, h => by simp at h
  | a :: R, 0, r, h => by simp; omega
  | a :: R, i + 1, r, h => by
    have := flat_set R i r (by simpa using h)
    simp only [List.set_cons_succ, List.flatten_cons, List.length_append, List.getElem_cons_succ]
    omega
theorem flat_rput {R : List (List Int)} {s : Int} {r : List Int} (h0 : 0 ≤ s) (h : s < R.length) : (rput R s r).flatten.length + (rat R s).length = R.flatten.length + r.length := by
  have hl : s.toNat < R.length := by omega
  have := flat_set R s.toNat r hl
  unfold rput rat
  rw [List.getD_eq_getElem?_getD, List.getElem?_eq_getElem hl]
  exact this
/-- rows with their keys at home, each once -/
structure Homed (h : String) (R : List (List Int)) : Prop where
  size : SizeOk R.length
  home : ∀ s : Int, 0 ≤ s → s < R.length → ∀ k ∈ rat R s, homeOf h k R.length = s
  nodup : ∀ r ∈ R, r.Nodup
theorem Homed.flat {h : String} {R : List (List Int)} (o : Homed h R) : R.flatten.Nodup := by
  refine List.pairwise_flatten.mpr ⟨o.nodup, ?_⟩
  rw [List.pairwise_iff_getElem]
  intro i j hi hj hij x hx y hy e
  subst e
  have a1 : rat R (i : Int) = R[i] := by
    unfold rat
    simp [List.getD_eq_getElem?_getD, List.getElem?_eq_getElem hi]
  have a2 : rat R (j : Int) = R[j] := by
    unfold rat
    simp [List.getD_eq_getElem?_getD, List.getElem?_eq_getElem hj]
  have h1 := o.home i (by omega) (by omega) x (by rw [a1]; exact hx)
  have h2 := o.home j (by omega) (by omega) x (by rw [a2]; exact hy)
  omega
theorem Homed.place {h c : String} {R : List (List Int)} {k : Int} (o : Homed h R) (hk : k ∉ rat R (homeOf h k R.length)) : Homed h (placeR h c R k) ∧ (placeR h c R k).flatten.length = R.flatten.length + 1 ∧ (∀ x, x ∈ (placeR h c R k).flatten ↔ x = k ∨ x ∈ R.flatten) ∧ (placeR h c R k).length = R.length := by
  obtain ⟨h0, h1⟩ := home_rng (h := h) (k := k) o.size
  have mr : ∀ x, x ∈ (if c = "front" then k :: rat R (homeOf h k R.length) else rat R (homeOf h k R.length) ++ [k]) ↔ x = k ∨ x ∈ rat R (homeOf h k R.length) := fun x => by
    split
    · simp
    · simp [or_comm]
  have ln : (if c = "front" then k :: rat R (homeOf h k R.length) else rat R (homeOf h k R.length) ++ [k]).length = (rat R (homeOf h k R.length)).length + 1 := by
    split <;> simp
  have nd : (if c = "front" then k :: rat R (homeOf h k R.length) else rat R (homeOf h k R.length) ++ [k]).Nodup := by
    have n1 := o.nodup _ (rat_mem h0 h1)
    split
    · exact List.nodup_cons.mpr ⟨hk, n1⟩
    · rw [List.nodup_append]
      refine ⟨n1, by simp, fun a ha b hb e => ?_⟩
      simp at hb
      have : a = k := e.trans hb
      subst this
      exact hk ha
  unfold placeR
  generalize (if c = "front" then k :: rat R (homeOf h k R.length) else rat R (homeOf h k R.length) ++ [k]) = r at mr ln nd
  have hl : (rput R (homeOf h k R.length) r).length = R.length := rput_len _ _ _
  refine ⟨⟨by rw [hl]; exact o.size, fun s s0 s1 x hx => ?_, fun q hq => ?_⟩, ?_, fun x => ?_, hl⟩
  · rw [hl] at s1 ⊢
    rw [rat_rput h0 s0 h1] at hx
    split at hx
    · rename_i e
      rcases (mr x).mp hx with z | z
      · rw [z]; exact e
      · rw [o.home _ h0 h1 x z]; exact e
    · exact o.home s s0 s1 x hx
  · rcases List.mem_or_eq_of_mem_set hq with z | z
    · exact o.nodup q z
    · rw [z]; exact nd
  · have := flat_rput (r := r) h0 h1
    omega
  · rw [mem_flat, mem_flat, hl]
    constructor
    · rintro ⟨s, s0, s1, hx⟩
      rw [rat_rput h0 s0 h1] at hx
      split at hx
      · rcases (mr x).mp hx with z | z
        · exact .inl z
        · exact .inr ⟨_, h0, h1, z⟩
      · exact .inr ⟨s, s0, s1, hx⟩
    · rintro (z | ⟨s, s0, s1, hx⟩)
      · exact ⟨_, h0, h1, by rw [rat_rput h0 h0 h1, if_pos rfl]; exact (mr x).mpr (.inl z)⟩
      · refine ⟨s, s0, s1, ?_⟩
        rw [rat_rput h0 s0 h1]
        split
        · rename_i e
          exact (mr x).mpr (.inr (by rw [e]; exact hx))
        · exact hx
theorem rat_replicate (n : Nat) (s : Int) : rat (List.replicate n []) s = [] := by
  unfold rat
  rw [List.getD_eq_getElem?_getD, List.getElem?_replicate]
  split <;> rfl
theorem Homed.empty {h : String} {n : Nat} (hn : SizeOk n) : Homed h (List.replicate n []) := by
  refine ⟨by simpa using hn, fun s _ _ k hk => ?_, fun r hr => ?_⟩
  · rw [rat_replicate] at hk
    cases hk
  · rw [List.eq_of_mem_replicate hr]
    simp
theorem flat_replicate (n : Nat) : (List.replicate n ([] : List Int)).flatten = [] := by
  induction n with
  | zero => rfl
  | succ n ih => rw [List.replicate_succ, List.flatten_cons, ih]; rfl
theorem Homed.fold {h c : String} : ∀ (L : List Int) (R : List (List Int)), Homed h R → L.Nodup → (∀ x ∈ L, x ∉ R.flatten) → Homed h (L.foldl (placeR h c) R) ∧ (L.foldl (placeR h c) R).flatten.length = R.flatten.length + L.length ∧ (∀ x, x ∈ (L.foldl (placeR h c) R).flatten ↔ x ∈ L ∨ x ∈ R.flatten) ∧ (L.foldl (placeR h c) R).length = R.length
  | [], R, o, _, _ => ⟨o, rfl, fun x => by simp, rfl⟩
  | k :: L, R, o, hn, hd => by
    obtain ⟨hn1, hn2⟩ := List.nodup_cons.mp hn
    obtain ⟨h0, h1⟩ := home_rng (h := h) (k := k) o.size
    obtain ⟨p1, p2, p3, p4⟩ := o.place (c := c) (k := k) fun z => hd k List.mem_cons_self (mem_flat.mpr ⟨_, h0, h1, z⟩)
    obtain ⟨q1, q2, q3, q4⟩ := Homed.fold (c := c) L (placeR h c R k) p1 hn2 fun x hx z => by
      rcases (p3 x).mp z with z | z
      · exact hn1 (z ▸ hx)
      · exact hd x (List.mem_cons_of_mem _ hx) z
    refine ⟨q1, ?_, fun x => ?_, q4.trans p4⟩
    · rw [List.foldl_cons, q2, p2]
      simp only [List.length_cons]
      omega
    · rw [List.foldl_cons, q3, p3, List.mem_cons]
      constructor
      · rintro (z | z | z)
        · exact .inl (.inr z)
        · exact .inl (.inl z)
        · exact .inr z
      · rintro ((z | z) | z)
        · exact .inr (.inl z)
        · exact .inl z
        · exact .inr (.inr z)
theorem anewR_spec {h c : String} (R : List (List Int)) {n : Nat} (hn : SizeOk n) : Homed h (anewR h c R n) ∧ (anewR h c R n).flatten.length = (once [] R.flatten).length ∧ (∀ x, x ∈ (anewR h c R n).flatten ↔ x ∈ R.flatten) ∧ (anewR h c R n).length = n := by
  obtain ⟨q1, q2, q3, q4⟩ := Homed.fold (h := h) (c := c) (once [] R.flatten) (List.replicate n []) (.empty hn) (once_nodup _) fun x _ z => by rw [flat_replicate] at z; cases z
  unfold anewR
  refine ⟨q1, by rw [q2, flat_replicate]; simp, fun x => ?_, by rw [q4]; simp⟩
  rw [q3, flat_replicate, once_mem]
  simp
structure OkR (h o : String) (ks : List Int) (R : List (List Int)) : Prop where
  hm : Homed h R
  rng : ∀ k ∈ R.flatten, KeyOk k ∧ k ∈ ks
  many : (R.flatten.length : Int) ≤ manyOf o R.length
def OneOk (o : String) : Prop := o = "one" ∨ o = "two"
theorem many_lt {o : String} {n : Int} (ho : OneOk o) (hn : SizeOk n) : n ≤ manyOf o n ∧ manyOf o n ≤ 2 * n ∧ manyOf o n + 1 ≤ manyOf o (2 * n) := by
  unfold manyOf
  rcases ho with rfl | rfl <;> rcases hn with rfl | rfl | rfl | rfl | rfl <;> decide
theorem OkR.begun {h o : String} {ks : List Int} (ho : OneOk o) : OkR h o ks (List.replicate 4 []) := by
  refine ⟨.empty (.inl rfl), fun k hk => ?_, ?_⟩
  · rw [flat_replicate] at hk
    cases hk
  · rw [flat_replicate]
    have := (many_lt (n := 4) ho (.inl rfl)).1
    simp
    omega
theorem OkR.total {h o : String} {ks : List Int} {R : List (List Int)} (k : OkR h o ks R) : R.flatten.length ≤ ks.length := nodup_le k.hm.flat fun x hx => (k.rng x hx).2
theorem OkR.grown {h c o : String} {ks : List Int} {R : List (List Int)} (k : OkR h o ks R) (ho : OneOk o) (hk : ks.length ≤ 30) : OkR h o ks (grownR h c o R) ∧ ((grownR h c o R).flatten.length : Int) + 1 ≤ manyOf o (grownR h c o R).length ∧ (∀ x, x ∈ (grownR h c o R).flatten ↔ x ∈ R.flatten) := by
  have hl := many_lt ho k.hm.size
  have ht := k.total
  have hm := k.many
  unfold grownR
  split
  · rename_i e
    exact ⟨k, e, fun x => Iff.rfl⟩
  · rename_i e
    have hs : SizeOk ((2 * R.length : Nat) : Int) := by
      rcases k.hm.size with z | z | z | z | z
      · exact .inr (.inl (by omega))
      · exact .inr (.inr (.inl (by omega)))
      · exact .inr (.inr (.inr (.inl (by omega))))
      · exact .inr (.inr (.inr (.inr (by omega))))
      · rw [z] at hl e
        omega
    obtain ⟨q1, q2, q3, q4⟩ := anewR_spec (h := h) (c := c) R hs
    have ol := once_len R.flatten
    have e3 : ((2 * R.length : Nat) : Int) = 2 * (R.length : Int) := by omega
    refine ⟨⟨q1, fun x hx => k.rng x ((q3 x).mp hx), ?_⟩, ?_, q3⟩
    · rw [q4, q2, e3]
      omega
    · rw [q4, q2, e3]
      omega
theorem OkR.placed {h c o : String} {ks : List Int} {R : List (List Int)} {k : Int} (r : OkR h o ks R) (hn : k ∉ R.flatten) (hu : (R.flatten.length : Int) + 1 ≤ manyOf o R.length) (hk : KeyOk k) (hm : k ∈ ks) : OkR h o ks (placeR h c R k) := by
  obtain ⟨h0, h1⟩ := home_rng (h := h) (k := k) r.hm.size
  obtain ⟨p1, p2, p3, p4⟩ := r.hm.place (c := c) (k := k) fun z => hn (mem_flat.mpr ⟨_, h0, h1, z⟩)
  refine ⟨p1, fun x hx => ?_, by rw [p4, p2]; omega⟩
  rcases (p3 x).mp hx with z | z
  · exact ⟨z ▸ hk, z ▸ hm⟩
  · exact r.rng x z
theorem OkR.removed {h o : String} {ks : List Int} {R : List (List Int)} {s k : Int} (r : OkR h o ks R) (h0 : 0 ≤ s) (h1 : s < R.length) : OkR h o ks (rput R s ((rat R s).filter (· ≠ k))) := by
  have hl : (rput R s ((rat R s).filter (· ≠ k))).length = R.length := rput_len _ _ _
  have sub : ∀ x, x ∈ (rput R s ((rat R s).filter (· ≠ k))).flatten → x ∈ R.flatten := fun x hx => by
    obtain ⟨u, u0, u1, hx⟩ := mem_flat.mp hx
    rw [hl] at u1
    rw [rat_rput h0 u0 h1] at hx
    split at hx
    · exact mem_flat.mpr ⟨s, h0, h1, (List.mem_filter.mp hx).1⟩
    · exact mem_flat.mpr ⟨u, u0, u1, hx⟩
  refine ⟨⟨by rw [hl]; exact r.hm.size, fun u u0 u1 x hx => ?_, fun q hq => ?_⟩, fun x hx => r.rng x (sub x hx), ?_⟩
  · rw [hl] at u1 ⊢
    rw [rat_rput h0 u0 h1] at hx
    split at hx
    · rename_i e
      rw [← e]
      exact r.hm.home s h0 h1 x (List.mem_filter.mp hx).1
    · exact r.hm.home u u0 u1 x hx
  · rcases List.mem_or_eq_of_mem_set hq with z | z
    · exact r.hm.nodup q z
    · rw [z]
      exact (r.hm.nodup _ (rat_mem h0 h1)).filter _
  · rw [hl]
    have f := flat_rput (r := (rat R s).filter (· ≠ k)) h0 h1
    have g := List.length_filter_le (· ≠ k) (rat R s)
    have := r.many
    omega
/-! ### both -/
def Ok (w : Way) (ks : List Int) (t : Tab) : Prop := match w, t with
  | .r h _ o, .r R => OkR h o ks R
  | .s _ _ _ _ gr, .s T => OkS gr ks T
  | _, _ => False
theorem Ok.begun {w : Way} (hw : w.Ok) (ks : List Int) : Ok w ks (begun w) := by
  cases w with
  | r h c o => exact OkR.begun hw.2.2
  | s h st c g gr => exact OkS.begun hw.2.2.2.2.1
theorem Ok.done {w : Way} {ks : List Int} {t : Tab} {kd : Deed3} {k : Int} (hw : w.Ok) (o : Ok w ks t) (hk : KeyOk k) (hm : k ∈ ks) (hl : ks.length ≤ 30) : Ok w ks (done w t kd k) := by
  cases w with
  | r h c oo =>
    cases t with
    | s T => exact o.elim
    | r R =>
      have o' : OkR h oo ks R := o
      obtain ⟨h0, h1⟩ := home_rng (h := h) (k := k) o'.hm.size
      have nf : (found (.r h c oo) (.r R) k).1 = none → k ∉ R.flatten := fun e z => by
        obtain ⟨s, s0, s1, hs⟩ := mem_flat.mp z
        have := o'.hm.home s s0 s1 k hs
        simp only [found] at e
        rw [this, if_pos hs] at e
        cases e
      have fd : ∀ s, (found (.r h c oo) (.r R) k).1 = some s → s = homeOf h k R.length := fun s e => by
        simp only [found] at e
        split at e
        · cases e
          rfl
        · cases e
      unfold TM.done
      cases kd with
      | ask => exact o
      | put =>
        cases e : (found (.r h c oo) (.r R) k).1 with
        | none =>
          obtain ⟨g1, g2, g3⟩ := o'.grown (c := c) hw.2.2 hl
          exact g1.placed (fun z => nf e ((g3 k).mp z)) g2 hk hm
        | some s => exact o
      | take =>
        cases e : (found (.r h c oo) (.r R) k).1 with
        | none => exact o
        | some s =>
          rw [fd s e]
          exact o'.removed h0 h1
  | s h st c g gr =>
    cases t with
    | r R => exact o.elim
    | s T =>
      have o' : OkS gr ks T := o
      unfold TM.done
      cases kd with
      | ask => exact o
      | put =>
        cases e : (found (.s h st c g gr) (.s T) k).1 with
        | none =>
          obtain ⟨g1, g2⟩ := o'.grown (h := h) (st := st) (c := c) hw.2.2.2.2.1 hl
          exact g1.placed hw.2.2.2.2.1 g2 hk hm
        | some s => exact o
      | take =>
        cases e : (found (.s h st c g gr) (.s T) k).1 with
        | none => exact o
        | some s =>
          obtain ⟨z1, z2, z3⟩ := (seek_spec T k (pathOf h st k T.length) 0).1 s e
          obtain ⟨s0, s1⟩ := (path_mem o'.size).mp z1
          exact o'.removed hw.2.2.2.2.1 s0 s1 z3
end TM

namespace TM
/-! ### one turn of a walk that moves keys -/
structure ShI (st : String) (n : Int) (f : Nat) (T : List Int) (s : Int) : Prop where
  len : (T.length : Int) = n
  s0 : 0 ≤ s
  s1 : s < n
  ex : ∃ j : Nat, j < f ∧ ga T (iter st n j s) < 0
theorem iter_rng {st : String} {n : Int} (hn : 0 < n) (j : Nat) {s : Int} (h0 : 0 ≤ s) (h1 : s < n) : 0 ≤ iter st n j s ∧ iter st n j s < n := by
  rw [iter_eq hn _ _ h0 h1]
  split <;> exact ⟨Int.emod_nonneg _ (by omega), Int.emod_lt_of_pos _ hn⟩
theorem ShI.step {st : String} {n : Int} {f : Nat} {T : List Int} {s : Int} (hn : 0 < n) (i : ShI st n f T s) (hg : 0 ≤ ga T s) (m : Int) : ∃ f', f = f' + 1 ∧ ShI st n f' (put T s m) (nxt st s n) ∧ ShI st n f' T (nxt st s n) := by
  obtain ⟨len, s0, s1, j, hj, ej⟩ := i
  obtain ⟨a, b⟩ := nxt_rng (st := st) (s := s) hn
  have hj0 : j ≠ 0 := fun z => by
    subst z
    unfold iter at ej
    omega
  obtain ⟨i, rfl⟩ : ∃ i, j = i + 1 := ⟨j - 1, by omega⟩
  have ej' : ga T (iter st n i (nxt st s n)) < 0 := ej
  have hne : s ≠ iter st n i (nxt st s n) := fun z => by
    rw [← z] at ej'
    omega
  refine ⟨f - 1, by omega, ⟨by rw [put_len]; exact len, a, b, i, by omega, ?_⟩, len, a, b, i, by omega, ej'⟩
  rw [ga_put s0 (iter_rng hn i a b).1 (by omega), if_neg hne]
  exact ej'
theorem ShI.free {st : String} {n : Int} {f : Nat} {T : List Int} {s : Int} (i : ShI st n f T s) : ∃ f', f = f' + 1 := by
  obtain ⟨j, hj, _⟩ := i.ex
  exact ⟨f - 1, by omega⟩
theorem ShI.start {st h : String} {T : List Int} {k : Int} (hn : SizeOk T.length) (hu : used T < T.length) : ShI st T.length T.length T (homeOf h k T.length) := by
  obtain ⟨n0, n1⟩ := small hn
  obtain ⟨e, e0, e1, ee⟩ := exists_empty hu
  obtain ⟨h0, h1⟩ := home_rng (h := h) (k := k) hn
  obtain ⟨j, hj, ej⟩ := iter_meets (st := st) n0 h0 h1 e0 e1
  exact ⟨rfl, h0, h1, j, by omega, by rw [ej, ee]; decide⟩
structure PuI (st : String) (n : Int) (f : Nat) (T : List Int) (s a : Int) : Prop where
  len : (T.length : Int) = n
  s0 : 0 ≤ s
  s1 : s < n
  a0 : 0 ≤ a
  a1 : a < n
  gap : ga T s = -1
  ex : ∃ j : Nat, j < f ∧ ga T (iter st n (j + 1) a) = -1 ∧ iter st n (j + 1) a ≠ s
theorem PuI.free {st : String} {n : Int} {f : Nat} {T : List Int} {s a : Int} (i : PuI st n f T s a) : ∃ f', f = f' + 1 := by
  obtain ⟨j, hj, _⟩ := i.ex
  exact ⟨f - 1, by omega⟩
theorem PuI.step {st : String} {n : Int} {f : Nat} {T : List Int} {s a : Int} (hn : 0 < n) (i : PuI st n f T s a) (hg : ga T (nxt st a n) ≠ -1) : ∃ f', f = f' + 1 ∧ PuI st n f' (put (put T s (ga T (nxt st a n))) (nxt st a n) (-1)) (nxt st a n) (nxt st a n) ∧ PuI st n f' T s (nxt st a n) := by
  obtain ⟨len, s0, s1, a0, a1, es, j, hj, ej, nj⟩ := i
  obtain ⟨b0, b1⟩ := nxt_rng (st := st) (s := a) hn
  have hj0 : j ≠ 0 := fun z => by
    subst z
    exact hg ej
  obtain ⟨i, rfl⟩ : ∃ i, j = i + 1 := ⟨j - 1, by omega⟩
  have ej' : ga T (iter st n (i + 1) (nxt st a n)) = -1 := ej
  have nj' : iter st n (i + 1) (nxt st a n) ≠ s := nj
  have r0 := (iter_rng (st := st) hn (i + 1) b0 b1).1
  have l1 : s < T.length := by omega
  have l2 : nxt st a n < (put T s (ga T (nxt st a n))).length := by rw [put_len]; omega
  have ne : nxt st a n ≠ iter st n (i + 1) (nxt st a n) := fun z => hg (by rw [z]; exact ej')
  refine ⟨f - 1, by omega, ⟨by rw [put_len, put_len]; exact len, b0, b1, b0, b1, by rw [ga_put b0 b0 l2, if_pos rfl], i, by omega, ?_, fun z => ne z.symm⟩, len, s0, s1, b0, b1, es, i, by omega, ej', nj'⟩
  rw [ga_put b0 r0 l2, if_neg ne, ga_put s0 r0 l1, if_neg (fun z => nj' z.symm)]
  exact ej'
theorem PuI.start {st : String} {T : List Int} {s : Int} (hn : SizeOk T.length) (hu : used T < T.length) (h0 : 0 ≤ s) (h1 : s < T.length) (hs : ga T s ≠ -1) : PuI st T.length T.length (put T s (-1)) s s := by
  obtain ⟨n0, n1⟩ := small hn
  obtain ⟨e, e0, e1, ee⟩ := exists_empty hu
  have ne : e ≠ s := fun z => hs (by rw [← z]; exact ee)
  obtain ⟨j, hj, ej⟩ := iter_meets (st := st) n0 h0 h1 e0 e1
  have j0 : j ≠ 0 := fun z => by
    subst z
    exact ne ej.symm
  obtain ⟨i, rfl⟩ : ∃ i, j = i + 1 := ⟨j - 1, by omega⟩
  exact ⟨by rw [put_len], h0, h1, h0, h1, by rw [ga_put h0 h0 h1, if_pos rfl], i, by omega, by rw [ej, ga_put h0 e0 h1, if_neg (fun z => ne z.symm)]; exact ee, by rw [ej]; exact ne⟩
theorem shove_turn (h st c : String) (n : Int) (f : Nat) (T : List Int) (s m : Int) : shove h st c n (f + 1) T s m = if 0 ≤ ga T s then
      (if c = "first" ∨ dist h st (ga T s) s n < dist h st m s n then shove h st c n f (put T s m) (nxt st s n) (ga T s) else shove h st c n f T (nxt st s n) m)
    else put T s m := rfl
theorem pull_turn (h st : String) (n : Int) (f : Nat) (T : List Int) (s a : Int) : pull h st n (f + 1) T s a = if ga T (nxt st a n) = -1 then T else
      if dist h st (ga T (nxt st a n)) s n ≤ dist h st (ga T (nxt st a n)) (nxt st a n) n then pull h st n f (put (put T s (ga T (nxt st a n))) (nxt st a n) (-1)) (nxt st a n) (nxt st a n)
      else pull h st n f T s (nxt st a n) := rfl
end TM
namespace TM
/-! ### rows of deeds -/
abbrev RowT := List (Deed3 × Int)
/-- behind each deed: the table, whether the key was found, the looks -/
def hist (w : Way) : Tab → RowT → List (Tab × Bool × Int)
  | _, [] => []
  | t, p :: r => (done w t p.1 p.2, (found w t p.2).1.isSome, (found w t p.2).2) :: hist w (done w t p.1 p.2) r
def endT (w : Way) : Tab → RowT → Tab
  | t, [] => t
  | t, p :: r => endT w (done w t p.1 p.2) r
structure RowOk (ks : List Int) (r : RowT) : Prop where
  keys : ∀ p ∈ r, KeyOk p.2 ∧ p.2 ∈ ks
  len : r.length ≤ 24
theorem hist_len (w : Way) : ∀ (t : Tab) (r : RowT), (hist w t r).length = r.length
  | _, [] => rfl
  | t, p :: r => by simp [hist, hist_len w _ r]
theorem Ok.hist {w : Way} {ks : List Int} (hw : w.Ok) (hl : ks.length ≤ 30) : ∀ {t : Tab} {r : RowT}, Ok w ks t → (∀ p ∈ r, KeyOk p.2 ∧ p.2 ∈ ks) → ∀ x ∈ TM.hist w t r, Ok w ks x.1
  | t, [], _, _, x, hx => by cases hx
  | t, p :: r, o, hr, x, hx => by
    have h1 := hr p List.mem_cons_self
    have o1 := o.done (kd := p.1) hw h1.1 h1.2 hl
    rcases List.mem_cons.mp hx with z | z
    · rw [z]
      exact o1
    · exact Ok.hist hw hl o1 (fun q hq => hr q (List.mem_cons_of_mem _ hq)) x z
theorem Ok.endT {w : Way} {ks : List Int} (hw : w.Ok) (hl : ks.length ≤ 30) : ∀ {t : Tab} {r : RowT}, Ok w ks t → (∀ p ∈ r, KeyOk p.2 ∧ p.2 ∈ ks) → Ok w ks (TM.endT w t r)
  | t, [], o, _ => o
  | t, p :: r, o, hr => by
    have o1 := o.done (kd := p.1) hw (hr p List.mem_cons_self).1 (hr p List.mem_cons_self).2 hl
    exact Ok.endT (t := TM.done w t p.1 p.2) (r := r) hw hl o1 fun q hq => hr q (List.mem_cons_of_mem _ hq)
theorem endT_hist (w : Way) : ∀ (t : Tab) (r : RowT), (t :: (hist w t r).map (·.1)).getLast? = some (endT w t r)
  | t, [] => rfl
  | t, p :: r => by
    simp only [hist, List.map_cons, endT]
    rw [List.getLast?_cons_cons]
    exact endT_hist w _ r
end TM

namespace G6
open PySem PySem.Spec L2 DL TM
/-! ### ways -/
def rowsW (h c o : String) : D := .tuple [.str (Str.ofString "rows"), .str (Str.ofString h), .str (Str.ofString c), .str (Str.ofString o)]
def slotsW (h st c g gr : String) : D := .tuple [.str (Str.ofString "slots"), .str (Str.ofString h), .str (Str.ofString st), .str (Str.ofString c), .str (Str.ofString g), .str (Str.ofString gr)]
def wayD : Way → D
  | .r h c o => rowsW h c o
  | .s h st c g gr => slotsW h st c g gr
section
variable {Q : D → Prop} {E : Str → Prop}
theorem way_drawn (q : ∀ w : Way, w.Ok → Q (wayD w)) : m__law_way [sD, tD] Q E := by
  simp only [m__law_way_r, zaa, zab, zac, zad, zae, zaf, zag, zah, zai, zaj, zak, zal, zam, zan, zao, zap, zaq, zar, zas, zat, zau, zav, zaw, zax, zay, zaz, zaA, zaB, zaC, zaD, zaE, zaF, zaG, zaH, zaI, zaJ, zaK, zaL, zaM, zaN, zaO, zaP, zaQ, zaR, zaS, zaT, zaU, zaV, startE, full, fullE, clean, cleanE, zaW, zaX, zaY, zaZ, zba, zbb, zbc, zbd, zbe, zbf, zbg, zbh, zbi, zbj, zbk, zbl, zbm, zbn, zbo, zbp, zbq, zbr, zbs, zbt, zbu, zbv, zbw, zbx, zby, zbz, zbA, zbB, zbC, zbD, zbE, zbF, zbG, zbH, zbI, zbJ, zbK, zbL, zbM, zbN, zbO, zbP, Bool.bne_false, Bool.bne_true, zbQ, zbR, zbS, zbT, zbU, zbV, zbW, zbX, zbY, zbZ, zca, zcb, zcc, zcd, zce, zcf, zcg, zch, zci, zcj, zck, zcl, zcm, zcn, zco, setAll, wipeR, setV, zcp, zcq, zcr, zcs, zct, zcu, zcv, zcw, zcx, zcy, zcz, zcA, zcB, zcC, List.any_cons, List.any_nil, List.map_cons, List.map_nil, List.length_cons, List.length_nil, List.replicate, Nat.sub_self, List.cons_append, List.nil_append, List.append_nil, List.getElem?_cons_zero, List.getElem?_cons_succ, List.set_cons_zero, List.set_cons_succ, List.set_nil, zcD, zcE, zcF, zcG, zcH, zcI, zcJ, zcK, zcL, zcM, zcN, zcO, zcP, zcQ, zcR, zcS, zcT, zcU, zcV, zcW, zcX, zcY, zcZ, zda, zdb, zdc, zdd, zde, zdf, zdg, zdh, zdi, zdj, zdk, zdl, zdm, zdn, zdo, zdp, zdq, zdr, zds, zdt, zdu, zdv, zdw, zdx, zdy, zdz, zdA, zdB, zdC, zdD, zdE, zdF, zdG, zdH, zdI, zdJ, zdK, zdL, zdM, zdN, zdO]
  simp [b1__law_way_r, zaa, zab, zac, zad, zae, zaf, zag, zah, zai, zaj, zak, zal, zam, zan, zao, zap, zaq, zar, zas, zat, zau, zav, zaw, zax, zay, zaz, zaA, zaB, zaC, zaD, zaE, zaF, zaG, zaH, zaI, zaJ, zaK, zaL, zaM, zaN, zaO, zaP, zaQ, zaR, zaS, zaT, zaU, zaV, startE, full, fullE, clean, cleanE, zaW, zaX, zaY, zaZ, zba, zbb, zbc, zbd, zbe, zbf, zbg, zbh, zbi, zbj, zbk, zbl, zbm, zbn, zbo, zbp, zbq, zbr, zbs, zbt, zbu, zbv, zbw, zbx, zby, zbz, zbA, zbB, zbC, zbD, zbE, zbF, zbG, zbH, zbI, zbJ, zbK, zbL, zbM, zbN, zbO, zbP, Bool.bne_false, Bool.bne_true, zbQ, zbR, zbS, zbT, zbU, zbV, zbW, zbX, zbY, zbZ, zca, zcb, zcc, zcd, zce, zcf, zcg, zch, zci, zcj, zck, zcl, zcm, zcn, zco, setAll, wipeR, setV, zcp, zcq, zcr, zcs, zct, zcu, zcv, zcw, zcx, zcy, zcz, zcA, zcB, zcC, List.any_cons, List.any_nil, List.map_cons, List.map_nil, List.length_cons, List.length_nil, List.replicate, Nat.sub_self, List.cons_append, List.nil_append, List.append_nil, List.getElem?_cons_zero, List.getElem?_cons_succ, List.set_cons_zero, List.set_cons_succ, List.set_nil, zcD, zcE, zcF, zcG, zcH, zcI, zcJ, zcK, zcL, zcM, zcN, zcO, zcP, zcQ, zcR, zcS, zcT, zcU, zcV, zcW, zcX, zcY, zcZ, zda, zdb, zdc, zdd, zde, zdf, zdg, zdh, zdi, zdj, zdk, zdl, zdm, zdn, zdo, zdp, zdq, zdr, zds, zdt, zdu, zdv, zdw, zdx, zdy, zdz, zdA, zdB, zdC, zdD, zdE, zdF, zdG, zdH, zdI, zdJ, zdK, zdL, zdM, zdN, zdO]
  refine fun r1 a1 b1 => ⟨⟨by decide, by decide⟩, ?_⟩
  refine pickW ["low", "fold"] (by omega) (by simp; omega) fun h hh => ?_
  simp [b4__law_way_r, zaa, zab, zac, zad, zae, zaf, zag, zah, zai, zaj, zak, zal, zam, zan, zao, zap, zaq, zar, zas, zat, zau, zav, zaw, zax, zay, zaz, zaA, zaB, zaC, zaD, zaE, zaF, zaG, zaH, zaI, zaJ, zaK, zaL, zaM, zaN, zaO, zaP, zaQ, zaR, zaS, zaT, zaU, zaV, startE, full, fullE, clean, cleanE, zaW, zaX, zaY, zaZ, zba, zbb, zbc, zbd, zbe, zbf, zbg, zbh, zbi, zbj, zbk, zbl, zbm, zbn, zbo, zbp, zbq, zbr, zbs, zbt, zbu, zbv, zbw, zbx, zby, zbz, zbA, zbB, zbC, zbD, zbE, zbF, zbG, zbH, zbI, zbJ, zbK, zbL, zbM, zbN, zbO, zbP, Bool.bne_false, Bool.bne_true, zbQ, zbR, zbS, zbT, zbU, zbV, zbW, zbX, zbY, zbZ, zca, zcb, zcc, zcd, zce, zcf, zcg, zch, zci, zcj, zck, zcl, zcm, zcn, zco, setAll, wipeR, setV, zcp, zcq, zcr, zcs, zct, zcu, zcv, zcw, zcx, zcy, zcz, zcA, zcB, zcC, List.any_cons, List.any_nil, List.map_cons, List.map_nil, List.length_cons, List.length_nil, List.replicate, Nat.sub_self, List.cons_append, List.nil_append, List.append_nil, List.getElem?_cons_zero, List.getElem?_cons_succ, List.set_cons_zero, List.set_cons_succ, List.set_nil, zcD, zcE, zcF, zcG, zcH, zcI, zcJ, zcK, zcL, zcM, zcN, zcO, zcP, zcQ, zcR, zcS, zcT, zcU, zcV, zcW, zcX, zcY, zcZ, zda, zdb, zdc, zdd, zde, zdf, zdg, zdh, zdi, zdj, zdk, zdl, zdm, zdn, zdo, zdp, zdq, zdr, zds, zdt, zdu, zdv, zdw, zdx, zdy, zdz, zdA, zdB, zdC, zdD, zdE, zdF, zdG, zdH, zdI, zdJ, zdK, zdL, zdM, zdN, zdO]
  refine fun r2 a2 b2 => ?_
  split
  · simp [b2__law_way_r, zaa, zab, zac, zad, zae, zaf, zag, zah, zai, zaj, zak, zal, zam, zan, zao, zap, zaq, zar, zas, zat, zau, zav, zaw, zax, zay, zaz, zaA, zaB, zaC, zaD, zaE, zaF, zaG, zaH, zaI, zaJ, zaK, zaL, zaM, zaN, zaO, zaP, zaQ, zaR, zaS, zaT, zaU, zaV, startE, full, fullE, clean, cleanE, zaW, zaX, zaY, zaZ, zba, zbb, zbc, zbd, zbe, zbf, zbg, zbh, zbi, zbj, zbk, zbl, zbm, zbn, zbo, zbp, zbq, zbr, zbs, zbt, zbu, zbv, zbw, zbx, zby, zbz, zbA, zbB, zbC, zbD, zbE, zbF, zbG, zbH, zbI, zbJ, zbK, zbL, zbM, zbN, zbO, zbP, Bool.bne_false, Bool.bne_true, zbQ, zbR, zbS, zbT, zbU, zbV, zbW, zbX, zbY, zbZ, zca, zcb, zcc, zcd, zce, zcf, zcg, zch, zci, zcj, zck, zcl, zcm, zcn, zco, setAll, wipeR, setV, zcp, zcq, zcr, zcs, zct, zcu, zcv, zcw, zcx, zcy, zcz, zcA, zcB, zcC, List.any_cons, List.any_nil, List.map_cons, List.map_nil, List.length_cons, List.length_nil, List.replicate, Nat.sub_self, List.cons_append, List.nil_append, List.append_nil, List.getElem?_cons_zero, List.getElem?_cons_succ, List.set_cons_zero, List.set_cons_succ, List.set_nil, zcD, zcE, zcF, zcG, zcH, zcI, zcJ, zcK, zcL, zcM, zcN, zcO, zcP, zcQ, zcR, zcS, zcT, zcU, zcV, zcW, zcX, zcY, zcZ, zda, zdb, zdc, zdd, zde, zdf, zdg, zdh, zdi, zdj, zdk, zdl, zdm, zdn, zdo, zdp, zdq, zdr, zds, zdt, zdu, zdv, zdw, zdx, zdy, zdz, zdA, zdB, zdC, zdD, zdE, zdF, zdG, zdH, zdI, zdJ, zdK, zdL, zdM, zdN, zdO]
    refine fun r3 a3 b3 => ?_
    refine pickW ["front", "end"] (by omega) (by simp; omega) fun c hc => ?_
    simp [b3__law_way_r, zaa, zab, zac, zad, zae, zaf, zag, zah, zai, zaj, zak, zal, zam, zan, zao, zap, zaq, zar, zas, zat, zau, zav, zaw, zax, zay, zaz, zaA, zaB, zaC, zaD, zaE, zaF, zaG, zaH, zaI, zaJ, zaK, zaL, zaM, zaN, zaO, zaP, zaQ, zaR, zaS, zaT, zaU, zaV, startE, full, fullE, clean, cleanE, zaW, zaX, zaY, zaZ, zba, zbb, zbc, zbd, zbe, zbf, zbg, zbh, zbi, zbj, zbk, zbl, zbm, zbn, zbo, zbp, zbq, zbr, zbs, zbt, zbu, zbv, zbw, zbx, zby, zbz, zbA, zbB, zbC, zbD, zbE, zbF, zbG, zbH, zbI, zbJ, zbK, zbL, zbM, zbN, zbO, zbP, Bool.bne_false, Bool.bne_true, zbQ, zbR, zbS, zbT, zbU, zbV, zbW, zbX, zbY, zbZ, zca, zcb, zcc, zcd, zce, zcf, zcg, zch, zci, zcj, zck, zcl, zcm, zcn, zco, setAll, wipeR, setV, zcp, zcq, zcr, zcs, zct, zcu, zcv, zcw, zcx, zcy, zcz, zcA, zcB, zcC, List.any_cons, List.any_nil, List.map_cons, List.map_nil, List.length_cons, List.length_nil, List.replicate, Nat.sub_self, List.cons_append, List.nil_append, List.append_nil, List.getElem?_cons_zero, List.getElem?_cons_succ, List.set_cons_zero, List.set_cons_succ, List.set_nil, zcD, zcE, zcF, zcG, zcH, zcI, zcJ, zcK, zcL, zcM, zcN, zcO, zcP, zcQ, zcR, zcS, zcT, zcU, zcV, zcW, zcX, zcY, zcZ, zda, zdb, zdc, zdd, zde, zdf, zdg, zdh, zdi, zdj, zdk, zdl, zdm, zdn, zdo, zdp, zdq, zdr, zds, zdt, zdu, zdv, zdw, zdx, zdy, zdz, zdA, zdB, zdC, zdD, zdE, zdF, zdG, zdH, zdI, zdJ, zdK, zdL, zdM, zdN, zdO]
    refine fun r4 a4 b4 => ?_
    refine pickW ["one", "two"] (by omega) (by simp; omega) fun o ho => ?_
    exact q (.r h c o) ⟨by simpa using hh, by simpa using hc, by simpa using ho⟩
  · simp [b5__law_way_r, zaa, zab, zac, zad, zae, zaf, zag, zah, zai, zaj, zak, zal, zam, zan, zao, zap, zaq, zar, zas, zat, zau, zav, zaw, zax, zay, zaz, zaA, zaB, zaC, zaD, zaE, zaF, zaG, zaH, zaI, zaJ, zaK, zaL, zaM, zaN, zaO, zaP, zaQ, zaR, zaS, zaT, zaU, zaV, startE, full, fullE, clean, cleanE, zaW, zaX, zaY, zaZ, zba, zbb, zbc, zbd, zbe, zbf, zbg, zbh, zbi, zbj, zbk, zbl, zbm, zbn, zbo, zbp, zbq, zbr, zbs, zbt, zbu, zbv, zbw, zbx, zby, zbz, zbA, zbB, zbC, zbD, zbE, zbF, zbG, zbH, zbI, zbJ, zbK, zbL, zbM, zbN, zbO, zbP, Bool.bne_false, Bool.bne_true, zbQ, zbR, zbS, zbT, zbU, zbV, zbW, zbX, zbY, zbZ, zca, zcb, zcc, zcd, zce, zcf, zcg, zch, zci, zcj, zck, zcl, zcm, zcn, zco, setAll, wipeR, setV, zcp, zcq, zcr, zcs, zct, zcu, zcv, zcw, zcx, zcy, zcz, zcA, zcB, zcC, List.any_cons, List.any_nil, List.map_cons, List.map_nil, List.length_cons, List.length_nil, List.replicate, Nat.sub_self, List.cons_append, List.nil_append, List.append_nil, List.getElem?_cons_zero, List.getElem?_cons_succ, List.set_cons_zero, List.set_cons_succ, List.set_nil, zcD, zcE, zcF, zcG, zcH, zcI, zcJ, zcK, zcL, zcM, zcN, zcO, zcP, zcQ, zcR, zcS, zcT, zcU, zcV, zcW, zcX, zcY, zcZ, zda, zdb, zdc, zdd, zde, zdf, zdg, zdh, zdi, zdj, zdk, zdl, zdm, zdn, zdo, zdp, zdq, zdr, zds, zdt, zdu, zdv, zdw, zdx, zdy, zdz, zdA, zdB, zdC, zdD, zdE, zdF, zdG, zdH, zdI, zdJ, zdK, zdL, zdM, zdN, zdO]
    refine fun r3 a3 b3 => ?_
    refine pickW ["up", "down", "up", "wide", "own"] (by omega) (by simp; omega) fun st hst => ?_
    simp [b6__law_way_r, zaa, zab, zac, zad, zae, zaf, zag, zah, zai, zaj, zak, zal, zam, zan, zao, zap, zaq, zar, zas, zat, zau, zav, zaw, zax, zay, zaz, zaA, zaB, zaC, zaD, zaE, zaF, zaG, zaH, zaI, zaJ, zaK, zaL, zaM, zaN, zaO, zaP, zaQ, zaR, zaS, zaT, zaU, zaV, startE, full, fullE, clean, cleanE, zaW, zaX, zaY, zaZ, zba, zbb, zbc, zbd, zbe, zbf, zbg, zbh, zbi, zbj, zbk, zbl, zbm, zbn, zbo, zbp, zbq, zbr, zbs, zbt, zbu, zbv, zbw, zbx, zby, zbz, zbA, zbB, zbC, zbD, zbE, zbF, zbG, zbH, zbI, zbJ, zbK, zbL, zbM, zbN, zbO, zbP, Bool.bne_false, Bool.bne_true, zbQ, zbR, zbS, zbT, zbU, zbV, zbW, zbX, zbY, zbZ, zca, zcb, zcc, zcd, zce, zcf, zcg, zch, zci, zcj, zck, zcl, zcm, zcn, zco, setAll, wipeR, setV, zcp, zcq, zcr, zcs, zct, zcu, zcv, zcw, zcx, zcy, zcz, zcA, zcB, zcC, List.any_cons, List.any_nil, List.map_cons, List.map_nil, List.length_cons, List.length_nil, List.replicate, Nat.sub_self, List.cons_append, List.nil_append, List.append_nil, List.getElem?_cons_zero, List.getElem?_cons_succ, List.set_cons_zero, List.set_cons_succ, List.set_nil, zcD, zcE, zcF, zcG, zcH, zcI, zcJ, zcK, zcL, zcM, zcN, zcO, zcP, zcQ, zcR, zcS, zcT, zcU, zcV, zcW, zcX, zcY, zcZ, zda, zdb, zdc, zdd, zde, zdf, zdg, zdh, zdi, zdj, zdk, zdl, zdm, zdn, zdo, zdp, zdq, zdr, zds, zdt, zdu, zdv, zdw, zdx, zdy, zdz, zdA, zdB, zdC, zdD, zdE, zdF, zdG, zdH, zdI, zdJ, zdK, zdL, zdM, zdN, zdO]
    simp [b7__law_way_r, zaa, zab, zac, zad, zae, zaf, zag, zah, zai, zaj, zak, zal, zam, zan, zao, zap, zaq, zar, zas, zat, zau, zav, zaw, zax, zay, zaz, zaA, zaB, zaC, zaD, zaE, zaF, zaG, zaH, zaI, zaJ, zaK, zaL, zaM, zaN, zaO, zaP, zaQ, zaR, zaS, zaT, zaU, zaV, startE, full, fullE, clean, cleanE, zaW, zaX, zaY, zaZ, zba, zbb, zbc, zbd, zbe, zbf, zbg, zbh, zbi, zbj, zbk, zbl, zbm, zbn, zbo, zbp, zbq, zbr, zbs, zbt, zbu, zbv, zbw, zbx, zby, zbz, zbA, zbB, zbC, zbD, zbE, zbF, zbG, zbH, zbI, zbJ, zbK, zbL, zbM, zbN, zbO, zbP, Bool.bne_false, Bool.bne_true, zbQ, zbR, zbS, zbT, zbU, zbV, zbW, zbX, zbY, zbZ, zca, zcb, zcc, zcd, zce, zcf, zcg, zch, zci, zcj, zck, zcl, zcm, zcn, zco, setAll, wipeR, setV, zcp, zcq, zcr, zcs, zct, zcu, zcv, zcw, zcx, zcy, zcz, zcA, zcB, zcC, List.any_cons, List.any_nil, List.map_cons, List.map_nil, List.length_cons, List.length_nil, List.replicate, Nat.sub_self, List.cons_append, List.nil_append, List.append_nil, List.getElem?_cons_zero, List.getElem?_cons_succ, List.set_cons_zero, List.set_cons_succ, List.set_nil, zcD, zcE, zcF, zcG, zcH, zcI, zcJ, zcK, zcL, zcM, zcN, zcO, zcP, zcQ, zcR, zcS, zcT, zcU, zcV, zcW, zcX, zcY, zcZ, zda, zdb, zdc, zdd, zde, zdf, zdg, zdh, zdi, zdj, zdk, zdl, zdm, zdn, zdo, zdp, zdq, zdr, zds, zdt, zdu, zdv, zdw, zdx, zdy, zdz, zdA, zdB, zdC, zdD, zdE, zdF, zdG, zdH, zdI, zdJ, zdK, zdL, zdM, zdN, zdO]
    have fin : ∀ (c g : String), SlotsOk h st c g "half" → b9__law_way [some (.val sD), some (.val tD), some (.val (.str (Str.ofString h))), some (.val (.str (Str.ofString st))), some (.val (.bool (decide ("up" = st) || decide ("down" = st)))), some (.val (.str (Str.ofString c))), some (.val (.str (Str.ofString g)))] { nx := fun _ => Q .none, rt := Q, ex := E } := by
      intro c g hs
      simp [b9__law_way_r, zaa, zab, zac, zad, zae, zaf, zag, zah, zai, zaj, zak, zal, zam, zan, zao, zap, zaq, zar, zas, zat, zau, zav, zaw, zax, zay, zaz, zaA, zaB, zaC, zaD, zaE, zaF, zaG, zaH, zaI, zaJ, zaK, zaL, zaM, zaN, zaO, zaP, zaQ, zaR, zaS, zaT, zaU, zaV, startE, full, fullE, clean, cleanE, zaW, zaX, zaY, zaZ, zba, zbb, zbc, zbd, zbe, zbf, zbg, zbh, zbi, zbj, zbk, zbl, zbm, zbn, zbo, zbp, zbq, zbr, zbs, zbt, zbu, zbv, zbw, zbx, zby, zbz, zbA, zbB, zbC, zbD, zbE, zbF, zbG, zbH, zbI, zbJ, zbK, zbL, zbM, zbN, zbO, zbP, Bool.bne_false, Bool.bne_true, zbQ, zbR, zbS, zbT, zbU, zbV, zbW, zbX, zbY, zbZ, zca, zcb, zcc, zcd, zce, zcf, zcg, zch, zci, zcj, zck, zcl, zcm, zcn, zco, setAll, wipeR, setV, zcp, zcq, zcr, zcs, zct, zcu, zcv, zcw, zcx, zcy, zcz, zcA, zcB, zcC, List.any_cons, List.any_nil, List.map_cons, List.map_nil, List.length_cons, List.length_nil, List.replicate, Nat.sub_self, List.cons_append, List.nil_append, List.append_nil, List.getElem?_cons_zero, List.getElem?_cons_succ, List.set_cons_zero, List.set_cons_succ, List.set_nil, zcD, zcE, zcF, zcG, zcH, zcI, zcJ, zcK, zcL, zcM, zcN, zcO, zcP, zcQ, zcR, zcS, zcT, zcU, zcV, zcW, zcX, zcY, zcZ, zda, zdb, zdc, zdd, zde, zdf, zdg, zdh, zdi, zdj, zdk, zdl, zdm, zdn, zdo, zdp, zdq, zdr, zds, zdt, zdu, zdv, zdw, zdx, zdy, zdz, zdA, zdB, zdC, zdD, zdE, zdF, zdG, zdH, zdI, zdJ, zdK, zdL, zdM, zdN, zdO]
      refine fun r6 a6 b6 => ?_
      refine pickW ["half", "three", "full"] (by omega) (by simp; omega) fun gr hgr => ?_
      obtain ⟨g1, g2, g3, g4, g5, g6⟩ := hs
      exact q (.s h st c g gr) ⟨g1, g2, g3, g4, by simpa using hgr, g6⟩
    have hst' : st = "up" ∨ st = "down" ∨ st = "wide" ∨ st = "own" := by
      simp at hst
      rcases hst with h | h | h | h | h <;> simp [h]
    have hh' : h = "low" ∨ h = "fold" := by simpa using hh
    split
    · rename_i e
      have e' : st = "up" ∨ st = "down" := e.imp Eq.symm Eq.symm
      refine fun r4 a4 b4 => ?_
      refine pickW ["late", "empty", "near", "first"] (by omega) (by simp; omega) fun c hc => ?_
      simp [b8__law_way_r, zaa, zab, zac, zad, zae, zaf, zag, zah, zai, zaj, zak, zal, zam, zan, zao, zap, zaq, zar, zas, zat, zau, zav, zaw, zax, zay, zaz, zaA, zaB, zaC, zaD, zaE, zaF, zaG, zaH, zaI, zaJ, zaK, zaL, zaM, zaN, zaO, zaP, zaQ, zaR, zaS, zaT, zaU, zaV, startE, full, fullE, clean, cleanE, zaW, zaX, zaY, zaZ, zba, zbb, zbc, zbd, zbe, zbf, zbg, zbh, zbi, zbj, zbk, zbl, zbm, zbn, zbo, zbp, zbq, zbr, zbs, zbt, zbu, zbv, zbw, zbx, zby, zbz, zbA, zbB, zbC, zbD, zbE, zbF, zbG, zbH, zbI, zbJ, zbK, zbL, zbM, zbN, zbO, zbP, Bool.bne_false, Bool.bne_true, zbQ, zbR, zbS, zbT, zbU, zbV, zbW, zbX, zbY, zbZ, zca, zcb, zcc, zcd, zce, zcf, zcg, zch, zci, zcj, zck, zcl, zcm, zcn, zco, setAll, wipeR, setV, zcp, zcq, zcr, zcs, zct, zcu, zcv, zcw, zcx, zcy, zcz, zcA, zcB, zcC, List.any_cons, List.any_nil, List.map_cons, List.map_nil, List.length_cons, List.length_nil, List.replicate, Nat.sub_self, List.cons_append, List.nil_append, List.append_nil, List.getElem?_cons_zero, List.getElem?_cons_succ, List.set_cons_zero, List.set_cons_succ, List.set_nil, zcD, zcE, zcF, zcG, zcH, zcI, zcJ, zcK, zcL, zcM, zcN, zcO, zcP, zcQ, zcR, zcS, zcT, zcU, zcV, zcW, zcX, zcY, zcZ, zda, zdb, zdc, zdd, zde, zdf, zdg, zdh, zdi, zdj, zdk, zdl, zdm, zdn, zdo, zdp, zdq, zdr, zds, zdt, zdu, zdv, zdw, zdx, zdy, zdz, zdA, zdB, zdC, zdD, zdE, zdF, zdG, zdH, zdI, zdJ, zdK, zdL, zdM, zdN, zdO, e]
      refine fun r5 a5 b5 => ?_
      refine pickW ["mark", "hole", "again", "pull"] (by omega) (by simp; omega) fun g hg => ?_
      have := fin c g ⟨hh', hst', by simpa using hc, by simpa using hg, .inl rfl, .inl e'⟩
      simpa [e] using this
    · rename_i e
      refine fun r4 a4 b4 => ?_
      refine pickWn ["late", "empty", "near", "first"] 2 (by omega) (by omega) (by decide) fun c hc => ?_
      simp [b8__law_way_r, zaa, zab, zac, zad, zae, zaf, zag, zah, zai, zaj, zak, zal, zam, zan, zao, zap, zaq, zar, zas, zat, zau, zav, zaw, zax, zay, zaz, zaA, zaB, zaC, zaD, zaE, zaF, zaG, zaH, zaI, zaJ, zaK, zaL, zaM, zaN, zaO, zaP, zaQ, zaR, zaS, zaT, zaU, zaV, startE, full, fullE, clean, cleanE, zaW, zaX, zaY, zaZ, zba, zbb, zbc, zbd, zbe, zbf, zbg, zbh, zbi, zbj, zbk, zbl, zbm, zbn, zbo, zbp, zbq, zbr, zbs, zbt, zbu, zbv, zbw, zbx, zby, zbz, zbA, zbB, zbC, zbD, zbE, zbF, zbG, zbH, zbI, zbJ, zbK, zbL, zbM, zbN, zbO, zbP, Bool.bne_false, Bool.bne_true, zbQ, zbR, zbS, zbT, zbU, zbV, zbW, zbX, zbY, zbZ, zca, zcb, zcc, zcd, zce, zcf, zcg, zch, zci, zcj, zck, zcl, zcm, zcn, zco, setAll, wipeR, setV, zcp, zcq, zcr, zcs, zct, zcu, zcv, zcw, zcx, zcy, zcz, zcA, zcB, zcC, List.any_cons, List.any_nil, List.map_cons, List.map_nil, List.length_cons, List.length_nil, List.replicate, Nat.sub_self, List.cons_append, List.nil_append, List.append_nil, List.getElem?_cons_zero, List.getElem?_cons_succ, List.set_cons_zero, List.set_cons_succ, List.set_nil, zcD, zcE, zcF, zcG, zcH, zcI, zcJ, zcK, zcL, zcM, zcN, zcO, zcP, zcQ, zcR, zcS, zcT, zcU, zcV, zcW, zcX, zcY, zcZ, zda, zdb, zdc, zdd, zde, zdf, zdg, zdh, zdi, zdj, zdk, zdl, zdm, zdn, zdo, zdp, zdq, zdr, zds, zdt, zdu, zdv, zdw, zdx, zdy, zdz, zdA, zdB, zdC, zdD, zdE, zdF, zdG, zdH, zdI, zdJ, zdK, zdL, zdM, zdN, zdO, e]
      refine fun r5 a5 b5 => ?_
      refine pickWn ["mark", "hole", "again", "pull"] 3 (by omega) (by omega) (by decide) fun g hg => ?_
      have hc' : c = "late" ∨ c = "empty" := by simpa using hc
      have hg' : g = "mark" ∨ g = "hole" ∨ g = "again" := by simpa using hg
      have := fin c g ⟨hh', hst', by rcases hc' with h | h <;> simp [h], by rcases hg' with h | h | h <;> simp [h], .inl rfl, .inr ⟨hc', by rcases hg' with h | h | h <;> simp [h]⟩⟩
      simpa [e] using this
end
/-! ### all of them, ascending -/
def allS (st : String) (cs gs : List String) (h : String) : List Way := cs.flatMap fun c => gs.flatMap fun g => ["full", "half", "three"].map fun gr => .s h st c g gr
def allW : List Way :=
  (["fold", "low"].flatMap fun h => ["end", "front"].flatMap fun c => ["one", "two"].map fun o => Way.r h c o) ++
  (["fold", "low"].flatMap fun h => allS "down" ["empty", "first", "late", "near"] ["again", "hole", "mark", "pull"] h ++ allS "own" ["empty", "late"] ["again", "hole", "mark"] h ++
    allS "up" ["empty", "first", "late", "near"] ["again", "hole", "mark", "pull"] h ++ allS "wide" ["empty", "late"] ["again", "hole", "mark"] h)
def allD : D := .tuple (allW.map wayD)
theorem all_way {w : Way} (h : w.Ok) : w ∈ allW := by
  cases w with
  | r h c o =>
    obtain ⟨h1, h2, h3⟩ := h
    rcases h1 with rfl | rfl <;> rcases h2 with rfl | rfl <;> rcases h3 with rfl | rfl <;> simp [allW, allS]
  | s h st c g gr =>
    obtain ⟨h1, h2, h3, h4, h5, h6⟩ := h
    simp only [allW, allS, List.mem_append, List.mem_flatMap, List.mem_map, List.mem_cons, List.mem_nil_iff, or_false]
    refine .inr ⟨h, by rcases h1 with rfl | rfl <;> simp, ?_⟩
    rcases h6 with h6 | ⟨h6, h7⟩
    · have e : ∃ c', (c' = "empty" ∨ c' = "first" ∨ c' = "late" ∨ c' = "near") ∧ ∃ g', (g' = "again" ∨ g' = "hole" ∨ g' = "mark" ∨ g' = "pull") ∧ ∃ a, (a = "full" ∨ a = "half" ∨ a = "three") ∧ Way.s h st c' g' a = Way.s h st c g gr :=
        ⟨c, by rcases h3 with rfl | rfl | rfl | rfl <;> simp, g, by rcases h4 with rfl | rfl | rfl | rfl <;> simp, gr, by rcases h5 with rfl | rfl | rfl <;> simp, rfl⟩
      rcases h6 with rfl | rfl
      · exact .inl (.inr e)
      · exact .inl (.inl (.inl e))
    · by_cases u : st = "up" ∨ st = "down"
      · have e : ∃ c', (c' = "empty" ∨ c' = "first" ∨ c' = "late" ∨ c' = "near") ∧ ∃ g', (g' = "again" ∨ g' = "hole" ∨ g' = "mark" ∨ g' = "pull") ∧ ∃ a, (a = "full" ∨ a = "half" ∨ a = "three") ∧ Way.s h st c' g' a = Way.s h st c g gr :=
          ⟨c, by rcases h3 with rfl | rfl | rfl | rfl <;> simp, g, by rcases h4 with rfl | rfl | rfl | rfl <;> simp, gr, by rcases h5 with rfl | rfl | rfl <;> simp, rfl⟩
        rcases u with rfl | rfl
        · exact .inl (.inr e)
        · exact .inl (.inl (.inl e))
      · have e : ∃ c', (c' = "empty" ∨ c' = "late") ∧ ∃ g', (g' = "again" ∨ g' = "hole" ∨ g' = "mark") ∧ ∃ a, (a = "full" ∨ a = "half" ∨ a = "three") ∧ Way.s h st c' g' a = Way.s h st c g gr :=
          ⟨c, by rcases h6 with rfl | rfl <;> simp, g, by rcases h4 with rfl | rfl | rfl | rfl <;> simp_all, gr, by rcases h5 with rfl | rfl | rfl <;> simp, rfl⟩
        rcases h2 with rfl | rfl | rfl | rfl
        · exact absurd (.inl rfl) u
        · exact absurd (.inr rfl) u
        · exact .inr e
        · exact .inl (.inl (.inr e))
theorem all_runs : x_all_ways [] = some allD := by kernel_rfl
def env0 : DL.Env := [some (.val sD), none, some (.val tD), some (.val allD), none, none]
theorem run2 : xb2_law env0 = some (.nx env0) := by kernel_rfl
theorem run3 : xb3_law env0 = some (.nx env0) := by kernel_rfl
theorem run4 : xb4_law env0 = some (.nx env0) := by kernel_rfl
theorem run5 : xb5_law env0 = some (.nx env0) := by kernel_rfl
theorem run6 : xb6_law env0 = some (.nx env0) := by kernel_rfl
theorem all_shaped : SeqAt.shaped allD = true := by kernel_rfl
theorem each_in : (allW.all fun w => SeqAt.shaped (wayD w) && (allW.map wayD).any fun z => PyData.eqv z (wayD w)) = true := by kernel_rfl
theorem way_in {w : Way} (h : w.Ok) {Q : D → Prop} {E : Str → Prop} (q : Q (.bool false)) : inD true (wayD w) allD Q E := by
  have := List.all_eq_true.mp each_in w (all_way h)
  rw [Bool.and_eq_true] at this
  exact ⟨this.1, all_shaped, by rw [this.2]; exact q⟩
end G6

namespace G6
open PySem PySem.Spec L2 DL TM
theorem loop_ok (i : Int) {k : KS} (q : k.nx (env0.set 1 (some (.val (.int i))))) : b7_law (env0.set 1 (some (.val (.int i)))) k := by
  unfold env0 at *
  simp only [b7_law_r, zaa, zab, zac, zad, zae, zaf, zag, zah, zai, zaj, zak, zal, zam, zan, zao, zap, zaq, zar, zas, zat, zau, zav, zaw, zax, zay, zaz, zaA, zaB, zaC, zaD, zaE, zaF, zaG, zaH, zaI, zaJ, zaK, zaL, zaM, zaN, zaO, zaP, zaQ, zaR, zaS, zaT, zaU, zaV, startE, full, fullE, clean, cleanE, zaW, zaX, zaY, zaZ, zba, zbb, zbc, zbd, zbe, zbf, zbg, zbh, zbi, zbj, zbk, zbl, zbm, zbn, zbo, zbp, zbq, zbr, zbs, zbt, zbu, zbv, zbw, zbx, zby, zbz, zbA, zbB, zbC, zbD, zbE, zbF, zbG, zbH, zbI, zbJ, zbK, zbL, zbM, zbN, zbO, zbP, Bool.bne_false, Bool.bne_true, zbQ, zbR, zbS, zbT, zbU, zbV, zbW, zbX, zbY, zbZ, zca, zcb, zcc, zcd, zce, zcf, zcg, zch, zci, zcj, zck, zcl, zcm, zcn, zco, setAll, wipeR, setV, zcp, zcq, zcr, zcs, zct, zcu, zcv, zcw, zcx, zcy, zcz, zcA, zcB, zcC, List.any_cons, List.any_nil, List.map_cons, List.map_nil, List.length_cons, List.length_nil, List.replicate, Nat.sub_self, List.cons_append, List.nil_append, List.append_nil, List.getElem?_cons_zero, List.getElem?_cons_succ, List.set_cons_zero, List.set_cons_succ, List.set_nil, zcD, zcE, zcF, zcG, zcH, zcI, zcJ, zcK, zcL, zcM, zcN, zcO, zcP, zcQ, zcR, zcS, zcT, zcU, zcV, zcW, zcX, zcY, zcZ, zda, zdb, zdc, zdd, zde, zdf, zdg, zdh, zdi, zdj, zdk, zdl, zdm, zdn, zdo, zdp, zdq, zdr, zds, zdt, zdu, zdv, zdw, zdx, zdy, zdz, zdA, zdB, zdC, zdD, zdE, zdF, zdG, zdH, zdI, zdJ, zdK, zdL, zdM, zdN, zdO]
  refine way_drawn fun w hw => ?_
  refine way_in hw ?_
  simp only [isB, Bool.false_eq_true, if_false]
  exact q
theorem loop_all {k : KS} (q : ∀ Γ, k.nx Γ) : ∀ (xs : List Int) (Γ : DL.Env), (∀ i : Int, Γ.set 1 (some (.val (.int i))) = env0.set 1 (some (.val (.int i)))) → forLoop (.name 1) b7_law k (intsD xs) Γ
  | [], Γ, _ => q Γ
  | x :: xs, Γ, h => by
    show b7_law (Γ.set 1 (some (.val (.int x)))) { k with nx := forLoop (.name 1) b7_law k (intsD xs), ct := forLoop (.name 1) b7_law k (intsD xs), bk := k.nx }
    rw [h]
    exact loop_ok x (loop_all q xs _ fun i => by simp)
theorem law_ok : m_law [sD] (fun d => d = .bool true) (fun _ => False) := by
  simp only [m_law_r, b1_law_r, zaa, zab, zac, zad, zae, zaf, zag, zah, zai, zaj, zak, zal, zam, zan, zao, zap, zaq, zar, zas, zat, zau, zav, zaw, zax, zay, zaz, zaA, zaB, zaC, zaD, zaE, zaF, zaG, zaH, zaI, zaJ, zaK, zaL, zaM, zaN, zaO, zaP, zaQ, zaR, zaS, zaT, zaU, zaV, startE, full, fullE, clean, cleanE, zaW, zaX, zaY, zaZ, zba, zbb, zbc, zbd, zbe, zbf, zbg, zbh, zbi, zbj, zbk, zbl, zbm, zbn, zbo, zbp, zbq, zbr, zbs, zbt, zbu, zbv, zbw, zbx, zby, zbz, zbA, zbB, zbC, zbD, zbE, zbF, zbG, zbH, zbI, zbJ, zbK, zbL, zbM, zbN, zbO, zbP, Bool.bne_false, Bool.bne_true, zbQ, zbR, zbS, zbT, zbU, zbV, zbW, zbX, zbY, zbZ, zca, zcb, zcc, zcd, zce, zcf, zcg, zch, zci, zcj, zck, zcl, zcm, zcn, zco, setAll, wipeR, setV, zcp, zcq, zcr, zcs, zct, zcu, zcv, zcw, zcx, zcy, zcz, zcA, zcB, zcC, List.any_cons, List.any_nil, List.map_cons, List.map_nil, List.length_cons, List.length_nil, List.replicate, Nat.sub_self, List.cons_append, List.nil_append, List.append_nil, List.getElem?_cons_zero, List.getElem?_cons_succ, List.set_cons_zero, List.set_cons_succ, List.set_nil, zcD, zcE, zcF, zcG, zcH, zcI, zcJ, zcK, zcL, zcM, zcN, zcO, zcP, zcQ, zcR, zcS, zcT, zcU, zcV, zcW, zcX, zcY, zcZ, zda, zdb, zdc, zdd, zde, zdf, zdg, zdh, zdi, zdj, zdk, zdl, zdm, zdn, zdo, zdp, zdq, zdr, zds, zdt, zdu, zdv, zdw, zdx, zdy, zdz, zdA, zdB, zdC, zdD, zdE, zdF, zdG, zdH, zdI, zdJ, zdK, zdL, zdM, zdN, zdO]
  refine k_all_ways [] allD all_runs _ _ ⟨by decide, ?_⟩
  refine kb2_law env0 _ run2 _ (kb3_law env0 _ run3 _ (kb4_law env0 _ run4 _ (kb5_law env0 _ run5 _ (kb6_law env0 _ run6 _ ?_))))
  show b8_law env0 _
  rw [b8_law_r]
  have := loop_all (k := { nx := fun Γ' => True, rt := fun d => d = PyData.bool true }) (fun _ => trivial) ((List.range 12).map fun i : Nat => (i : Int)) env0 (fun _ => rfl)
  have e : intsD ((List.range 12).map fun i : Nat => (i : Int)) = DL.upTo 0 12 := by rfl
  rw [e] at this
  exact ⟨by decide, by decide, this⟩
end G6

namespace DL
open PySem PySem.Spec L2
def xisXD (c : Str) : D → Option D
  | .dict [(.none, .str n)] => if (resW n).isSome = true then some (.bool (decide (n = c))) else none
  | _ => none
theorem kisXD (c : Str) : KU (isXD c) (xisXD c) := fun d a h Q E q => by
  unfold xisXD at h
  split at h
  · rename_i n
    split at h
    · rename_i hs
      cases h
      exact ⟨Option.isSome_iff_exists.mp hs, q⟩
    · cases h
  · cases h
def xisVD : D → Option D
  | .dict [(.none, .str n)] => if (resW n).isSome = true then some (.bool true) else none
  | _ => none
theorem kisVD : KU isVD xisVD := fun d a h Q E q => by
  unfold xisVD at h
  split at h
  · rename_i n
    split at h
    · rename_i hs
      cases h
      exact ⟨Option.isSome_iff_exists.mp hs, q⟩
    · cases h
  · cases h
def isWord (w : Str) : Option Out → Bool
  | some (.rt (.tuple [.str v])) => decide (v = w)
  | _ => false
theorem isWord_some {w : Str} {o : Option Out} (h : isWord w o = true) : o = some (.rt (.tuple [.str w])) := by
  unfold isWord at h
  split at h
  · rw [of_decide_eq_true h]
  · cases h
end DL

namespace G6
open PySem PySem.Spec L2 DL
end G6

namespace G6
open PySem PySem.Spec L2 DL
abbrev s_is_word : Stmt := top 6
abbrev s__law_draw : Stmt := top 11
abbrev s__law_begun : Stmt := top 12
abbrev s__law_count : Stmt := top 14
abbrev s_is_slot_way : Stmt := top 7
abbrev s__law_way : Stmt := top 13
abbrev s_is_way : Stmt := top 8
abbrev s_all_ways : Stmt := top 9
abbrev s_law : Stmt := top 15
structure Tx [Nm] (K : PySem.W.Frag) (mg : Str → Option Value) (base : Heap) : Prop where
  b_all : mg "all" = none
  b_isinstance : mg "isinstance" = none
  b_len : mg "len" = none
  b_list : mg "list" = none
  b_range : mg "range" = none
  b_set : mg "set" = none
  b_sorted : mg "sorted" = none
  b_str : mg "str" = none
  b_tuple : mg "tuple" = none
  c_HOMES : ∃ u : Addr, mg "HOMES" = some (.ref u) ∧ ∀ (O : Ob) (H : Hp) (P : Addr → Prop), Dv O K H P (.ref u) c_HOMES
  c_STEPS : ∃ u : Addr, mg "STEPS" = some (.ref u) ∧ ∀ (O : Ob) (H : Hp) (P : Addr → Prop), Dv O K H P (.ref u) c_STEPS
  c_COMES : ∃ u : Addr, mg "COMES" = some (.ref u) ∧ ∀ (O : Ob) (H : Hp) (P : Addr → Prop), Dv O K H P (.ref u) c_COMES
  c_GONES : ∃ u : Addr, mg "GONES" = some (.ref u) ∧ ∀ (O : Ob) (H : Hp) (P : Addr → Prop), Dv O K H P (.ref u) c_GONES
  c_GROWS : ∃ u : Addr, mg "GROWS" = some (.ref u) ∧ ∀ (O : Ob) (H : Hp) (P : Addr → Prop), Dv O K H P (.ref u) c_GROWS
  f_is_word : FnT K mg "is_word" s_is_word
  f__law_draw : FnT K mg "_law_draw" s__law_draw
  f__law_begun : FnT K mg "_law_begun" s__law_begun
  f__law_count : FnT K mg "_law_count" s__law_count
  f_is_slot_way : FnT K mg "is_slot_way" s_is_slot_way
  f__law_way : FnT K mg "_law_way" s__law_way
  f_is_way : FnT K mg "is_way" s_is_way
  f_all_ways : FnT K mg "all_ways" s_all_ways
  f_law : FnT K mg "law" s_law
section
variable [Nm] {P : Program} {w : World} {K : PySem.W.Frag} {mg : Str → Option Value} {base : Heap}
theorem sc_is_word : FnScope ["value", "words"] ["value", "words"] (defScope s_is_word) := ⟨rfl, rfl, rfl, by decide +kernel, rfl, by decide +kernel, by decide +kernel⟩
theorem cal_is_word (T : Tx K mg base) : Cal (obT P w mg) P w K mg base "is_word" 1 ["value", "words"] m_is_word := by
  refine cal_of (k := 0) T.f_is_word sc_is_word (fun _ _ _ _ _ _ us hl => match us, hl with | [_, _], _ => rfl) (fun f cdv A outer s H E hr ai => ?_)
  exact (dss_one (ds_ret (de_and (de_isi (x := "x") (T := "str") (n := "str") (de_var 0) (by rfl) T.b_isinstance (by rfl) T.b_str (by decide +kernel)) (de_one (de_cmp (op_inA (u65 hr)) opd_in (de_var 0) (de_var 1) rfl)))))
theorem sc__law_draw : FnScope ["script", "town", "many", "at", "rest", "number"] ["script", "town", "many"] (defScope s__law_draw) := ⟨rfl, rfl, rfl, by decide +kernel, rfl, by decide +kernel, by decide +kernel⟩
theorem cal__law_draw (T : Tx K mg base) : Cal (obT P w mg) P w K mg base "_law_draw" 1 ["script", "town", "many"] m__law_draw := by
  refine DL.cal_draw T.f__law_draw sc__law_draw (fun _ _ _ _ _ _ us hl => match us, hl with | [_, _, _], _ => rfl) (fun f cdv A outer s H E hr => ?_)
  have hu1 := u65 hr
  have hu : (cxOf (L2.CX P w) P w K mg base ["script", "town", "many", "at", "rest", "number"] "_law_draw" (defScope s__law_draw) f cdv A outer s H E).nox.A.units + 1 < cLine := by
    show (A.deeper _).units + 1 < cLine
    omega
  exact pss_cons (ps_dput hu (pv 1) pe_str (pe_op op_add (pe_dget hu (pv 1) pe_str (fun _ _ => rfl)) pe_int) rfl)
    (pss_cons (ps_set (i := 3) sc__law_draw.nd rfl (Or.inl rfl) (pe_ifExp (pt_truth (pv 0) (fun _ => rfl)) (pe_op op_mod (pe_dget hu (pv 1) pe_str (fun _ _ => rfl)) (pe_callB call_len rfl T.b_len boot_len (pa_cons (pv 0) pa_nil))) pe_int))
    (pss_cons (ps_set (i := 4) sc__law_draw.nd rfl (Or.inl rfl) (pe_dget2 hu (pe_dget hu (pv 1) pe_str (fun _ _ => rfl)) (pv 3) (pe_ifExp (pt_truth (pv 0) (fun _ => rfl)) (pe_ix ix_list (pv 0) (pv 3) (fun _ _ => rfl)) pe_int) ⟨rfl, rfl, rfl, rfl⟩))
    (pss_cons (ps_if (pt_cmpR op_ge (pv 4) (pe_op op_pow pe_int pe_int) (nomark _)) (pss_cons (ps_dput hu (pe_dget hu (pv 1) pe_str (fun _ _ => rfl)) (pv 3) (pe_op op_fdiv (pv 4) (pv 2)) rfl) (pss_one (ps_ret (pe_op op_mod (pv 4) (pv 2))))) pss_nil)
    (pss_cons (ps_set (i := 5) sc__law_draw.nd rfl (Or.inl rfl) (pe_op op_mod (pe_op op_add (pv 4) (pe_op op_mul pe_int (pe_dget hu (pv 1) pe_str (fun _ _ => rfl)))) pe_int))
    (pss_cons (ps_set (i := 5) sc__law_draw.nd rfl (Or.inl rfl) (pe_op op_mod (pe_op op_pow (pv 5) pe_int) pe_int))
    (pss_one (ps_ret (pe_op op_mod (pe_op op_fdiv (pe_op op_mod (pe_op op_add (pe_op op_mul (pe_op op_fdiv (pv 5) pe_int) pe_int) (pv 5)) pe_int) pe_int) (pv 2)))))))))
theorem sc__law_begun : FnScope [] [] (defScope s__law_begun) := ⟨rfl, rfl, rfl, by decide +kernel, rfl, by decide +kernel, by decide +kernel⟩
theorem cal__law_begun (T : Tx K mg base) : Cal (obT P w mg) P w K mg base "_law_begun" 1 [] m__law_begun := by
  refine DL.cal_begun T.f__law_begun sc__law_begun (fun _ _ _ _ _ _ us hl => match us, hl with | [], _ => rfl) (fun f cdv A outer s H E hr => ?_)
  exact pss_one (ps_ret (pe_disp (pps_cons pe_str pe_int (pps_cons pe_str pe_dnewK pps_nil)) rfl rfl (fun z => nomatch z) (by decide)))
theorem sc__law_count : FnScope ["ways", "kind", "at", "word", "way"] ["ways", "kind", "at", "word"] (defScope s__law_count) := ⟨rfl, rfl, rfl, by decide +kernel, rfl, by decide +kernel, by decide +kernel⟩
theorem cal__law_count (T : Tx K mg base) : Cal (obT P w mg) P w K mg base "_law_count" 1 ["ways", "kind", "at", "word"] m__law_count := by
  refine cal_of (k := 0) T.f__law_count sc__law_count (fun _ _ _ _ _ _ us hl => match us, hl with | [_, _, _, _], _ => rfl) (fun f cdv A outer s H E hr ai => ?_)
  exact (dss_one (ds_ret (de_callB call_len cbd_len (by rfl) T.b_len (by decide +kernel) (da_cons (DF.de (DLc.df (lc1 (own := [("way", 4)]) rfl sc__law_count.nd (di_seq (de_var 0)) (blkOk_by (by kernel_rfl)) (fun _ _ _ _ _ => (dg_name 4 sc__law_count.nd)) (fun _ _ _ _ _ => (dts_one (DW.dt (dw_and (dt_cmp (op_eqD hr.units) opd_eq (de_idx (de_var 4) de_int (fun _ _ => rfl)) (de_var 1) (nomark _)) (dw_and1 (dt_cmp (op_eqD hr.units) opd_eq (de_idx (de_var 4) (de_var 2) (fun _ _ => rfl)) (de_var 3) (nomark _))))))) (fun _ _ _ _ _ => (de_var 4)) (by decide)))) da_nil))))
theorem sc_is_slot_way : FnScope ["value"] ["value"] (defScope s_is_slot_way) := ⟨rfl, rfl, rfl, by decide +kernel, rfl, by decide +kernel, by decide +kernel⟩
theorem cal_is_slot_way (T : Tx K mg base) : Cal (obT P w mg) P w K mg base "is_slot_way" 2 ["value"] m_is_slot_way := by
  have C_is_word := cal_is_word (P := P) (w := w) (base := base) T
  refine cal_of (k := 1) T.f_is_slot_way sc_is_slot_way (fun _ _ _ _ _ _ us hl => match us, hl with | [_], _ => rfl) (fun f cdv A outer s H E hr ai => ?_)
  exact (dss_cons (ds_if (DW.dt (dw_or (dt_cmp (op_neD hr.units) opd_ne (de_callB call_len cbd_len (by rfl) T.b_len (by decide +kernel) (da_cons (de_var 0) da_nil)) de_int (nomark _)) (dw_or (dt_not (dt_val (de_fn C_is_word hr ai.pass (da_cons (de_idx (de_var 0) de_int (fun _ _ => rfl)) (da_cons (de_globE (by rfl) T.c_HOMES) da_nil))))) (dw_or1 (dt_not (dt_val (de_fn C_is_word hr ai.pass (da_cons (de_idx (de_var 0) de_int (fun _ _ => rfl)) (da_cons (de_globE (by rfl) T.c_STEPS) da_nil))))))))) (dss_one (ds_ret de_bl)) dss_nil)
      (dss_cons (ds_if (DW.dt (dw_or (dt_not (dt_val (de_fn C_is_word hr ai.pass (da_cons (de_idx (de_var 0) de_int (fun _ _ => rfl)) (da_cons (de_globE (by rfl) T.c_COMES) da_nil))))) (dw_or (dt_not (dt_val (de_fn C_is_word hr ai.pass (da_cons (de_idx (de_var 0) de_int (fun _ _ => rfl)) (da_cons (de_globE (by rfl) T.c_GONES) da_nil))))) (dw_or1 (dt_not (dt_val (de_fn C_is_word hr ai.pass (da_cons (de_idx (de_var 0) de_int (fun _ _ => rfl)) (da_cons (de_globE (by rfl) T.c_GROWS) da_nil))))))))) (dss_one (ds_ret de_bl)) dss_nil)
      (dss_one (ds_ret (de_or (de_cmp (op_inA (u65 hr)) opd_in (de_idx (de_var 0) de_int (fun _ _ => rfl)) (de_tup (da_cons de_str (da_cons de_str da_nil))) rfl) (de_one (de_and (de_cmp (op_inA (u65 hr)) opd_in (de_idx (de_var 0) de_int (fun _ _ => rfl)) (de_tup (da_cons de_str (da_cons de_str da_nil))) rfl) (de_one (de_cmp (op_neD hr.units) opd_ne (de_idx (de_var 0) de_int (fun _ _ => rfl)) de_str (nomark _))))))))))
theorem sc__law_way : FnScope ["script", "town", "home_word", "step", "line", "come", "gone"] ["script", "town"] (defScope s__law_way) := ⟨rfl, rfl, rfl, by decide +kernel, rfl, by decide +kernel, by decide +kernel⟩
theorem cal__law_way (T : Tx K mg base) : Cal (obT P w mg) P w K mg base "_law_way" 2 ["script", "town"] m__law_way := by
  have C__law_draw := cal__law_draw (P := P) (w := w) (base := base) T
  refine cal_of (k := 1) T.f__law_way sc__law_way (fun _ _ _ _ _ _ us hl => match us, hl with | [_, _], _ => rfl) (fun f cdv A outer s H E hr ai => ?_)
  exact (dss_cons (ds_set 2 sc__law_way.nd (de_idx (de_tup (da_cons de_str (da_cons de_str da_nil))) (de_op op_fdiv opd_fdiv (de_fn C__law_draw hr ai.pass (da_cons (de_var 0) (da_cons (de_var 1) (da_cons de_int da_nil)))) de_int) (fun _ _ => rfl)))
      (dss_cons (ds_if (dt_cmp (op_eqD hr.units) opd_eq (de_fn C__law_draw hr ai.pass (da_cons (de_var 0) (da_cons (de_var 1) (da_cons de_int da_nil)))) de_int (nomark _)) (dss_cons (ds_set 5 sc__law_way.nd (de_idx (de_tup (da_cons de_str (da_cons de_str da_nil))) (de_fn C__law_draw hr ai.pass (da_cons (de_var 0) (da_cons (de_var 1) (da_cons de_int da_nil)))) (fun _ _ => rfl)))
      (dss_one (ds_ret (de_tup (da_cons de_str (da_cons (de_var 2) (da_cons (de_var 5) (da_cons (de_idx (de_tup (da_cons de_str (da_cons de_str da_nil))) (de_fn C__law_draw hr ai.pass (da_cons (de_var 0) (da_cons (de_var 1) (da_cons de_int da_nil)))) (fun _ _ => rfl)) da_nil)))))))) dss_nil)
      (dss_cons (ds_set 3 sc__law_way.nd (de_idx (de_tup (da_cons de_str (da_cons de_str (da_cons de_str (da_cons de_str (da_cons de_str da_nil)))))) (de_fn C__law_draw hr ai.pass (da_cons (de_var 0) (da_cons (de_var 1) (da_cons de_int da_nil)))) (fun _ _ => rfl)))
      (dss_cons (ds_set 4 sc__law_way.nd (de_cmp (op_inA (u65 hr)) opd_in (de_var 3) (de_tup (da_cons de_str (da_cons de_str da_nil))) rfl))
      (dss_cons (ds_set 5 sc__law_way.nd (de_idx (de_tup (da_cons de_str (da_cons de_str (da_cons de_str (da_cons de_str da_nil))))) (de_fn C__law_draw hr ai.pass (da_cons (de_var 0) (da_cons (de_var 1) (da_cons (de_if (dt_tru (de_var 4)) de_int de_int) da_nil)))) (fun _ _ => rfl)))
      (dss_cons (ds_set 6 sc__law_way.nd (de_idx (de_tup (da_cons de_str (da_cons de_str (da_cons de_str (da_cons de_str da_nil))))) (de_fn C__law_draw hr ai.pass (da_cons (de_var 0) (da_cons (de_var 1) (da_cons (de_if (dt_tru (de_var 4)) de_int de_int) da_nil)))) (fun _ _ => rfl)))
      (dss_one (ds_ret (de_tup (da_cons de_str (da_cons (de_var 2) (da_cons (de_var 3) (da_cons (de_var 5) (da_cons (de_var 6) (da_cons (de_idx (de_tup (da_cons de_str (da_cons de_str (da_cons de_str da_nil)))) (de_fn C__law_draw hr ai.pass (da_cons (de_var 0) (da_cons (de_var 1) (da_cons de_int da_nil)))) (fun _ _ => rfl)) da_nil)))))))))))))))
theorem sc_is_way : FnScope ["value"] ["value"] (defScope s_is_way) := ⟨rfl, rfl, rfl, by decide +kernel, rfl, by decide +kernel, by decide +kernel⟩
theorem cal_is_way (T : Tx K mg base) : Cal (obT P w mg) P w K mg base "is_way" 3 ["value"] m_is_way := by
  have C_is_slot_way := cal_is_slot_way (P := P) (w := w) (base := base) T
  have C_is_word := cal_is_word (P := P) (w := w) (base := base) T
  refine cal_of (k := 2) T.f_is_way sc_is_way (fun _ _ _ _ _ _ us hl => match us, hl with | [_], _ => rfl) (fun f cdv A outer s H E hr ai => ?_)
  exact (dss_cons (ds_if (DW.dt (dw_or (dt_not (dt_val (de_isi (x := "x") (T := "tuple") (n := "tuple") (de_var 0) (by rfl) T.b_isinstance (by rfl) T.b_tuple (by decide +kernel)))) (dw_or (dt_cmp (op_eqD hr.units) opd_eq (de_var 0) (de_tup da_nil) (nomark _)) (dw_or1 (dt_not (dt_val (de_fn C_is_word hr ai.pass (da_cons (de_idx (de_var 0) de_int (fun _ _ => rfl)) (da_cons (de_tup (da_cons de_str (da_cons de_str da_nil))) da_nil))))))))) (dss_one (ds_ret de_bl)) dss_nil)
      (dss_cons (ds_if (dt_cmp (op_eqD hr.units) opd_eq (de_idx (de_var 0) de_int (fun _ _ => rfl)) de_str (nomark _)) (dss_one (ds_ret (de_fn C_is_slot_way hr ai.pass (da_cons (de_var 0) da_nil)))) dss_nil)
      (dss_cons (ds_if (DW.dt (dw_or (dt_cmp (op_neD hr.units) opd_ne (de_callB call_len cbd_len (by rfl) T.b_len (by decide +kernel) (da_cons (de_var 0) da_nil)) de_int (nomark _)) (dw_or1 (dt_not (dt_val (de_fn C_is_word hr ai.pass (da_cons (de_idx (de_var 0) de_int (fun _ _ => rfl)) (da_cons (de_globE (by rfl) T.c_HOMES) da_nil)))))))) (dss_one (ds_ret de_bl)) dss_nil)
      (dss_one (ds_ret (de_and (de_fn C_is_word hr ai.pass (da_cons (de_idx (de_var 0) de_int (fun _ _ => rfl)) (da_cons (de_tup (da_cons de_str (da_cons de_str da_nil))) da_nil))) (de_one (de_fn C_is_word hr ai.pass (da_cons (de_idx (de_var 0) de_int (fun _ _ => rfl)) (da_cons (de_tup (da_cons de_str (da_cons de_str da_nil))) da_nil))))))))))
theorem sc_all_ways : FnScope ["found", "home", "step", "come", "gone", "grow", "way"] [] (defScope s_all_ways) := ⟨rfl, rfl, rfl, by decide +kernel, rfl, by decide +kernel, by decide +kernel⟩
theorem cal_all_ways (T : Tx K mg base) : Cal (obT P w mg) P w K mg base "all_ways" 4 [] m_all_ways := by
  have C_is_way := cal_is_way (P := P) (w := w) (base := base) T
  refine cal_of (k := 3) T.f_all_ways sc_all_ways (fun _ _ _ _ _ _ us hl => match us, hl with | [], _ => rfl) (fun f cdv A outer s H E hr ai => ?_)
  exact (dss_cons (ds_setF 0 sc_all_ways.nd (df_lst da_nil))
      (dss_cons (ds_for ai.own rfl (di_seq (de_globE (by rfl) T.c_HOMES)) (dg_name 1 sc_all_ways.nd) (dss_cons (ds_ext 0 (DF.de (DLc.df (lc2 (own := [("come", 3), ("grow", 5)]) (vs1 := [5]) rfl sc_all_ways.nd (di_seq (de_tup (da_cons de_str (da_cons de_str da_nil)))) (blkOk_by (by kernel_rfl)) (by decide) (fun _ _ _ _ _ => (dg_name 3 sc_all_ways.nd)) (fun _ _ _ _ _ => dts_nil) (fun _ _ _ _ _ => (di_seq (de_tup (da_cons de_str (da_cons de_str da_nil))))) (fun _ _ _ _ _ => (dg_name 5 sc_all_ways.nd)) (fun _ _ _ _ _ => dts_nil) (fun _ _ _ _ _ => (de_tup (da_cons de_str (da_cons (de_var 1) (da_cons (de_var 3) (da_cons (de_var 5) da_nil)))))) (by decide) (by decide)))))
      (dss_one (ds_for ai.own rfl (di_seq (de_globE (by rfl) T.c_STEPS)) (dg_name 2 sc_all_ways.nd) (dss_one (ds_for ai.own rfl (di_seq (de_globE (by rfl) T.c_COMES)) (dg_name 3 sc_all_ways.nd) (dss_one (ds_for ai.own rfl (di_seq (de_globE (by rfl) T.c_GONES)) (dg_name 4 sc_all_ways.nd) (dss_one (ds_ext 0 (DF.de (DLc.df (lc1 (own := [("grow", 5)]) rfl sc_all_ways.nd (di_seq (de_globE (by rfl) T.c_GROWS)) (blkOk_by (by kernel_rfl)) (fun _ _ _ _ _ => (dg_name 5 sc_all_ways.nd)) (fun _ _ _ _ _ => dts_nil) (fun _ _ _ _ _ => (de_tup (da_cons de_str (da_cons (de_var 1) (da_cons (de_var 2) (da_cons (de_var 3) (da_cons (de_var 4) (da_cons (de_var 5) da_nil)))))))) (by decide))))))))))))))
      (dss_one (ds_ret (de_callTy call_tupF cbd_tuple (by rfl) T.b_tuple (by decide +kernel) (da_cons (DF.de (df_callB (cr_sortA (u65 hr)) cbf_sort (by rfl) T.b_sorted (by decide +kernel) (da_cons (DF.de (DLc.df (lc1 (own := [("way", 6)]) rfl sc_all_ways.nd (di_seq (de_var 0)) (blkOk_by (by kernel_rfl)) (fun _ _ _ _ _ => (dg_name 6 sc_all_ways.nd)) (fun _ _ _ _ _ => (dts_one (dt_val (de_fn C_is_way hr passL (da_cons (de_var 6) da_nil))))) (fun _ _ _ _ _ => (de_var 6)) (by decide)))) da_nil))) da_nil))))))
theorem sc_law : FnScope ["script", "k", "town", "ways", "word", "way"] ["script"] (defScope s_law) := ⟨rfl, rfl, rfl, by decide +kernel, rfl, by decide +kernel, by decide +kernel⟩
theorem ok_law (T : Tx K mg base) {f : Addr} {fd : FuncData} (hm : mg "law" = some (.ref f)) (hF : FunD K "law" "law" (defArgs s_law) (defBody s_law) (defScope s_law) [] [] f fd) (hl : m_law [sD] (fun d => d = .bool true) (fun _ => False)) : FnOk P w K mg base (L2.CX P w) 5 f fd ["script"] (spLaw K) := by
  have C__law_begun := cal__law_begun (P := P) (w := w) (base := base) T
  have C__law_count := cal__law_count (P := P) (w := w) (base := base) T
  have C__law_way := cal__law_way (P := P) (w := w) (base := base) T
  have C_all_ways := cal_all_ways (P := P) (w := w) (base := base) T
  have C_is_way := cal_is_way (P := P) (w := w) (base := base) T
  refine law_fn (k := 4) hm hF sc_law (fun cdv A outer s H E hr tc0 ai => ?_) hl
  exact (dss_cons (ds_tgt (de_tup (da_cons (de_fn0 C__law_begun hr ai.pass) (da_cons (de_fn0 C_all_ways hr ai.pass) da_nil))) (dg_tup rfl (dgs_cons (dg_name 2 sc_law.nd) (dgs_cons (dg_name 3 sc_law.nd) dgs_nil))))
      (dss_cons (ds_if (DW.dt (dw_or (dt_cmp (op_neD hr.units) opd_ne (de_callB call_len cbd_len (by rfl) T.b_len (by decide +kernel) (da_cons (de_var 3) da_nil)) de_int (nomark _)) (dw_or (dt_cmp (op_neD hr.units) opd_ne (DF.de (df_callTy call_list_of cbf_list (by rfl) T.b_list (by decide +kernel) (da_cons (de_var 3) da_nil))) (DF.de (df_sortT rfl (u65 hr) (by rfl) T.b_sorted (by rfl) T.b_set (de_var 3))) (nomark _)) (dw_or1 (dt_not (dt_val (de_callB (cr_all rfl) cbd_all (by rfl) T.b_all (by decide +kernel) (da_cons (DF.de (DLc.df (lc1 (own := [("way", 5)]) rfl sc_law.nd (di_seq (de_var 3)) (blkOk_by (by kernel_rfl)) (fun _ _ _ _ _ => (dg_name 5 sc_law.nd)) (fun _ _ _ _ _ => dts_nil) (fun _ _ _ _ _ => (de_fn C_is_way hr passL (da_cons (de_var 5) da_nil))) (by decide)))) da_nil)))))))) (dss_one (ds_ret de_bl)) dss_nil)
      (dss_cons (ds_if (dt_cmp (op_neD hr.units) opd_ne (DF.de (DLc.df (lc1 (own := [("word", 4)]) rfl sc_law.nd (di_seq (de_tup (da_cons de_str (da_cons de_str da_nil)))) (blkOk_by (by kernel_rfl)) (fun _ _ _ _ _ => (dg_name 4 sc_law.nd)) (fun _ _ _ _ _ => dts_nil) (fun _ _ _ _ _ => (de_fn C__law_count hr passL (da_cons (de_var 3) (da_cons de_str (da_cons de_int (da_cons (de_var 4) da_nil)))))) (by decide)))) (DF.de (df_lst (da_cons de_int (da_cons de_int da_nil)))) (nomark _)) (dss_one (ds_ret de_bl)) dss_nil)
      (dss_cons (ds_if (dt_cmp (op_neD hr.units) opd_ne (DF.de (DLc.df (lc1 (own := [("word", 4)]) rfl sc_law.nd (di_seq (de_tup (da_cons de_str (da_cons de_str (da_cons de_str (da_cons de_str da_nil)))))) (blkOk_by (by kernel_rfl)) (fun _ _ _ _ _ => (dg_name 4 sc_law.nd)) (fun _ _ _ _ _ => dts_nil) (fun _ _ _ _ _ => (de_fn C__law_count hr passL (da_cons (de_var 3) (da_cons de_str (da_cons de_int (da_cons (de_var 4) da_nil)))))) (by decide)))) (DF.de (df_lst (da_cons de_int (da_cons de_int (da_cons de_int (da_cons de_int da_nil)))))) (nomark _)) (dss_one (ds_ret de_bl)) dss_nil)
      (dss_cons (ds_if (dt_cmp (op_neD hr.units) opd_ne (DF.de (DLc.df (lc1 (own := [("word", 4)]) rfl sc_law.nd (di_seq (de_tup (da_cons de_str (da_cons de_str (da_cons de_str (da_cons de_str da_nil)))))) (blkOk_by (by kernel_rfl)) (fun _ _ _ _ _ => (dg_name 4 sc_law.nd)) (fun _ _ _ _ _ => dts_nil) (fun _ _ _ _ _ => (de_fn C__law_count hr passL (da_cons (de_var 3) (da_cons de_str (da_cons de_int (da_cons (de_var 4) da_nil)))))) (by decide)))) (DF.de (df_lst (da_cons de_int (da_cons de_int (da_cons de_int (da_cons de_int da_nil)))))) (nomark _)) (dss_one (ds_ret de_bl)) dss_nil)
      (dss_cons (ds_if (dt_cmp (op_neD hr.units) opd_ne (DF.de (DLc.df (lc1 (own := [("word", 4)]) rfl sc_law.nd (di_seq (de_tup (da_cons de_str (da_cons de_str (da_cons de_str (da_cons de_str da_nil)))))) (blkOk_by (by kernel_rfl)) (fun _ _ _ _ _ => (dg_name 4 sc_law.nd)) (fun _ _ _ _ _ => dts_nil) (fun _ _ _ _ _ => (de_fn C__law_count hr passL (da_cons (de_var 3) (da_cons de_str (da_cons de_int (da_cons (de_var 4) da_nil)))))) (by decide)))) (DF.de (df_lst (da_cons de_int (da_cons de_int (da_cons de_int (da_cons de_int da_nil)))))) (nomark _)) (dss_one (ds_ret de_bl)) dss_nil)
      (dss_cons (ds_for ai.own rfl (di_range1 (by rfl) T.b_range (da_cons de_int da_nil)) (dg_name 1 sc_law.nd) (dss_one (ds_if (dt_cmp (op_notInA (u65 hr)) opd_notIn (de_fn C__law_way hr ai.pass (da_cons (de_var 0) (da_cons (de_var 2) da_nil))) (de_var 3) rfl) (dss_one (ds_ret de_bl)) dss_nil)))
      (dss_one (ds_ret de_bl)))))))))
end
end G6

namespace G6
open PySem PySem.Spec L2 DL
theorem hun {w : World} {h : Heap} {K : PySem.W.Frag} (c : He.SaysX hfa hfn [] htf hex w h K) : uniqB (tabsOf K htf) = true := by
  have m : hex K = true := c.more
  unfold hex at m
  exact List.all_eq_true.mp m _ (List.mem_of_getElem? (i := 5) rfl)
theorem tx {w : World} {h base : Heap} {K : PySem.W.Frag} {mg : Str → Option Value} (X : K.In h) (G : h.Ns mainGlobals mg) (c : He.SaysX hfa hfn [] htf hex w h K) (tb : ∀ p ∈ htf.map (He.cT K), LamX.TabB base mg p.1 p.2) : @Tx (nmOf K htf (hun c)) K mg base := by
  have fact : ∀ (i : Nat) (f : He.Fa), hfa[i]? = some f → f.ok K = true := fun i f e => c.t.d.fact i e
  have fn : ∀ (i : Nat) (x : Str) (j : Nat), hfn[i]? = some (dOf x j) → (He.Fa.glo x).ok K = true → FnT K mg x (top j) := fun i x j e g => by
    obtain ⟨fd, F⟩ := c.t.d.def_ i e
    exact ⟨_, fd, He.glo_ok X G g, F⟩
  have m0 : hex K = true := c.more
  unfold hex at m0
  have m : ∀ (i : Nat) (b : Bool), [tupN K "HOMES" [.str "low", .str "fold"], tupN K "STEPS" [.str "up", .str "down", .str "wide", .str "own"], tupN K "COMES" [.str "late", .str "empty", .str "near", .str "first"], tupN K "GONES" [.str "mark", .str "hole", .str "again", .str "pull"], tupN K "GROWS" [.str "half", .str "three", .str "full"], uniqB (tabsOf K htf)][i]? = some b → b = true := fun i b e => List.all_eq_true.mp m0 _ (List.mem_of_getElem? e)
  exact @Tx.mk (nmOf K htf (hun c)) _ _ _ (He.free_ok X G (fact 14 _ rfl))
    (He.free_ok X G (fact 15 _ rfl))
    (He.free_ok X G (fact 16 _ rfl))
    (He.free_ok X G (fact 17 _ rfl))
    (He.free_ok X G (fact 18 _ rfl))
    (He.free_ok X G (fact 19 _ rfl))
    (He.free_ok X G (fact 20 _ rfl))
    (He.free_ok X G (fact 21 _ rfl))
    (He.free_ok X G (fact 22 _ rfl))
    (⟨_, He.glo_ok X G (fact 9 _ rfl), fun O H P => .tup (tupN_ok (m 0 _ rfl) H) (.cons (.str _ (by decide +kernel)) (.cons (.str _ (by decide +kernel)) (.nil)))⟩)
    (⟨_, He.glo_ok X G (fact 10 _ rfl), fun O H P => .tup (tupN_ok (m 1 _ rfl) H) (.cons (.str _ (by decide +kernel)) (.cons (.str _ (by decide +kernel)) (.cons (.str _ (by decide +kernel)) (.cons (.str _ (by decide +kernel)) (.nil)))))⟩)
    (⟨_, He.glo_ok X G (fact 11 _ rfl), fun O H P => .tup (tupN_ok (m 2 _ rfl) H) (.cons (.str _ (by decide +kernel)) (.cons (.str _ (by decide +kernel)) (.cons (.str _ (by decide +kernel)) (.cons (.str _ (by decide +kernel)) (.nil)))))⟩)
    (⟨_, He.glo_ok X G (fact 12 _ rfl), fun O H P => .tup (tupN_ok (m 3 _ rfl) H) (.cons (.str _ (by decide +kernel)) (.cons (.str _ (by decide +kernel)) (.cons (.str _ (by decide +kernel)) (.cons (.str _ (by decide +kernel)) (.nil)))))⟩)
    (⟨_, He.glo_ok X G (fact 13 _ rfl), fun O H P => .tup (tupN_ok (m 4 _ rfl) H) (.cons (.str _ (by decide +kernel)) (.cons (.str _ (by decide +kernel)) (.cons (.str _ (by decide +kernel)) (.nil))))⟩)
    (fn 0 _ _ rfl (fact 0 _ rfl))
    (fn 1 _ _ rfl (fact 1 _ rfl))
    (fn 2 _ _ rfl (fact 2 _ rfl))
    (fn 3 _ _ rfl (fact 3 _ rfl))
    (fn 4 _ _ rfl (fact 4 _ rfl))
    (fn 5 _ _ rfl (fact 5 _ rfl))
    (fn 6 _ _ rfl (fact 6 _ rfl))
    (fn 7 _ _ rfl (fact 7 _ rfl))
    (fn 8 _ _ rfl (fact 8 _ rfl))
end G6

open PySem PySem.W PySem.Calls PyProof.Rows
theorem PySem.Challenge.cw_slotorders_k02_all_ways_holds : PySem.Challenge.rw_slotorders_k02_all_ways.Holds := by
  w_on; o_law
  refine HandSHeadRun.head_any (r := OpenLaw.row PySem.Challenge.rw_slotorders_k02_all_ways) (q := view (OpenLaw.row PySem.Challenge.rw_slotorders_k02_all_ways).prog [15]) (H := G6.hk) (ob := G6.hob) (M := 20000) (loose := G6.loose) (d := HandSHeadRun.topDef (OpenLaw.row PySem.Challenge.rw_slotorders_k02_all_ways).prog 15) (kwd := []) G6.hob_eq
    (by kernel_rfl) (fun s => by kernel_rfl) G6.run (by kernel_rfl) (by kernel_rfl) (by kernel_rfl) (by rfl) (by first | assumption | decide +kernel) (by decide +kernel) ⟨rfl, rfl, rfl, rfl, rfl, by decide +kernel⟩ ?hw ?hc
  case hw => w_witness2
  case hc =>
    refine LamX.walk_ofTsE (l := PySem.Challenge.rw_slotorders_k02_all_ways) (n := 63) (k := 5) (x := "script") (CX := fun w => L2.CX (PySem.Challenge.rw_slotorders_k02_all_ways).prog w) rfl (by decide) (by kernel_rfl) ⟨rfl, by decide, by decide⟩ ?F (fun _ _ _ _ _ z => DL.no_cx z)
    intro w mg fa h Y G hmg0
    obtain ⟨K, KX, c⟩ := Y
    have hmg : mg ("law" : PySem.Str) = some (.ref fa) := by
      have e : (HandSHeadRun.topDef (OpenLaw.row PySem.Challenge.rw_slotorders_k02_all_ways).prog 15).name = ("law" : PySem.Str) := by kernel_rfl
      rw [← e]
      exact hmg0
    refine ⟨K, KX, ?_⟩
    obtain ⟨fd, F⟩ := c.t.d.def_ (i := 8) rfl
    have ef : fa = He.ga K "law" := by
      have e := He.glo_ok (x := "law") KX G (c.t.d.fact 8 rfl)
      rw [hmg] at e
      cases e
      rfl
    subst ef
    exact DL.law_at KX c (G6.hun c) F (fun _ _ _ _ _ _ us hl => match us, hl with | [_], _ => rfl) fun base tb => @G6.ok_law (DL.nmOf K G6.htf (G6.hun c)) _ _ _ _ _ (G6.tx KX G c tb) _ _ hmg F G6.law_ok

