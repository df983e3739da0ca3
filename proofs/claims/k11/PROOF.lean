import PyProof.Rows.All
import Wide.All
import OpenK.AllK
import Wide.FinOn
import HandS.ForMost
import HandS.TupAny
import HandS.TupMul
import HandS.Conv
import KE.KIndexOf
import PyProof.Rows.SeqMore
import HandS.ForExc
import HandS.Evl
import HandS.Deep
import HandS.IsInst
import HandS.Zip
import HandS.SortInts
import HandS.Wide
import HandS.Defaults
import HandS.Head0
import HandS.Head1
import HandS.Head2
import HandS.HeadEnd
import HandS.HeadHook1
import HandS.HeadHook2
import HandS.HeadHook3
import HandS.HeadHook4
import HandS.EndBits
import KE.SortData
import HandS.Iter
import HandS.Style
import PyProof.EnumMake
import KE.GoesMore
import KE.DataFind
import PyProof.SeqIndex
import PyProof.SliceList
import PyProof.Rows.SetFrom
import PySem.Challenge.RW_slotorders_k11_whole_late_and_empty
set_option Elab.async false
set_option linter.all false
set_option maxRecDepth 100000
set_option maxHeartbeats 0
namespace DL
open PySem PySem.Spec PyProof.Rows L2
/-! ### tuples that have no attributes of their own: known to the object -/
/-- a new tuple's object -/
def tupO (its : List Value) (n : Nat) : Obj := { cls := .type "tuple", data := .seq its.toArray n }
def TqT (K : PySem.W.Frag) (H : Hp) (a : Addr) (xs : List V) : Prop := (∃ o : Obj, o.dict = none ∧ H a = some (.frz o (.tup xs))) ∨
  ∃ (o : Obj) (its : Array Value) (n : Nat), K.lookup a = some o ∧ o.cls = .type "tuple" ∧ o.dict = none ∧ o.data = .seq its n ∧ its.size ≤ sizeLine ∧ Vals xs its.toList
theorem TqT.sq {K : PySem.W.Frag} {H : Hp} {a : Addr} {xs : List V} (h : TqT K H a xs) : SqT K H a xs := by
  rcases h with ⟨o, _, h⟩ | ⟨o, its, n, h1, h2, _, h4, h5, h6⟩
  · exact .inl (.inr ⟨o, h⟩)
  · exact .inr ⟨o, its, n, h1, h2, h4, h5, h6⟩
/-- what a rule says of a new tuple -/
def NewT (xs : List V) (H : Hp) (Q : VK) : Prop := ∀ p o, H p = none → o.dict = none → Q (.ref p) (upd H p (.frz o (.tup xs)))
section
variable {X : Cx} {pins : List (Addr × Obj)} {σ : L2.St} {H : Hp} {s : Shared} {h' : Heap} {Q : VK}
theorem laidT {a : Addr} {xs : List V} {its : List Value} {n tk : Nat} (I : Inv X pins σ H s) (k : ∀ b u, s.heap.get? b = some u → h'.get? b = some u) (le : s.heap.objs.size ≤ a) (e : h'.get? a = some (tupO its n)) (r : Vals xs its) (hz : xs.length ≤ sizeLine) (q : NewT xs H Q) :
    EP X pins σ Q (.ref a) { s with heap := h', toks := tk } :=
  ⟨.ref a, upd H a (.frz (tupO its n) (.tup xs)), I.laid k le (show ObjOk X.prog X.w _ h' a (.frz (tupO its n) (.tup xs)) from ⟨e, hz, its, r, _, e, rfl, n, rfl⟩), rfl, q a _ (I.hok.fresh le) rfl⟩
/-- (a, b, ..) -/
def tTupF (t : TA) : TE := fun σ H Q => t σ H fun xs H1 => xs.length ≤ sizeLine ∧ NewT xs H1 Q
theorem pe_tupF {es : List Expr} {t : TA} {pos : Pos} {x1} (h : PA X es t) : PE X (.Tuple es x1 pos) (tTupF t) :=
  ⟨fun pins s σ H Q I hq => wpAny_Tuple_spliced (thn (h.run pos pins s σ H _ I hq) fun us s1 ⟨xs, H1, I1, r, z, q⟩ => ⟨by rw [← r.length]; exact z,
    laidT (n := 0) (tk := s1.toks) I1 (fun b u e => Heap.get?_push_of_some _ e) (Nat.le_refl _) (Heap.get?_push_size _ rfl) r z q⟩)⟩
/-- tuple(xs) -/
def rTupF (K : PySem.W.Frag) : List V → Hp → VK → Prop := fun xs H Q => ∃ p ys, xs = [.ref p] ∧ ((SqL K H p ys ∧ NewT ys H Q) ∨ (SqT K H p ys ∧ Q (.ref p) H))
theorem call_tupF : CallR X (.type "tuple") (rTupF X.K) := by
  intro pins s σ H xs us Q I r h
  obtain ⟨p, ys, rfl, h⟩ := h
  obtain ⟨u, rfl, ru⟩ := vals1 r
  cases ru
  rcases h with ⟨hq, q⟩ | ⟨hq, q⟩
  · obtain ⟨its, rv, pl, hz⟩ := I.list hq
    have hl := rv.length
    refine call_tuple_list pl.isList (fun h1 kp => ?_) (by rw [List.size_toArray]; omega)
    have I1 : Inv X pins σ H { s with heap := h1 } := I.kept (t' := s.toks) kp
    exact laidT (s := { s with heap := h1 }) (n := 0) (tk := s.toks) I1 (fun b o e => Heap.get?_push_of_some _ e) (Nat.le_refl _) (Heap.get?_push_size _ rfl) rv hz q
  · obtain ⟨its, rv, pl, hz⟩ := I.tuple hq
    exact call_tuple_same pl ⟨.ref p, H, I, rfl, q⟩
/-- tuple(range(..)) -/
def tTupRgF (te : L2.St → Hp → (Int → Int → Hp → Prop) → Prop) : TE := fun σ H Q => te σ H fun a b H1 => RgOk a b ∧ NewT (rgV a b) H1 Q
theorem pe_tupRgF {e : Expr} {te : L2.St → Hp → (Int → Int → Hp → Prop) → Prop} {p pos : Pos} (hc : X.calm = true) (hg : Gl X "tuple") (hm : X.mg "tuple" = none) (he : PRg X e te) (na : starEach [e] X.env = (false, eval e X.env) :: starEach [] X.env := by rfl) : PE X (.Call (.Name "tuple" p) [e] [] pos) (tTupRgF te) := by
  refine ⟨fun pins s σ H Q I h => Call_ (ld_blt I hg hm boot_tuple (PyProof.Rows.callWith_type1 (args_cons (thn (he pins s σ H _ I h) fun x s1 ⟨r, a, b, t, u, v, H1, ex, hr, I1, ok, q⟩ => args_nil ?_) na) na))⟩
  subst ex
  obtain ⟨b1, b2, b3, b4, b5⟩ := ok
  refine call_tuple_range (n := (b - a).toNat) (I1.ok.hd hc) hr (small_one b1 b2 b3 b4) (rangeSize_nat a b) b5 fun h1 tk acc hk hi => ?_
  have I2 : Inv X pins σ H1 { s1 with heap := h1, toks := tk } := I1.kept (t' := tk) hk
  refine laidT (s := { s1 with heap := h1, toks := tk }) (n := 0) (tk := tk) (its := acc.toList) I2 (fun c o e => Heap.get?_push_of_some _ e) (Nat.le_refl _) ?_ (vals_rg hi) ?_ q
  · unfold tupO
    rw [Array.toArray_toList]
    exact Heap.get?_push_size _ rfl
  · rw [rgV_length, sizeLine_eq]
    omega
/-- t + u -/
def rCatF (K : PySem.W.Frag) : R2 := fun x y H Q => ∃ a b xs ys, x = .ref a ∧ y = .ref b ∧ SqT K H a xs ∧ SqT K H b ys ∧ xs.length + ys.length ≤ sizeLine ∧
  (xs = [] → Q (.ref b) H) ∧ (xs ≠ [] → ys = [] → Q (.ref a) H) ∧ (xs ≠ [] → ys ≠ [] → NewT (xs ++ ys) H Q)
theorem op_catF : OpR X (binaryOp .Add) (rCatF X.K) := by
  intro pins s σ H x y v u Q I rx ry h
  obtain ⟨a, b, xs, ys, rfl, rfl, ha, hb, hz, q0, q1, q2⟩ := h
  cases rx
  cases ry
  obtain ⟨its, r1, p1, _⟩ := I.tuple ha
  obtain ⟨its2, r2, p2, _⟩ := I.tuple hb
  by_cases hx : xs = []
  · subst hx
    cases r1
    exact cat_tup0 p1 p2 ⟨.ref b, H, I, rfl, q0 rfl⟩
  · refine HT.cat_tup p1 p2 (fun z => hx (r1.nil_iff.mp z)) (fun z => ⟨.ref a, H, I, rfl, q1 hx (r2.nil_iff.mp z)⟩) (fun z => ?_) (by rw [← r1.length, ← r2.length]; exact hz)
    exact laidT (n := 0) (tk := s.toks) I (fun b ob q => Heap.get?_push_of_some _ q) (Nat.le_refl _) (Heap.get?_push_size _ rfl) (r1.append r2) (by rw [List.length_append]; exact hz) (q2 hx fun w => z (r2.nil_iff.mpr w))
/-- t[lo:hi] -/
def rSlF (K : PySem.W.Frag) : V → Option Int → Option Int → Hp → VK → Prop := fun x lo hi H Q => ∃ a xs, x = .ref a ∧ SqT K H a xs ∧
  (HT.sIx xs.length 0 lo = 0 ∧ HT.sIx xs.length xs.length hi = xs.length → Q (.ref a) H) ∧ (¬ (HT.sIx xs.length 0 lo = 0 ∧ HT.sIx xs.length xs.length hi = xs.length) → NewT (cutV xs lo hi) H Q)
theorem sl_tupF : SlR X (rSlF X.K) := by
  intro pins s σ H x v vl vu lo hi sl Q I rx hs pl pu h
  obtain ⟨a, xs, rfl, hx, q1, q2⟩ := h
  cases rx
  obtain ⟨its, r, ht, hz⟩ := I.tuple hx
  have hlen : its.toArray.size = xs.length := by
    rw [List.size_toArray]
    exact r.length.symm
  refine ⟨"tuple", _, PyProof.Rows.slot_tuple_getitem.lookup, ht.typeIs, ?_⟩
  by_cases hw : HT.sIx xs.length 0 lo = 0 ∧ HT.sIx xs.length xs.length hi = xs.length
  · exact getItem_tuple_whole ht hs pl pu (by rw [hlen]; exact hw) ⟨.ref a, H, I, rfl, q1 hw⟩
  · refine HT.getItem_tuple_cut ht hs pl pu (by rw [hlen]; exact hw) ?_ (by rw [hlen]; exact hz)
    rw [hlen]
    exact laidT (n := 0) (tk := s.toks) I (fun b ob q => Heap.get?_push_of_some _ q) (Nat.le_refl _) (Heap.get?_push_size _ rfl) ((r.drop _).take _) (Nat.le_trans (cutV_length xs lo hi) hz) (q2 hw)
/-- t * k -/
def rRepF (K : PySem.W.Frag) : R2 := fun x y H Q => ∃ l k xs, x = .ref l ∧ y = .int k ∧ SqT K H l xs ∧ xs ≠ [] ∧ 2 ≤ k ∧ k ≤ 1000 ∧ xs.length ≤ 1000 ∧ NewT (List.replicate k.toNat xs).flatten H Q
theorem op_repF : OpR X (binaryOp .Mult) (rRepF X.K) := by
  intro pins s σ H x y v u Q I rx ry h
  obtain ⟨l, k, xs, rfl, rfl, hT, hne, h1, h2, hz, q⟩ := h
  cases rx
  obtain ⟨t, rfl⟩ := ry
  obtain ⟨its, r, ⟨⟨cls, dd, data, sl⟩, ho, hc, n, hd⟩, hs⟩ := I.tuple hT
  replace hc : cls = .type "tuple" := hc
  replace hd : data = .seq its.toArray n := hd
  subst hc hd
  have hlen : its.toArray.size = xs.length := by
    rw [List.size_toArray]
    exact r.length.symm
  have emp : its.toArray.isEmpty = false := by
    cases r with
    | nil => exact absurd rfl hne
    | cons _ _ => rfl
  have prod : k.toNat * xs.length ≤ 1000 * 1000 := Nat.mul_le_mul (by omega) hz
  have prodI : ((its.toArray.size : Nat) : Int) * k ≤ 1000000 := by
    rw [hlen]
    have : ((xs.length : Nat) : Int) * k ≤ 1000 * k := Int.mul_le_mul_of_nonneg_right (by omega) (by omega)
    omega
  have c0 : (decide (k < -(2 ^ 63)) || decide (k ≥ 2 ^ 63)) = false := by simp; omega
  have c1 : (its.toArray.isEmpty || k == 1) = false := by rw [emp]; simp; omega
  have c2 : (decide (k ≤ 0) || its.toArray.isEmpty) = false := by rw [emp]; simp; omega
  have c4 : Builtin.Tuple.tupleTooMany (((its.toArray.size : Nat) : Int) * k) = false := by
    unfold Builtin.Tuple.tupleTooMany
    rw [sizeLine_eq]
    exact decide_eq_false (by omega)
  have c5 : (List.replicate k.toNat its).flatten.length ≤ sizeLine := by
    rw [PyProof.Rows.lm_len_rep_flat, ← r.length, sizeLine_eq]
    omega
  have mul := tuple_mulW l its.toArray n dd sl k t c0 c1 c2 (by omega) c4 (by rw [size_rep, List.size_toArray]; exact c5)
  refine wpAny_binaryOp_repeat_ref (T := "tuple") (U := "int") (by decide) ⟨_, ho, rfl⟩ (fun s' => typeIs_int s' k t) noFill_tuple_mul F.fills_int_mul F.slot_int_rmul repeat_tuple F.slot_int_index.lookup ?_
  refine call_meets F.slot_int_rmul (typeIs_int s k t) F.entry_int_rmul (F.args_int_rmul_2 _ _) (int_rmul_tuple k t l its.toArray n dd sl) ⟨ho, rfl, ⟨_, ho, rfl⟩, ?_⟩
  refine call_meets F.slot_tuple_mul ⟨_, ho, rfl⟩ F.entry_tuple_mul (F.args_tuple_mul_2 _ _) mul ⟨ho, ?_⟩
  rw [size_rep]
  refine laidT (n := 0) (tk := s.toks) I (fun b ob q => Heap.get?_push_of_some _ q) (Nat.le_refl _) (Heap.get?_push_size _ rfl) (r.rep k.toNat) ?_ q
  rw [PyProof.Rows.lm_len_rep_flat, sizeLine_eq]
  omega
/-! ### t.m(..) of such a tuple -/
theorem TqT.ty {a : Addr} {xs : List V} (I : Inv X pins σ H s) (h : TqT X.K H a xs) : s.TypeIs (.ref a) "tuple" ∧ ∀ b, Value.ref a = .ref b → ∃ ob, s.heap.get? b = some ob ∧ ob.dict = none := by
  rcases h with ⟨o, hd, e⟩ | ⟨o, its, n, hk, hc, hd, _⟩
  · obtain ⟨g, hz, its, r, o', g', hc, _⟩ := I.hok a _ e
    rw [g] at g'
    cases g'
    exact ⟨⟨_, g, hc⟩, fun b z => by cases z; exact ⟨_, g, hd⟩⟩
  · exact ⟨⟨_, I.kIn a o hk, hc⟩, fun b z => by cases z; exact ⟨_, I.kIn a o hk, hd⟩⟩
def tBMT (K : PySem.W.Frag) (r : V → List V → Hp → VK → Prop) (to : TE) (t : TA) : TE := fun σ H Q => to σ H fun x H1 => (∃ a xs, x = .ref a ∧ TqT K H1 a xs) ∧ t σ H1 fun ys H2 => r x ys H2 Q
theorem pe_bmT {id : String} {name : Str} {r : V → List V → Hp → VK → Prop} {o e : Expr} {es : List Expr} {to : TE} {t : TA} {apos cpos : Pos} (slot : Slot "tuple" name id) (hty : typeOf (.builtin id) = pure (.type "method_descriptor")) (hm : MtR X id r) (ho : PE X o to) (ha : PA X (e :: es) t)
    (hbase : attributeBase o name X.env (eval o X.env) = eval o X.env := by rfl)
    (hfew : ((backTo cpos (starEach (e :: es) X.env)).all (fun x => !x.1) && (backToKw cpos (keywordEach [] X.env)).all (fun x => x.1.isSome) && decide ((e :: es).length + ([] : List Keyword).length + (if ([] : List Keyword).isEmpty then 0 else 1) < 30)) = true := by rfl)
    (hline : (apos.endLine == cpos.line) = true := by rfl) (hs : starEach (e :: es) X.env = (false, eval e X.env) :: starEach es X.env := by rfl) (hplain : (backTo cpos (starEach es X.env)).any (·.1) = false := by rfl) :
    PE X (.Call (.Attribute o name apos) (e :: es) [] cpos) (tBMT X.K r to t) := by
  refine ⟨fun pins s σ H Q I h => wpAny_Call_method_late hbase hfew hline rfl (thn (ho.run pins s σ H _ I h) fun v s1 ⟨x, H1, I1, r1, ⟨a, xs, ex, ty⟩, q1⟩ => ?_)⟩
  subst ex
  cases r1
  obtain ⟨h1, h2⟩ := ty.ty I1
  refine ⟨"tuple", id, PySem.F.plainAttrs_tuple, slot, hty, h1, h2, ?_⟩
  have hA := ha.run cpos pins s1 σ H1 _ I1 q1
  rw [hs] at hA ⊢
  refine Calls.callWith_builtin (by show (false || (backTo cpos (starEach es X.env)).any (·.1)) = false; rw [hplain] <;> rfl) (Calls.evalArgs_plain ?_)
  exact thn hA fun us s2 ⟨vs, H2, I2, r2, q2⟩ => hm pins s2 σ H2 (.ref a) vs (.ref a) us Q I2 (show RelV (.ref a) (.ref a) from rfl) r2 q2
/-- ints: where, how often -/
def mIxL (K : PySem.W.Frag) : V → List V → Hp → VK → Prop := fun x xs H Q => ∃ (a : Addr) (ns : List Int) (k : Int), x = .ref a ∧ xs = [.int k] ∧ SqL K H a (ns.map V.int) ∧ k ∈ ns ∧ Q (.int (ns.idxOf k : Nat)) H
theorem mt_ixL : MtR X "list.index" (mIxL X.K) := by
  intro pins s σ H x xs v us Q I rx rxs h
  obtain ⟨a, ns, k, rfl, rfl, hs, hk, q⟩ := h
  cases rx
  obtain ⟨u, rfl, t, rfl⟩ := vals1 rxs
  obtain ⟨its, rv, hl, hz⟩ := I.list hs
  exact PySem.SeqAt.list_index_ints hl.isList rv.ints (by rw [List.length_map] at hz; exact hz) hk ⟨.int _, H, I.tok _, ⟨_, rfl⟩, q⟩
def mIxT (K : PySem.W.Frag) : V → List V → Hp → VK → Prop := fun x xs H Q => ∃ (a : Addr) (ns : List Int) (k : Int), x = .ref a ∧ xs = [.int k] ∧ SqT K H a (ns.map V.int) ∧ k ∈ ns ∧ Q (.int (ns.idxOf k : Nat)) H
theorem mt_ixT : MtR X "tuple.index" (mIxT X.K) := by
  intro pins s σ H x xs v us Q I rx rxs h
  obtain ⟨a, ns, k, rfl, rfl, hs, hk, q⟩ := h
  cases rx
  obtain ⟨u, rfl, t, rfl⟩ := vals1 rxs
  obtain ⟨its, rv, hl, hz⟩ := I.tuple hs
  exact PySem.SeqAt.tuple_index_ints hl rv.ints hk ⟨.int _, H, I.tok _, ⟨_, rfl⟩, q⟩
def mCtL (K : PySem.W.Frag) : V → List V → Hp → VK → Prop := fun x xs H Q => ∃ (a : Addr) (ns : List Int) (k : Int), x = .ref a ∧ xs = [.int k] ∧ SqL K H a (ns.map V.int) ∧ Q (.int (ns.count k : Nat)) H
theorem mt_ctL : MtR X "list.count" (mCtL X.K) := by
  intro pins s σ H x xs v us Q I rx rxs h
  obtain ⟨a, ns, k, rfl, rfl, hs, q⟩ := h
  cases rx
  obtain ⟨u, rfl, t, rfl⟩ := vals1 rxs
  obtain ⟨its, rv, hl, hz⟩ := I.list hs
  exact count_list_ints hl.isList rv.ints ⟨.int _, H, I.tok _, ⟨_, rfl⟩, q⟩
end
end DL

/-! DL: a layer of plain data over the hand layer. Values are told by plain data, whatever their places; a piece of code is read as a function from data to what is wanted of data. -/
namespace DL
open PySem PySem.Spec L2

abbrev D := PyData
/-- what is wanted of a value, and of an exception by its class's name -/
abbrev WD (α : Type) := (α → Prop) → (Str → Prop) → Prop

/-! ### objects that are no data: told by a relation of one's own, over what is no list -/
/-- a list, a dict: what may change -/
def Mb (o : HO) : Prop := (∃ xs, o = .lst xs) ∨ ∃ k, o = .dK k
def Nl (H H' : Hp) : Prop := ∀ a o, H a = some o → ¬ Mb o → H' a = some o
structure Ob where
  ro : PySem.W.Frag → Hp → V → List (D × D) → Prop
  keep : ∀ {K : PySem.W.Frag} {H H' : Hp} {v : V} {k : List (D × D)}, Nl H H' → ro K H v k → ro K H' v k
def Ob.no : Ob := ⟨fun _ _ _ _ => False, fun _ h => h⟩
theorem Nl.of {H H' : Hp} (s : Same H H') : Nl H H' := fun a o h _ => s a o h
theorem not_mb_tup {xs : List V} : ¬ Mb (.tup xs) := fun h => by
  rcases h with ⟨_, e⟩ | ⟨_, e⟩ <;> cases e
theorem not_mb_frz {o : Obj} {u : HO} : ¬ Mb (.frz o u) := fun h => by
  rcases h with ⟨_, e⟩ | ⟨_, e⟩ <;> cases e
theorem not_mb_ext {f : Heap → Prop} : ¬ Mb (.ext f) := fun h => by
  rcases h with ⟨_, e⟩ | ⟨_, e⟩ <;> cases e
theorem Nl.rd {H H' : Hp} {a : Addr} {u : HO} (n : Nl H H') (h : Rd H a u) (hu : ¬ Mb u) : Rd H' a u := by
  rcases h with h | ⟨o, h⟩
  · exact .inl (n a _ h hu)
  · exact .inr ⟨o, n a _ h not_mb_frz⟩
theorem Nl.tup {K : PySem.W.Frag} {H H' : Hp} {a : Addr} {xs : List V} (n : Nl H H') (h : TqT K H a xs) : TqT K H' a xs := by
  rcases h with ⟨o, h1, h2⟩ | h
  · exact .inl ⟨o, h1, n a _ h2 not_mb_frz⟩
  · exact .inr h

def kD : Key → D
  | .inl i => .int i
  | .inr x => .str x
/-- a dict as data -/
def dictE (ds : List (Key × D)) : D := .dict (ds.map fun p => (kD p.1, p.2))
/-- .. that is never written again -/
def dictZ (ds : List (Key × D)) : D := .dict ((.bool true, .none) :: ds.map fun p => (kD p.1, p.2))
mutual
/-- v stands for the data d; its lists are none of P -/
inductive Dv (O : Ob) (K : PySem.W.Frag) (H : Hp) (P : Addr → Prop) : V → D → Prop
  | non : Dv O K H P .non .none
  | bl (b : Bool) : Dv O K H P (.bl b) (.bool b)
  | int (i : Int) : Dv O K H P (.int i) (.int i)
  | str (x : Str) : PyData.strOk x = true → Dv O K H P (.str x) (.str x)
  | lst {a : Addr} {xs : List V} {ds : List D} : H a = some (.lst xs) → ¬ P a → DvAll O K H P xs ds → Dv O K H P (.ref a) (.list ds)
  | tup {a : Addr} {xs : List V} {ds : List D} : TqT K H a xs → DvAll O K H P xs ds → Dv O K H P (.ref a) (.tuple ds)
  | dct {a : Addr} {kvs : List (Key × V)} {ds : List (Key × D)} : H a = some (.dK kvs) → ¬ P a → kvs.map (·.1) = ds.map (·.1) → DvAll O K H P (kvs.map (·.2)) (ds.map (·.2)) → Dv O K H P (.ref a) (dictE ds)
  | dcz {a : Addr} {o : Obj} {kvs : List (Key × V)} {ds : List (Key × D)} : H a = some (.frz o (.dK kvs)) → kvs.map (·.1) = ds.map (·.1) → DvAll O K H P (kvs.map (·.2)) (ds.map (·.2)) → Dv O K H P (.ref a) (dictZ ds)
  | obj {v : V} {k : List (D × D)} : O.ro K H v k → Dv O K H P v (.dict k)
inductive DvAll (O : Ob) (K : PySem.W.Frag) (H : Hp) (P : Addr → Prop) : List V → List D → Prop
  | nil : DvAll O K H P [] []
  | cons {v : V} {vs : List V} {d : D} {ds : List D} : Dv O K H P v d → DvAll O K H P vs ds → DvAll O K H P (v :: vs) (d :: ds)
end

section
variable {O : Ob} {K : PySem.W.Frag} {H H' : Hp} {P P' : Addr → Prop}
mutual
theorem Dv.keep (n : Nl H H') (l : ∀ a o, H a = some o → Mb o → ¬ P a → H' a = some o) (p : ∀ a o, H a = some o → ¬ P a → ¬ P' a) : ∀ {v : V} {d : D}, Dv O K H P v d → Dv O K H' P' v d
  | _, _, .non => .non
  | _, _, .bl b => .bl b
  | _, _, .int i => .int i
  | _, _, .str x h => .str x h
  | _, _, .lst h q r => .lst (l _ _ h (.inl ⟨_, rfl⟩) q) (p _ _ h q) (DvAll.keep n l p r)
  | _, _, .dct h q k r => .dct (l _ _ h (.inr ⟨_, rfl⟩) q) (p _ _ h q) k (DvAll.keep n l p r)
  | _, _, .tup h r => .tup (n.tup h) (DvAll.keep n l p r)
  | _, _, .dcz h k r => .dcz (n _ _ h not_mb_frz) k (DvAll.keep n l p r)
  | _, _, .obj h => .obj (O.keep n h)
theorem DvAll.keep (n : Nl H H') (l : ∀ a o, H a = some o → Mb o → ¬ P a → H' a = some o) (p : ∀ a o, H a = some o → ¬ P a → ¬ P' a) : ∀ {vs : List V} {ds : List D}, DvAll O K H P vs ds → DvAll O K H' P' vs ds
  | _, _, .nil => .nil
  | _, _, .cons h r => .cons (Dv.keep n l p h) (DvAll.keep n l p r)
end
theorem Dv.same {v : V} {d : D} (s : Same H H') (h : Dv O K H P v d) : Dv O K H' P v d := h.keep (.of s) (fun a _ e _ _ => s a _ e) fun _ _ _ q => q
theorem DvAll.same {v : List V} {d : List D} (s : Same H H') (h : DvAll O K H P v d) : DvAll O K H' P v d := h.keep (.of s) (fun a _ e _ _ => s a _ e) fun _ _ _ q => q
theorem Dv.less {v : V} {d : D} (p : ∀ a, P' a → P a) (h : Dv O K H P v d) : Dv O K H P' v d := h.keep (fun _ _ e _ => e) (fun _ _ e _ _ => e) fun _ _ _ q z => q (p _ z)
theorem DvAll.less {v : List V} {d : List D} (p : ∀ a, P' a → P a) (h : DvAll O K H P v d) : DvAll O K H P' v d := h.keep (fun _ _ e _ => e) (fun _ _ e _ _ => e) fun _ _ _ q z => q (p _ z)
theorem DvAll.length : ∀ {vs : List V} {ds : List D}, DvAll O K H P vs ds → vs.length = ds.length
  | _, _, .nil => rfl
  | _, _, .cons _ r => congrArg (· + 1) r.length
theorem DvAll.get : ∀ {vs : List V} {ds : List D} {i : Nat} {d : D}, DvAll O K H P vs ds → ds[i]? = some d → ∃ v, vs[i]? = some v ∧ Dv O K H P v d
  | _, _, _, _, .nil, e => by simp at e
  | _, _, 0, _, .cons h _, e => by
    simp at e
    subst e
    exact ⟨_, rfl, h⟩
  | _, _, i + 1, _, .cons _ r, e => by
    obtain ⟨v, e1, h1⟩ := r.get (i := i) (by simpa using e)
    exact ⟨v, by simpa using e1, h1⟩
theorem DvAll.get' : ∀ {vs : List V} {ds : List D} {i : Nat} {v : V}, DvAll O K H P vs ds → vs[i]? = some v → ∃ d, ds[i]? = some d ∧ Dv O K H P v d
  | _, _, _, _, .nil, e => by simp at e
  | _, _, 0, _, .cons h _, e => by
    simp at e
    subst e
    exact ⟨_, rfl, h⟩
  | _, _, i + 1, _, .cons _ r, e => by
    obtain ⟨v, e1, h1⟩ := r.get' (i := i) (by simpa using e)
    exact ⟨v, by simpa using e1, h1⟩
theorem DvAll.append : ∀ {vs ws : List V} {ds es : List D}, DvAll O K H P vs ds → DvAll O K H P ws es → DvAll O K H P (vs ++ ws) (ds ++ es)
  | _, _, _, _, .nil, s => s
  | _, _, _, _, .cons h r, s => .cons h (r.append s)
theorem DvAll.take : ∀ {vs : List V} {ds : List D} (n : Nat), DvAll O K H P vs ds → DvAll O K H P (vs.take n) (ds.take n)
  | _, _, 0, _ => by simpa using DvAll.nil
  | _, _, _ + 1, .nil => .nil
  | _, _, n + 1, .cons h r => .cons h (r.take n)
theorem DvAll.drop : ∀ {vs : List V} {ds : List D} (n : Nat), DvAll O K H P vs ds → DvAll O K H P (vs.drop n) (ds.drop n)
  | _, _, 0, r => r
  | _, _, _ + 1, .nil => .nil
  | _, _, n + 1, .cons _ r => r.drop n

mutual
theorem Dv.dp : ∀ {d : D} {v : V}, Dv O K H P v d → d.canLay0 = true → Dp K H v d
  | _, _, .non, _ => .non
  | _, _, .bl b, _ => .bl b
  | _, _, .int i, _ => .int i
  | _, _, .str x _, _ => .str x
  | _, _, .lst h _ r, e => .lst (.inl (.inl h)) (DvAll.dp r (by simpa [PyData.canLay0] using e))
  | _, _, .tup h r, e => .tup h.sq (DvAll.dp r (by simpa [PyData.canLay0] using e))
  | _, _, .dct _ _ _ _, e => by simp [dictE, PyData.canLay0] at e
  | _, _, .dcz _ _ _, e => by simp [dictZ, PyData.canLay0] at e
  | _, _, .obj _, e => by simp [PyData.canLay0] at e
theorem DvAll.dp : ∀ {ds : List D} {vs : List V}, DvAll O K H P vs ds → PyData.canLayAll0 ds = true → DpAll K H vs ds
  | _, _, .nil, _ => .nil
  | d :: ds, _, .cons h r, e => by
    have e' : PyData.canLay0 d = true ∧ PyData.canLayAll0 ds = true := by simpa [PyData.canLayAll0] using e
    exact .cons (Dv.dp h e'.1) (DvAll.dp r e'.2)
end
theorem Dv.dpS {d : D} {v : V} (h : Dv O K H P v d) (e : SeqAt.shaped d = true) : Dp K H v d := h.dp (SeqAt.canLay_of_shaped e)

/-- no list, no object within -/
def pureD : D → Bool
  | .none => true
  | .bool _ => true
  | .int _ => true
  | .str _ => true
  | .tuple xs => pureAll xs
  | _ => false
where pureAll : List D → Bool
  | [] => true
  | x :: xs => pureD x && pureAll xs
mutual
theorem Dv.pure : ∀ {d : D} {v : V}, Dv O K H P v d → pureD d = true → Dv O K H P' v d
  | _, _, .non, _ => .non
  | _, _, .bl b, _ => .bl b
  | _, _, .int i, _ => .int i
  | _, _, .str x h, _ => .str x h
  | _, _, .lst _ _ _, e => by simp [pureD] at e
  | _, _, .tup h r, e => .tup h (DvAll.pure r (by simpa [pureD] using e))
  | _, _, .dct _ _ _ _, e => by simp [dictE, pureD] at e
  | _, _, .dcz _ _ _, e => by simp [dictZ, pureD] at e
  | _, _, .obj _, e => by simp [pureD] at e
theorem DvAll.pure : ∀ {ds : List D} {vs : List V}, DvAll O K H P vs ds → pureD.pureAll ds = true → DvAll O K H P' vs ds
  | _, _, .nil, _ => .nil
  | d :: ds, _, .cons h r, e => by
    have e' : pureD d = true ∧ pureD.pureAll ds = true := by simpa [pureD.pureAll] using e
    exact .cons (Dv.pure h e'.1) (DvAll.pure r e'.2)
end
end

/-! ### the judgements -/
abbrev Rho := List (Option D)
structure Rs (O : Ob) (K : PySem.W.Frag) (P : Addr → Prop) (ρ : Rho) (σ : L2.St) (H : Hp) : Prop where
  len : σ.length = ρ.length
  get : ∀ (i : Nat) (d : D), ρ[i]? = some (some d) → ∃ v, σ[i]? = some (some v) ∧ Dv O K H P v d
def Dom (H : Hp) (P : Addr → Prop) : Prop := ∀ a, P a → ∃ o, H a = some o ∧ Mb o
theorem Dom.same {H H' : Hp} {P : Addr → Prop} (h : Dom H P) (s : Same H H') : Dom H' P := fun a p =>
  let ⟨o, e, m⟩ := h a p
  ⟨o, s a o e, m⟩
theorem Dom.new {H : Hp} {P : Addr → Prop} {p : Addr} (h : Dom H P) (e : H p = none) : ¬ P p := fun z => by
  obtain ⟨o, e1, _⟩ := h p z
  rw [e] at e1
  cases e1
theorem Dom.mb {H : Hp} {P : Addr → Prop} (h : Dom H P) {a : Addr} {o : HO} (e : H a = some o) (p : P a) : Mb o := by
  obtain ⟨u, e1, m⟩ := h a p
  rw [e] at e1
  cases e1
  exact m
theorem Rs.same {O : Ob} {K : PySem.W.Frag} {P : Addr → Prop} {ρ : Rho} {σ : St} {H H' : Hp} (h : Rs O K P ρ σ H) (s : Same H H') : Rs O K P ρ σ H' := ⟨h.len, fun i d e =>
  let ⟨v, e1, h1⟩ := h.get i d e
  ⟨v, e1, h1.same s⟩⟩
theorem same_new {H : Hp} {p : Addr} {o : HO} (h : H p = none) : Same H (upd H p o) := fun b x e => by
  rw [upd_ne (ne_of_none e h)]
  exact e

/-- what an exception of a class does -/
def XOk (X : Cx) (E : XK) (H : Hp) (Ed : Str → Prop) : Prop := ∀ c a H', Same H H' → X.mg c = some (.ref a) → Ed c → E (.ref a) none H'
theorem XOk.same {X : Cx} {E : XK} {H H' : Hp} {Ed : Str → Prop} (h : XOk X E H Ed) (s : Same H H') : XOk X E H' Ed := fun c a H2 s2 m e => h c a H2 (s.trans s2) m e
theorem XOk.no {X : Cx} {E : XK} {H : Hp} : XOk X E H (fun _ => False) := fun _ _ _ _ _ z => z.elim

def VOk (O : Ob) (K : PySem.W.Frag) (P : Addr → Prop) (H : Hp) (Qd : D → Prop) (Q : VK) : Prop := ∀ v d H', Same H H' → Dv O K H' P v d → Qd d → Q v H'
def DE (O : Ob) (X : Cx) (E : XK) (e : Expr) (f : Rho → WD D) : Prop := ∃ t, PE X e t ∧ ∀ (P : Addr → Prop) (ρ : Rho) (σ : L2.St) (H : Hp) (Qd : D → Prop) (Ed : Str → Prop) (Q : VK),
  Dom H P → Rs O X.K P ρ σ H → f ρ Qd Ed → VOk O X.K P H Qd Q → XOk X E H Ed → t σ H Q
/-- a new list -/
def DF (O : Ob) (X : Cx) (E : XK) (e : Expr) (f : Rho → WD (List D)) : Prop := ∃ t, PE X e t ∧ ∀ (P : Addr → Prop) (ρ : Rho) (σ : L2.St) (H : Hp) (Qd : List D → Prop) (Ed : Str → Prop) (Q : VK),
  Dom H P → Rs O X.K P ρ σ H → f ρ Qd Ed → (∀ p vs ds H', Same H H' → H p = none → H' p = some (.lst vs) → DvAll O X.K H' (fun a => P a ∨ a = p) vs ds → Qd ds → Q (.ref p) H') → XOk X E H Ed → t σ H Q
def DT (O : Ob) (X : Cx) (E : XK) (e : Expr) (f : Rho → WD Bool) : Prop := ∃ t, PT X e t ∧ ∀ (P : Addr → Prop) (ρ : Rho) (σ : L2.St) (H : Hp) (Qd : Bool → Prop) (Ed : Str → Prop) (Q : Bool → Hp → Prop),
  Dom H P → Rs O X.K P ρ σ H → f ρ Qd Ed → (∀ b H', Same H H' → Qd b → Q b H') → XOk X E H Ed → t σ H Q
def DW (O : Ob) (X : Cx) (E : XK) (e : Expr) (f : Rho → WD Bool) : Prop := ∃ t, PW X e t ∧ ∀ (P : Addr → Prop) (ρ : Rho) (σ : L2.St) (H : Hp) (Qd : Bool → Prop) (Ed : Str → Prop) (Q : Bool → Hp → Prop),
  Dom H P → Rs O X.K P ρ σ H → f ρ Qd Ed → (∀ b H', Same H H' → Qd b → Q b H') → XOk X E H Ed → t σ H Q
def DA (O : Ob) (X : Cx) (E : XK) (es : List Expr) (f : Rho → WD (List D)) : Prop := ∃ t, PA X es t ∧ ∀ (P : Addr → Prop) (ρ : Rho) (σ : L2.St) (H : Hp) (Qd : List D → Prop) (Ed : Str → Prop) (Q : List V → Hp → Prop),
  Dom H P → Rs O X.K P ρ σ H → f ρ Qd Ed → (∀ vs ds H', Same H H' → DvAll O X.K H' P vs ds → ds.length = es.length → Qd ds → Q vs H') → XOk X E H Ed → t σ H Q

/-- the judgement by one reading -/
def tE (O : Ob) (K : PySem.W.Frag) (mg : Str → Option Value) (E : XK) (f : Rho → WD D) : TE := fun σ H Q => ∃ (P : Addr → Prop) (ρ : Rho) (Qd : D → Prop) (Ed : Str → Prop), Dom H P ∧ Rs O K P ρ σ H ∧ f ρ Qd Ed ∧ VOk O K P H Qd Q ∧ ∀ c a H', Same H H' → mg c = some (.ref a) → Ed c → E (.ref a) none H'
theorem DE.pe {O : Ob} {X : Cx} {E : XK} {e : Expr} {f : Rho → WD D} (h : DE O X E e f) : PE X e (tE O X.K X.mg E f) := by
  obtain ⟨t, h1, h2⟩ := h
  exact ⟨fun pins s σ H Q I ⟨P, ρ, Qd, Ed, a, b, c, d, e⟩ => h1.run pins s σ H Q I (h2 P ρ σ H Qd Ed Q a b c d e)⟩
def tT (O : Ob) (K : PySem.W.Frag) (mg : Str → Option Value) (E : XK) (f : Rho → WD Bool) : TT := fun σ H Q => ∃ (P : Addr → Prop) (ρ : Rho) (Qd : Bool → Prop) (Ed : Str → Prop), Dom H P ∧ Rs O K P ρ σ H ∧ f ρ Qd Ed ∧ (∀ b H', Same H H' → Qd b → Q b H') ∧ ∀ c a H', Same H H' → mg c = some (.ref a) → Ed c → E (.ref a) none H'
section
variable {O : Ob} {X : Cx} {E : XK} {a b c : Expr} {fa fb fc : Rho → WD D} {pos : Pos}
def eOfF (f : Rho → WD (List D)) : Rho → WD D := fun ρ Q Ed => f ρ (fun ds => Q (.list ds)) Ed
theorem DF.de {e : Expr} {f : Rho → WD (List D)} (h : DF O X E e f) : DE O X E e (eOfF f) := by
  obtain ⟨t, h1, h2⟩ := h
  refine ⟨t, h1, fun P ρ σ H Qd Ed Q hd hr hf hQ hE => h2 P ρ σ H _ Ed Q hd hr hf (fun p vs ds H' s n e r q => hQ _ _ H' s (.lst e (hd.new n) (r.less fun _ z => .inl z)) q) hE⟩
/-! ### names and constants -/
def eVar (i : Nat) : Rho → WD D := fun ρ Q _ => match ρ[i]? with
  | some (some d) => Q d
  | _ => False
def eC (d : D) : Rho → WD D := fun _ Q _ => Q d
theorem de_var (i : Nat) {x : Str} (hN : X.N[i]? = some x := by rfl) (hv : Vis X.env.scope x := by first | exact Or.inl rfl | exact Or.inr (Or.inl rfl) | exact Or.inr (Or.inr rfl)) (hd : (x == ("__debug__" : Str)) = false := by decide)
    (hcd : (x == ("__classdict__" : Str)) = false := by decide) : DE O X E (.Name x pos) (eVar i) := by
  refine ⟨_, pe_var hN hv hd hcd, fun P ρ σ H Qd Ed Q hd hr hf hQ _ => ?_⟩
  unfold eVar at hf
  split at hf
  · rename_i d e
    obtain ⟨v, e1, h1⟩ := hr.get i d e
    exact ⟨v, e1, hQ v d H (Same.refl H) h1 hf⟩
  · exact hf.elim
theorem de_int {i j} : DE O X E (.Constant (.int i) j pos) (eC (.int i)) := ⟨_, pe_int, fun P ρ σ H Qd Ed Q _ _ hf hQ _ => hQ _ _ H (Same.refl H) (.int i) hf⟩
theorem de_bl {i j} : DE O X E (.Constant (.bool i) j pos) (eC (.bool i)) := ⟨_, pe_bl, fun P ρ σ H Qd Ed Q _ _ hf hQ _ => hQ _ _ H (Same.refl H) (.bl i) hf⟩
theorem de_non {j} : DE O X E (.Constant .none j pos) (eC .none) := ⟨_, pe_non, fun P ρ σ H Qd Ed Q _ _ hf hQ _ => hQ _ _ H (Same.refl H) .non hf⟩
theorem de_str {i j} (h : PyData.strOk i = true := by decide +kernel) : DE O X E (.Constant (.str i) j pos) (eC (.str i)) := ⟨_, pe_str, fun P ρ σ H Qd Ed Q _ _ hf hQ _ => hQ _ _ H (Same.refl H) (.str i h) hf⟩
/-- a constant of the module: a tuple of scalars -/
theorem de_globT {x : Str} {u : Addr} {d : D} (hg : Gl X x) (hm : X.mg x = some (.ref u)) (h : ∀ H P, Dv O X.K H P (.ref u) d) (hd : (x == ("__debug__" : Str)) = false := by decide) : DE O X E (.Name x pos) (eC d) :=
  ⟨_, pe_glob (v := .ref u) hg hm rfl hd, fun P ρ σ H Qd Ed Q _ _ hf hQ _ => hQ _ _ H (Same.refl H) (h H P) hf⟩
theorem de_globE {x : Str} {d : D} (hg : Gl X x) (hm : ∃ u : Addr, X.mg x = some (.ref u) ∧ ∀ (O : Ob) (H : Hp) (P : Addr → Prop), Dv O X.K H P (.ref u) d) (hd : (x == ("__debug__" : Str)) = false := by decide) : DE O X E (.Name x pos) (eC d) := by
  obtain ⟨u, hm, h⟩ := hm
  exact ⟨_, pe_glob (v := .ref u) hg hm rfl hd, fun P ρ σ H Qd Ed Q _ _ hf hQ _ => hQ _ _ H (Same.refl H) (h O H P) hf⟩
theorem de_globI {x : Str} {i : Int} (hg : Gl X x) (hm : ∃ t, X.mg x = some (.int i t)) (hd : (x == ("__debug__" : Str)) = false := by decide) : DE O X E (.Name x pos) (eC (.int i)) := by
  obtain ⟨t, hm⟩ := hm
  exact ⟨_, pe_glob (v := .int i) hg hm ⟨t, rfl⟩ hd, fun P ρ σ H Qd Ed Q _ _ hf hQ _ => hQ _ _ H (Same.refl H) (.int i) hf⟩
/-! ### two parts -/
/-- an operation upon values, told by data -/
def OpD (O : Ob) (X : Cx) (r : R2) (g : D → D → WD D) : Prop := ∀ (P : Addr → Prop) (H : Hp) (x y : V) (d e : D) (Qd : D → Prop) (Ed : Str → Prop) (Q : VK), Dom H P → Dv O X.K H P x d → Dv O X.K H P y e → g d e Qd Ed → VOk O X.K P H Qd Q → r x y H Q
def eOp (g : D → D → WD D) (fa fb : Rho → WD D) : Rho → WD D := fun ρ Q Ed => fa ρ (fun x => fb ρ (fun y => g x y Q Ed) Ed) Ed
theorem op2 {r : R2} {g : D → D → WD D} (hg : OpD O X r g) {ta tb : TE} (ha : ∀ (P : Addr → Prop) (ρ : Rho) (σ : L2.St) (H : Hp) (Qd : D → Prop) (Ed : Str → Prop) (Q : VK), Dom H P → Rs O X.K P ρ σ H → fa ρ Qd Ed → VOk O X.K P H Qd Q → XOk X E H Ed → ta σ H Q)
    (hb : ∀ (P : Addr → Prop) (ρ : Rho) (σ : L2.St) (H : Hp) (Qd : D → Prop) (Ed : Str → Prop) (Q : VK), Dom H P → Rs O X.K P ρ σ H → fb ρ Qd Ed → VOk O X.K P H Qd Q → XOk X E H Ed → tb σ H Q)
    (P : Addr → Prop) (ρ : Rho) (σ : L2.St) (H : Hp) (Qd : D → Prop) (Ed : Str → Prop) (Q : VK) (hd : Dom H P) (hr : Rs O X.K P ρ σ H) (hf : eOp g fa fb ρ Qd Ed) (hQ : VOk O X.K P H Qd Q) (hE : XOk X E H Ed) : tOp r ta tb σ H Q :=
  ha P ρ σ H _ Ed _ hd hr hf (fun x d H1 s1 h1 q1 => hb P ρ σ H1 _ Ed _ (hd.same s1) (hr.same s1) q1 (fun y e H2 s2 h2 q2 =>
    hg P H2 x y d e Qd Ed Q ((hd.same s1).same s2) (h1.same s2) h2 q2 fun v d' H3 s3 h3 q3 => hQ v d' H3 ((s1.trans s2).trans s3) h3 q3) (hE.same s1)) hE
theorem de_op {op : Operator} {r : R2} {g : D → D → WD D} (ho : OpR X (binaryOp op) r) (hg : OpD O X r g) (ha : DE O X E a fa) (hb : DE O X E b fb) : DE O X E (.BinOp a op b pos) (eOp g fa fb) := by
  obtain ⟨ta, a1, a2⟩ := ha
  obtain ⟨tb, b1, b2⟩ := hb
  exact ⟨_, pe_op ho a1 b1, op2 hg a2 b2⟩
theorem de_cmp {op : CmpOp} {r : R2} {g : D → D → WD D} (ho : OpR X (compareOp op) r) (hg : OpD O X r g) (ha : DE O X E a fa) (hb : DE O X E b fb) (hm : behindInMarks op b = false) : DE O X E (.Compare a [op] [b] pos) (eOp g fa fb) := by
  obtain ⟨ta, a1, a2⟩ := ha
  obtain ⟨tb, b1, b2⟩ := hb
  exact ⟨_, pe_cmpR ho a1 b1 hm, op2 hg a2 b2⟩
theorem OpR.or {f : Value → Value → Sem Value} {r1 r2 : R2} (h1 : OpR X f r1) (h2 : OpR X f r2) : OpR X f (fun x y H Q => r1 x y H Q ∨ r2 x y H Q) := fun pins s σ H x y v u Q I rx ry h => by
  rcases h with h | h
  · exact h1 pins s σ H x y v u Q I rx ry h
  · exact h2 pins s σ H x y v u Q I rx ry h
/-- a test out of a value that is True or False -/
def isB (Q : Bool → Prop) : D → Prop
  | .bool b => Q b
  | _ => False
def tB1 (f : Rho → WD D) : Rho → WD Bool := fun ρ Q Ed => f ρ (isB Q) Ed
theorem bool_of {P : Addr → Prop} {H : Hp} {v : V} {d : D} {Qd : Bool → Prop} (h : Dv O X.K H P v d) (q : isB Qd d) : ∃ b, v = .bl b ∧ Qd b := by
  cases h with
  | bl b => exact ⟨b, rfl, q⟩
  | _ => exact q.elim
theorem dt_cmp {op : CmpOp} {r : R2} {g : D → D → WD D} (ho : OpR X (compareOp op) r) (hg : OpD O X r g) (ha : DE O X E a fa) (hb : DE O X E b fb) (hm : behindInMarks op b = false) : DT O X E (.Compare a [op] [b] pos) (tB1 (eOp g fa fb)) := by
  obtain ⟨ta, a1, a2⟩ := ha
  obtain ⟨tb, b1, b2⟩ := hb
  refine ⟨_, pt_cmpR ho a1 b1 hm, fun P ρ σ H Qd Ed Q hd hr hf hQ hE => op2 hg a2 b2 P ρ σ H _ Ed _ hd hr hf (fun v d H' s h q => ?_) hE⟩
  obtain ⟨b, e, q⟩ := bool_of h q
  exact ⟨b, e, hQ b H' s q⟩
theorem dt_val (ha : DE O X E a fa) (he : ∀ whole, isTrue a X.env whole = (do let v ← whole; standAt a.pos; holding [v] (truthy v)) := by intro _; rfl) : DT O X E a (tB1 fa) := by
  obtain ⟨ta, a1, a2⟩ := ha
  refine ⟨_, pt_val a1 he, fun P ρ σ H Qd Ed Q hd hr hf hQ hE => a2 P ρ σ H _ Ed _ hd hr hf (fun v d H' s h q => ?_) hE⟩
  obtain ⟨b, e, q⟩ := bool_of h q
  exact ⟨b, e, hQ b H' s q⟩
/-- by truth -/
def truD : D → Option Bool
  | .none => some false
  | .bool b => some b
  | .int i => some (i != 0)
  | .list xs => some (!xs.isEmpty)
  | .tuple xs => some (!xs.isEmpty)
  | _ => none
def tTru (f : Rho → WD D) : Rho → WD Bool := fun ρ Q Ed => f ρ (fun d => match truD d with
  | some b => Q b
  | none => False) Ed
theorem isEmpty_of {P : Addr → Prop} {H : Hp} {vs : List V} {ds : List D} (h : DvAll O X.K H P vs ds) : vs.isEmpty = ds.isEmpty := by
  cases h <;> rfl
theorem dt_tru (ha : DE O X E a fa) (he : ∀ whole, isTrue a X.env whole = (do let v ← whole; standAt a.pos; holding [v] (truthy v)) := by intro _; rfl) : DT O X E a (tTru fa) := by
  obtain ⟨ta, a1, a2⟩ := ha
  refine ⟨_, pt_truth a1 he, fun P ρ σ H Qd Ed Q hd hr hf hQ hE => a2 P ρ σ H _ Ed _ hd hr hf (fun v d H' s h q => ?_) hE⟩
  cases h with
  | non => exact ⟨_, rfl, hQ _ H' s q⟩
  | bl b => exact ⟨_, rfl, hQ _ H' s q⟩
  | int i => exact ⟨_, rfl, hQ _ H' s q⟩
  | str x h => exact q.elim
  | lst e _ r => exact ⟨_, .inl ⟨_, .inl (.inl e), rfl⟩, by rw [isEmpty_of r]; exact hQ _ H' s q⟩
  | tup e r => exact ⟨_, .inr (.inl ⟨_, e.sq, rfl⟩), by rw [isEmpty_of r]; exact hQ _ H' s q⟩
  | dct _ _ _ _ => exact q.elim
  | dcz _ _ _ => exact q.elim
  | obj _ => exact q.elim
/-! ### and, or, not, if -/
def tAndD (f g : Rho → WD Bool) : Rho → WD Bool := fun ρ Q Ed => f ρ (fun b => if b = true then g ρ Q Ed else Q false) Ed
def tOrD (f g : Rho → WD Bool) : Rho → WD Bool := fun ρ Q Ed => f ρ (fun b => if b = true then Q true else g ρ Q Ed) Ed
def tNotD (f : Rho → WD Bool) : Rho → WD Bool := fun ρ Q Ed => f ρ (fun b => Q (!b)) Ed
variable {ga gb : Rho → WD Bool} {rest : List Expr}
theorem dw_and1 (h : DT O X E a ga) : DW O X E (.BoolOp .And [a] pos) ga := let ⟨t, h1, h2⟩ := h; ⟨t, pw_and1 h1, h2⟩
theorem dw_or1 (h : DT O X E a ga) : DW O X E (.BoolOp .Or [a] pos) ga := let ⟨t, h1, h2⟩ := h; ⟨t, pw_or1 h1, h2⟩
theorem dw_and (h : DT O X E a ga) (k : DW O X E (.BoolOp .And (b :: rest) pos) gb) : DW O X E (.BoolOp .And (a :: b :: rest) pos) (tAndD ga gb) := by
  obtain ⟨t, h1, h2⟩ := h
  obtain ⟨u, k1, k2⟩ := k
  refine ⟨_, pw_and h1 k1, fun P ρ σ H Qd Ed Q hd hr hf hQ hE => h2 P ρ σ H _ Ed _ hd hr hf (fun b H1 s1 q1 => ?_) hE⟩
  cases b with
  | true => exact k2 P ρ σ H1 _ Ed Q (hd.same s1) (hr.same s1) q1 (fun b H2 s2 q2 => hQ b H2 (s1.trans s2) q2) (hE.same s1)
  | false => exact hQ false H1 s1 q1
theorem dw_or (h : DT O X E a ga) (k : DW O X E (.BoolOp .Or (b :: rest) pos) gb) : DW O X E (.BoolOp .Or (a :: b :: rest) pos) (tOrD ga gb) := by
  obtain ⟨t, h1, h2⟩ := h
  obtain ⟨u, k1, k2⟩ := k
  refine ⟨_, pw_or h1 k1, fun P ρ σ H Qd Ed Q hd hr hf hQ hE => h2 P ρ σ H _ Ed _ hd hr hf (fun b H1 s1 q1 => ?_) hE⟩
  cases b with
  | false => exact k2 P ρ σ H1 _ Ed Q (hd.same s1) (hr.same s1) q1 (fun b H2 s2 q2 => hQ b H2 (s1.trans s2) q2) (hE.same s1)
  | true => exact hQ true H1 s1 q1
theorem DW.dt (h : DW O X E a ga) : DT O X E a ga := let ⟨t, h1, h2⟩ := h; ⟨t, h1.pt, h2⟩
theorem dt_not (h : DT O X E a ga) : DT O X E (.UnaryOp .Not a pos) (tNotD ga) := by
  obtain ⟨t, h1, h2⟩ := h
  exact ⟨_, pt_not h1, fun P ρ σ H Qd Ed Q hd hr hf hQ hE => h2 P ρ σ H _ Ed _ hd hr hf (fun b H1 s1 q1 => hQ _ H1 s1 q1) hE⟩
def eIf (g : Rho → WD Bool) (f h : Rho → WD D) : Rho → WD D := fun ρ Q Ed => g ρ (fun b => if b = true then f ρ Q Ed else h ρ Q Ed) Ed
theorem de_if (h : DT O X E c ga) (ha : DE O X E a fa) (hb : DE O X E b fb) : DE O X E (.IfExp c a b pos) (eIf ga fa fb) := by
  obtain ⟨t, h1, h2⟩ := h
  obtain ⟨ta, a1, a2⟩ := ha
  obtain ⟨tb, b1, b2⟩ := hb
  refine ⟨_, pe_ifExp h1 a1 b1, fun P ρ σ H Qd Ed Q hd hr hf hQ hE => h2 P ρ σ H _ Ed _ hd hr hf (fun b H1 s1 q1 => ?_) hE⟩
  cases b with
  | true => exact a2 P ρ σ H1 _ Ed Q (hd.same s1) (hr.same s1) q1 (fun v d H2 s2 h2 q2 => hQ v d H2 (s1.trans s2) h2 q2) (hE.same s1)
  | false => exact b2 P ρ σ H1 _ Ed Q (hd.same s1) (hr.same s1) q1 (fun v d H2 s2 h2 q2 => hQ v d H2 (s1.trans s2) h2 q2) (hE.same s1)
/-- as values: True, False -/
def eAnd (f g : Rho → WD D) : Rho → WD D := fun ρ Q Ed => f ρ (fun d => match d with
  | .bool true => g ρ Q Ed
  | .bool false => Q (.bool false)
  | _ => False) Ed
def eOr (f g : Rho → WD D) : Rho → WD D := fun ρ Q Ed => f ρ (fun d => match d with
  | .bool true => Q (.bool true)
  | .bool false => g ρ Q Ed
  | _ => False) Ed
def eNot (f : Rho → WD D) : Rho → WD D := fun ρ Q Ed => f ρ (fun d => match d with
  | .bool b => Q (.bool (!b))
  | _ => False) Ed
theorem de_one {op} (h : DE O X E a fa) : DE O X E (.BoolOp op [a] pos) fa := let ⟨t, h1, h2⟩ := h; ⟨t, pe_one h1, h2⟩
theorem de_and (ha : DE O X E a fa) (hb : DE O X E (.BoolOp .And (b :: rest) pos) fb) : DE O X E (.BoolOp .And (a :: b :: rest) pos) (eAnd fa fb) := by
  obtain ⟨ta, a1, a2⟩ := ha
  obtain ⟨tb, b1, b2⟩ := hb
  refine ⟨_, pe_and a1 b1, fun P ρ σ H Qd Ed Q hd hr hf hQ hE => a2 P ρ σ H _ Ed _ hd hr hf (fun v d H1 s1 h q => ?_) hE⟩
  cases h with
  | bl k =>
    refine ⟨k, rfl, ?_⟩
    cases k with
    | true => exact b2 P ρ σ H1 _ Ed Q (hd.same s1) (hr.same s1) q (fun v d H2 s2 h2 q2 => hQ v d H2 (s1.trans s2) h2 q2) (hE.same s1)
    | false => exact hQ _ _ H1 s1 (.bl false) q
  | _ => exact q.elim
theorem de_or (ha : DE O X E a fa) (hb : DE O X E (.BoolOp .Or (b :: rest) pos) fb) : DE O X E (.BoolOp .Or (a :: b :: rest) pos) (eOr fa fb) := by
  obtain ⟨ta, a1, a2⟩ := ha
  obtain ⟨tb, b1, b2⟩ := hb
  refine ⟨_, pe_or a1 b1, fun P ρ σ H Qd Ed Q hd hr hf hQ hE => a2 P ρ σ H _ Ed _ hd hr hf (fun v d H1 s1 h q => ?_) hE⟩
  cases h with
  | bl k =>
    refine ⟨k, rfl, ?_⟩
    cases k with
    | false => exact b2 P ρ σ H1 _ Ed Q (hd.same s1) (hr.same s1) q (fun v d H2 s2 h2 q2 => hQ v d H2 (s1.trans s2) h2 q2) (hE.same s1)
    | true => exact hQ _ _ H1 s1 (.bl true) q
  | _ => exact q.elim
theorem de_not (ha : DE O X E a fa) : DE O X E (.UnaryOp .Not a pos) (eNot fa) := by
  obtain ⟨ta, a1, a2⟩ := ha
  refine ⟨_, pe_not a1, fun P ρ σ H Qd Ed Q hd hr hf hQ hE => a2 P ρ σ H _ Ed _ hd hr hf (fun v d H1 s1 h q => ?_) hE⟩
  cases h with
  | bl k => exact ⟨k, rfl, hQ _ _ H1 s1 (.bl _) q⟩
  | _ => exact q.elim
end
end DL

namespace DL
open PySem PySem.Spec L2
section
variable {O : Ob} {X : Cx} {E : XK}
theorem VOk.here {K : PySem.W.Frag} {P : Addr → Prop} {H : Hp} {Qd : D → Prop} {Q : VK} (h : VOk O K P H Qd Q) {v : V} {d : D} (hv : Dv O K H P v d) (q : Qd d) : Q v H := h v d H (Same.refl H) hv q
theorem VOk.new {K : PySem.W.Frag} {P : Addr → Prop} {H : Hp} {Qd : D → Prop} {Q : VK} (h : VOk O K P H Qd Q) {vs : List V} {ds : List D} (hv : DvAll O K H P vs ds) (q : Qd (.tuple ds)) : NewT vs H Q := fun p o n no =>
  h _ _ _ (same_new n) (.tup (.inl ⟨o, no, upd_same⟩) (hv.same (same_new n))) q
theorem VOk.newL {K : PySem.W.Frag} {P : Addr → Prop} {H : Hp} {Qd : D → Prop} {Q : VK} (h : VOk O K P H Qd Q) (hd : Dom H P) {vs : List V} {ds : List D} {p : Addr} (n : H p = none) (hv : DvAll O K H P vs ds) (q : Qd (.list ds)) : Q (.ref p) (upd H p (.lst vs)) :=
  h _ _ _ (same_new n) (.lst upd_same (hd.new n) (hv.same (same_new n))) q
theorem DvAll.fresh {K : PySem.W.Frag} {H H' : Hp} {P : Addr → Prop} {p : Addr} {vs : List V} {ds : List D} (h : DvAll O K H P vs ds) (np : H p = none) (s : Same H H') : DvAll O K H' (fun a => P a ∨ a = p) vs ds :=
  h.keep (.of s) (fun a _ e _ _ => s a _ e) fun a xs e n z => by
    rcases z with z | z
    · exact n z
    · subst z
      rw [np] at e
      cases e
theorem strOk_append {x y : Str} (h : PyData.strOk x = true) (k : PyData.strOk y = true) : PyData.strOk (x ++ y) = true := by
  unfold PyData.strOk at *
  show (x.cps ++ y.cps).all _ = true
  rw [Array.all_append, h, k]
  rfl
/-! ### + -/
def addD : D → D → WD D
  | .int i, .int j => fun Q _ => Q (.int (i + j))
  | .str x, .str y => fun Q _ => x.length + y.length ≤ 16777216 ∧ Q (.str (x ++ y))
  | .tuple xs, .tuple ys => fun Q _ => xs.length + ys.length ≤ 16777216 ∧ Q (.tuple (xs ++ ys))
  | .list xs, .list ys => fun Q _ => xs.length + ys.length ≤ 16777216 ∧ Q (.list (xs ++ ys))
  | _, _ => fun _ _ => False
abbrev rAddD (K : PySem.W.Frag) : R2 := fun x y H Q => rI0 (fun i j => .int (i + j)) x y H Q ∨ (∃ i j, x = .str i ∧ y = .str j ∧ i.length + j.length ≤ sizeLine ∧ Q (.str (i ++ j)) H) ∨ rCatF K x y H Q ∨ rCat x y H Q
theorem op_addD : OpR X (binaryOp .Add) (rAddD X.K) := OpR.or op_add (OpR.or op_add_str (OpR.or op_catF op_cat))
theorem size_eq : (16777216 : Nat) = sizeLine := by decide
theorem opd_add : OpD O X (rAddD X.K) addD := fun P H x y d e Qd Ed Q hd hx hy hg hQ => by
  cases hx with
  | int i =>
    cases hy with
    | int j => exact .inl ⟨i, j, rfl, rfl, hQ.here (.int _) hg⟩
    | _ => exact hg.elim
  | str x hx =>
    cases hy with
    | str y hy => exact .inr (.inl ⟨x, y, rfl, rfl, size_eq ▸ hg.1, hQ.here (.str _ (strOk_append hx hy)) hg.2⟩)
    | _ => exact hg.elim
  | lst e1 n1 r1 =>
    cases hy with
    | lst e2 n2 r2 => exact .inr (.inr (.inr ⟨_, _, _, _, rfl, rfl, e1, e2, by rw [r1.length, r2.length]; exact size_eq ▸ hg.1, fun p np => hQ.newL hd np (r1.append r2) hg.2⟩))
    | _ => exact hg.elim
  | tup e1 r1 =>
    cases hy with
    | tup e2 r2 =>
      refine .inr (.inr (.inl ⟨_, _, _, _, rfl, rfl, e1.sq, e2.sq, by rw [r1.length, r2.length]; exact size_eq ▸ hg.1, fun z => ?_, fun _ z => ?_, fun _ _ => hQ.new (r1.append r2) hg.2⟩))
      · subst z
        cases r1
        exact hQ.here (.tup e2 r2) hg.2
      · subst z
        cases r2
        refine hQ.here (.tup e1 r1) ?_
        have := hg.2
        rw [List.append_nil] at this
        exact this
    | _ => exact hg.elim
  | _ => cases hy <;> exact hg.elim
/-! ### - * // % ** -/
def intD (C : Int → Int → Prop) (g : Int → Int → D) : D → D → WD D
  | .int i, .int j => fun Q _ => C i j ∧ Q (g i j)
  | _, _ => fun _ _ => False
theorem opd_int {C : Int → Int → Prop} {g : Int → Int → V} {g' : Int → Int → D} (h : ∀ i j P H, Dv O X.K H P (g i j) (g' i j)) : OpD O X (rI C g) (intD C g') := fun P H x y d e Qd Ed Q hd hx hy hg hQ => by
  cases hx with
  | int i =>
    cases hy with
    | int j => exact ⟨i, j, rfl, rfl, hg.1, hQ.here (h _ _ _ _) hg.2⟩
    | _ => exact hg.elim
  | _ => cases hy <;> exact hg.elim
def int0 (g : Int → Int → D) : D → D → WD D
  | .int i, .int j => fun Q _ => Q (g i j)
  | _, _ => fun _ _ => False
theorem opd_int0 {g : Int → Int → V} {g' : Int → Int → D} (h : ∀ i j P H, Dv O X.K H P (g i j) (g' i j)) : OpD O X (rI0 g) (int0 g') := fun P H x y d e Qd Ed Q hd hx hy hg hQ => by
  cases hx with
  | int i =>
    cases hy with
    | int j => exact ⟨i, j, rfl, rfl, hQ.here (h _ _ _ _) hg⟩
    | _ => exact hg.elim
  | _ => cases hy <;> exact hg.elim
abbrev subD : D → D → WD D := int0 fun i j => .int (i - j)
abbrev fdivD : D → D → WD D := intD CDiv fun i j => .int (i / j)
abbrev modD : D → D → WD D := intD (fun _ j => 0 < j) fun i j => .int (i % j)
abbrev powD : D → D → WD D := intD CPow fun i j => .int (i ^ j.toNat)
abbrev ltD : D → D → WD D := int0 fun i j => .bool (decide (i < j))
abbrev leD : D → D → WD D := int0 fun i j => .bool (decide (i ≤ j))
abbrev gtD : D → D → WD D := int0 fun i j => .bool (decide (j < i))
abbrev geD : D → D → WD D := int0 fun i j => .bool (decide (j ≤ i))
theorem opd_sub : OpD O X (rI0 fun i j => .int (i - j)) subD := opd_int0 fun _ _ _ _ => .int _
theorem opd_fdiv : OpD O X (rI CDiv fun i j => .int (i / j)) fdivD := opd_int fun _ _ _ _ => .int _
theorem opd_mod : OpD O X (rI (fun _ j => 0 < j) fun i j => .int (i % j)) modD := opd_int fun _ _ _ _ => .int _
theorem opd_pow : OpD O X (rI CPow fun i j => .int (i ^ j.toNat)) powD := opd_int fun _ _ _ _ => .int _
theorem opd_lt : OpD O X (rI0 fun i j => .bl (decide (i < j))) ltD := opd_int0 fun _ _ _ _ => .bl _
theorem opd_le : OpD O X (rI0 fun i j => .bl (decide (i ≤ j))) leD := opd_int0 fun _ _ _ _ => .bl _
theorem opd_gt : OpD O X (rI0 fun i j => .bl (decide (j < i))) gtD := opd_int0 fun _ _ _ _ => .bl _
theorem opd_ge : OpD O X (rI0 fun i j => .bl (decide (j ≤ i))) geD := opd_int0 fun _ _ _ _ => .bl _
def mulD : D → D → WD D
  | .int i, .int j => fun Q _ => CMul i j ∧ Q (.int (i * j))
  | .tuple xs, .int k => fun Q _ => xs ≠ [] ∧ 2 ≤ k ∧ k ≤ 1000 ∧ xs.length ≤ 1000 ∧ Q (.tuple (List.replicate k.toNat xs).flatten)
  | .list xs, .int k => fun Q _ => 0 ≤ k ∧ k ≤ 1000 ∧ xs.length ≤ 1000 ∧ Q (.list (List.replicate k.toNat xs).flatten)
  | _, _ => fun _ _ => False
theorem dvAll_rep {K : PySem.W.Frag} {H : Hp} {P : Addr → Prop} {vs : List V} {ds : List D} (h : DvAll O K H P vs ds) : ∀ n : Nat, DvAll O K H P (List.replicate n vs).flatten (List.replicate n ds).flatten
  | 0 => .nil
  | n + 1 => by
    rw [List.replicate_succ, List.replicate_succ, List.flatten_cons, List.flatten_cons]
    exact h.append (dvAll_rep h n)
abbrev rMulD (K : PySem.W.Frag) : R2 := fun x y H Q => rI CMul (fun i j => .int (i * j)) x y H Q ∨ rRepF K x y H Q ∨ rRep x y H Q
theorem op_mulD : OpR X (binaryOp .Mult) (rMulD X.K) := OpR.or op_mul (OpR.or op_repF op_rep)
theorem opd_mul : OpD O X (rMulD X.K) mulD := fun P H x y d e Qd Ed Q hd hx hy hg hQ => by
  cases hx with
  | int i =>
    cases hy with
    | int j => exact .inl ⟨i, j, rfl, rfl, hg.1, hQ.here (.int _) hg.2⟩
    | _ => exact hg.elim
  | tup e1 r1 =>
    cases hy with
    | int k =>
      obtain ⟨g1, g2, g3, g4, g5⟩ := hg
      refine .inr (.inl ⟨_, k, _, rfl, rfl, e1.sq, fun z => g1 ?_, g2, g3, by rw [r1.length]; exact g4, hQ.new (dvAll_rep r1 _) g5⟩)
      subst z
      cases r1
      rfl
    | _ => exact hg.elim
  | lst e1 n1 r1 =>
    cases hy with
    | int k =>
      obtain ⟨g1, g2, g3, g4⟩ := hg
      refine .inr (.inr ⟨_, k, _, rfl, rfl, e1, by omega, by omega, ?_, fun p np => hQ.newL hd np (dvAll_rep r1 _) g4⟩)
      rw [r1.length]
      have h1 : k.toNat ≤ 1000 := by omega
      have h2 := Nat.mul_le_mul g3 h1
      exact Nat.le_trans h2 (by decide)
    | _ => exact hg.elim
  | _ => cases hy <;> exact hg.elim
def negD : D → WD D
  | .int i => fun Q _ => Q (.int (-i))
  | _ => fun _ _ => False
def eUn (g : D → WD D) (f : Rho → WD D) : Rho → WD D := fun ρ Q Ed => f ρ (fun d => g d Q Ed) Ed
theorem de_neg {a : Expr} {fa : Rho → WD D} {pos : Pos} (ha : DE O X E a fa) : DE O X E (.UnaryOp .USub a pos) (eUn negD fa) := by
  obtain ⟨ta, a1, a2⟩ := ha
  refine ⟨_, pe_un un_neg a1, fun P ρ σ H Qd Ed Q hd hr hf hQ hE => a2 P ρ σ H _ Ed _ hd hr hf (fun v d H1 s1 h q => ?_) hE⟩
  cases h with
  | int i => exact ⟨i, rfl, hQ _ _ H1 s1 (.int _) q⟩
  | _ => exact q.elim
/-! ### == != in -/
def eqD (neg : Bool) : D → D → WD D := fun d e Q _ => SeqAt.shaped d = true ∧ SeqAt.shaped e = true ∧ Q (.bool (PyData.eqv d e != neg))
theorem opd_eq : OpD O X (rEqD X.K) (eqD false) := fun P H x y d e Qd Ed Q hd hx hy hg hQ => ⟨d, e, hx.dpS hg.1, hy.dpS hg.2.1, hg.1, hg.2.1, hQ.here (.bl _) (by simpa using hg.2.2)⟩
theorem opd_ne : OpD O X (rNeD X.K) (eqD true) := fun P H x y d e Qd Ed Q hd hx hy hg hQ => ⟨d, e, hx.dpS hg.1, hy.dpS hg.2.1, hg.1, hg.2.1, hQ.here (.bl _) (by simpa using hg.2.2)⟩
def inD (neg : Bool) : D → D → WD D
  | d, .list ds => fun Q _ => SeqAt.shaped d = true ∧ SeqAt.shaped (.list ds) = true ∧ Q (.bool ((ds.any fun z => PyData.eqv z d) != neg))
  | d, .tuple ds => fun Q _ => SeqAt.shaped d = true ∧ SeqAt.shaped (.tuple ds) = true ∧ Q (.bool ((ds.any fun z => PyData.eqv z d) != neg))
  | _, _ => fun _ _ => False
def rInT (K : PySem.W.Frag) (neg : Bool) : R2 := fun x y H Q => ∃ d ds, Dp K H x d ∧ Dp K H y (.tuple ds) ∧ SeqAt.shaped d = true ∧ SeqAt.shaped (.tuple ds) = true ∧ Q (.bl ((ds.any fun z => PyData.eqv z d) != neg)) H
theorem op_inT (hu : X.A.units + 65 < cLine) : OpR X (compareOp .In) (rInT X.K false) := by
  intro pins s σ H x y v u Q I rx ry h
  obtain ⟨d, ds, hd, he, sd, se, q⟩ := h
  obtain ⟨as, r1⟩ := Dp.reads I d x v hd rx
  obtain ⟨bs, r2⟩ := Dp.reads I (.tuple ds) y u he ry
  exact SeqAt.in_tuple_reads r2 r1 (SeqAt.canLay_of_shaped se) (SeqAt.canLay_of_shaped sd) (PyProof.Rows.room_in_shaped sd hu) ⟨.bl _, H, I, rfl, by simpa using q⟩
theorem op_notInT (hu : X.A.units + 65 < cLine) : OpR X (compareOp .NotIn) (rInT X.K true) := by
  intro pins s σ H x y v u Q I rx ry h
  obtain ⟨d, ds, hd, he, sd, se, q⟩ := h
  obtain ⟨as, r1⟩ := Dp.reads I d x v hd rx
  obtain ⟨bs, r2⟩ := Dp.reads I (.tuple ds) y u he ry
  exact SeqAt.notIn_tuple_reads r2 r1 (SeqAt.canLay_of_shaped se) (SeqAt.canLay_of_shaped sd) (PyProof.Rows.room_in_shaped sd hu) ⟨.bl _, H, I, rfl, by simpa using q⟩
theorem op_inA (hu : X.A.units + 65 < cLine) : OpR X (compareOp .In) (fun x y H Q => rInD X.K x y H Q ∨ rInT X.K false x y H Q) := OpR.or (op_inD hu) (op_inT hu)
theorem op_notInA (hu : X.A.units + 65 < cLine) : OpR X (compareOp .NotIn) (fun x y H Q => rNotInD X.K x y H Q ∨ rInT X.K true x y H Q) := OpR.or (op_notInD hu) (op_notInT hu)
theorem opd_in : OpD O X (fun x y H Q => rInD X.K x y H Q ∨ rInT X.K false x y H Q) (inD false) := fun P H x y d e Qd Ed Q hd hx hy hg hQ => by
  cases hy with
  | lst e1 n1 r1 => exact .inl ⟨d, _, hx.dpS hg.1, (Dv.lst e1 n1 r1).dpS hg.2.1, hg.1, hg.2.1, hQ.here (.bl _) (by simpa using hg.2.2)⟩
  | tup e1 r1 => exact .inr ⟨d, _, hx.dpS hg.1, (Dv.tup e1 r1).dpS hg.2.1, hg.1, hg.2.1, hQ.here (.bl _) hg.2.2⟩
  | _ => exact hg.elim
theorem opd_notIn : OpD O X (fun x y H Q => rNotInD X.K x y H Q ∨ rInT X.K true x y H Q) (inD true) := fun P H x y d e Qd Ed Q hd hx hy hg hQ => by
  cases hy with
  | lst e1 n1 r1 => exact .inl ⟨d, _, hx.dpS hg.1, (Dv.lst e1 n1 r1).dpS hg.2.1, hg.1, hg.2.1, hQ.here (.bl _) (by simpa using hg.2.2)⟩
  | tup e1 r1 => exact .inr ⟨d, _, hx.dpS hg.1, (Dv.tup e1 r1).dpS hg.2.1, hg.1, hg.2.1, hQ.here (.bl _) hg.2.2⟩
  | _ => exact hg.elim
/-- is None -/
def isN (neg : Bool) : D → D → WD D
  | d, .none => fun Q _ => Q (.bool ((match d with | .none => true | _ => false) != neg))
  | _, _ => fun _ _ => False
def noneD : D → Bool
  | .none => true
  | _ => false
theorem Dv.non_iff {K : PySem.W.Frag} {H : Hp} {P : Addr → Prop} {v : V} {d : D} (h : Dv O K H P v d) (ho : ∀ K H v k, O.ro K H v k → v ≠ .non) : decide (v = .non) = noneD d := by
  cases h with
  | obj h => exact decide_eq_false (ho _ _ _ _ h)
  | _ => rfl
def isND (neg : Bool) : D → D → WD D
  | .dict _, .none => fun _ _ => False
  | d, .none => fun Q _ => Q (.bool (noneD d != neg))
  | _, _ => fun _ _ => False
theorem opd_isN : OpD O X (fun x y H Q => y = .non ∧ Q (.bl (decide (x = .non))) H) (isND false) := fun P H x y d e Qd Ed Q hd hx hy hg hQ => by
  cases hy with
  | non =>
    refine ⟨rfl, ?_⟩
    cases hx with
    | obj h => exact hg.elim
    | dct _ _ _ _ => exact hg.elim
    | dcz _ _ _ => exact hg.elim
    | _ => exact hQ.here (.bl _) hg
  | _ => cases hx <;> exact hg.elim
theorem opd_notN : OpD O X (fun x y H Q => y = .non ∧ Q (.bl (!decide (x = .non))) H) (isND true) := fun P H x y d e Qd Ed Q hd hx hy hg hQ => by
  cases hy with
  | non =>
    refine ⟨rfl, ?_⟩
    cases hx with
    | obj h => exact hg.elim
    | dct _ _ _ _ => exact hg.elim
    | dcz _ _ _ => exact hg.elim
    | _ => exact hQ.here (.bl _) hg
  | _ => cases hx <;> exact hg.elim
/-! ### a <= b <= c -/
def eChain (g g' : D → D → WD D) (fa fb fc : Rho → WD D) : Rho → WD D := fun ρ Q Ed => fa ρ (fun x => fb ρ (fun y => g x y (isB fun k => if k = true then fc ρ (fun z => g' y z Q Ed) Ed else Q (.bool false)) Ed) Ed) Ed
theorem de_chain {a b c : Expr} {fa fb fc : Rho → WD D} {pos : Pos} {op op' : CmpOp} {r r' : R2} {g g' : D → D → WD D} (ho : OpR X (compareOp op) r) (ho' : OpR X (compareOp op') r') (hg : OpD O X r g) (hg' : OpD O X r' g') (ha : DE O X E a fa) (hb : DE O X E b fb) (hc : DE O X E c fc)
    (hm : lastMarks [op, op'] [b, c] = false := by with_unfolding_all rfl) : DE O X E (.Compare a [op, op'] [b, c] pos) (eChain g g' fa fb fc) := by
  obtain ⟨ta, a1, a2⟩ := ha
  obtain ⟨tb, b1, b2⟩ := hb
  obtain ⟨tc, c1, c2⟩ := hc
  refine ⟨_, pe_chain ho ho' a1 b1 c1 hm, fun P ρ σ H Qd Ed Q hd hr hf hQ hE => a2 P ρ σ H _ Ed _ hd hr hf (fun x d H1 s1 h1 q1 => b2 P ρ σ H1 _ Ed _ (hd.same s1) (hr.same s1) q1 (fun y e H2 s2 h2 q2 =>
    hg P H2 x y d e _ Ed _ ((hd.same s1).same s2) (h1.same s2) h2 q2 fun z k H3 s3 h3 q3 => ?_) (hE.same s1)) hE⟩
  obtain ⟨k, e, q⟩ := bool_of h3 q3
  refine ⟨k, e, ?_⟩
  cases k with
  | true => exact c2 P ρ σ H3 _ Ed _ (((hd.same s1).same s2).same s3) (((hr.same s1).same s2).same s3) q (fun w d' H4 s4 h4 q4 => hg' P H4 y w _ d' _ Ed Q ((((hd.same s1).same s2).same s3).same s4) ((h2.same s3).same s4) h4 q4
      fun v d'' H5 s5 h5 q5 => hQ v d'' H5 ((((s1.trans s2).trans s3).trans s4).trans s5) h5 q5) (((hE.same s1).same s2).same s3)
  | false => exact hQ _ _ H3 ((s1.trans s2).trans s3) (.bl false) q
/-! ### arguments, displays -/
def aNil : Rho → WD (List D) := fun _ Q _ => Q []
def aCons (f : Rho → WD D) (g : Rho → WD (List D)) : Rho → WD (List D) := fun ρ Q Ed => f ρ (fun d => g ρ (fun ds => Q (d :: ds)) Ed) Ed
theorem da_nil : DA O X E [] aNil := ⟨_, pa_nil, fun P ρ σ H Qd Ed Q hd hr hf hQ hE => hQ _ _ H (Same.refl H) .nil rfl hf⟩
theorem da_cons {e : Expr} {es : List Expr} {f : Rho → WD D} {g : Rho → WD (List D)} (ha : DE O X E e f) (hr : DA O X E es g) (hs : starEach (e :: es) X.env = (false, eval e X.env) :: starEach es X.env := by rfl) : DA O X E (e :: es) (aCons f g) := by
  obtain ⟨ta, a1, a2⟩ := ha
  obtain ⟨tb, b1, b2⟩ := hr
  exact ⟨_, pa_cons a1 b1 hs, fun P ρ σ H Qd Ed Q hd hr hf hQ hE => a2 P ρ σ H _ Ed _ hd hr hf (fun x d H1 s1 h1 q1 => b2 P ρ σ H1 _ Ed _ (hd.same s1) (hr.same s1) q1 (fun xs ds H2 s2 h2 l2 q2 => hQ _ _ H2 (s1.trans s2) (.cons (h1.same s2) h2) (congrArg (· + 1) l2) q2) (hE.same s1)) hE⟩
def eTup (g : Rho → WD (List D)) : Rho → WD D := fun ρ Q Ed => g ρ (fun ds => ds.length ≤ 16777216 ∧ Q (.tuple ds)) Ed
def eLst (g : Rho → WD (List D)) : Rho → WD (List D) := fun ρ Q Ed => g ρ (fun ds => ds.length ≤ 16777216 ∧ Q ds) Ed
theorem de_tup {es : List Expr} {x1} {g : Rho → WD (List D)} {pos : Pos} (h : DA O X E es g) : DE O X E (.Tuple es x1 pos) (eTup g) := by
  obtain ⟨ta, a1, a2⟩ := h
  exact ⟨_, pe_tupF a1, fun P ρ σ H Qd Ed Q hd hr hf hQ hE => a2 P ρ σ H _ Ed _ hd hr hf (fun vs ds H1 s1 h1 _ q1 => ⟨by rw [h1.length]; exact size_eq ▸ q1.1, fun p o np no => hQ _ _ _ (s1.trans (same_new np)) (.tup (.inl ⟨o, no, upd_same⟩) (h1.same (same_new np))) q1.2⟩) hE⟩
theorem df_lst {es : List Expr} {g : Rho → WD (List D)} {pos : Pos} (h : DA O X E es g) : DF O X E (.List es pos) (eLst g) := by
  obtain ⟨ta, a1, a2⟩ := h
  refine ⟨_, pe_lst a1, fun P ρ σ H Qd Ed Q hd hr hf hQ hE => a2 P ρ σ H _ Ed _ hd hr hf (fun vs ds H1 s1 h1 _ q1 => ⟨by rw [h1.length]; exact size_eq ▸ q1.1, fun p np => ?_⟩) hE⟩
  exact hQ p vs ds _ (s1.trans (same_new np)) (s1.free np) upd_same (h1.fresh np (same_new np)) q1.2
end
end DL

namespace DL
open PySem PySem.Spec L2
section
variable {O : Ob} {X : Cx} {E : XK}
/-! ### x[i] -/
theorem atI_dv {K : PySem.W.Frag} {H : Hp} {P : Addr → Prop} {vs : List V} {ds : List D} {i : Int} {d : D} (h : DvAll O K H P vs ds) (e : atI ds i = some d) : ∃ v, atI vs i = some v ∧ Dv O K H P v d := by
  unfold atI at *
  rw [← h.length] at e
  cases q : ixN vs.length i with
  | none =>
    rw [q] at e
    cases e
  | some j =>
    rw [q] at e
    obtain ⟨v, e1, h1⟩ := h.get (i := j) e
    exact ⟨v, e1, h1⟩
def orStuck {α : Type} (o : Option α) (Q : α → Prop) : Prop := match o with
  | some a => Q a
  | none => False
theorem of_orStuck {α : Type} {o : Option α} {Q : α → Prop} (h : orStuck o Q) : ∃ a, o = some a ∧ Q a := by
  cases o with
  | none => exact h.elim
  | some a => exact ⟨a, rfl, h⟩
def idxD : D → D → WD D
  | .list xs, .int i => fun Q _ => orStuck (atI xs i) Q
  | .tuple xs, .int i => fun Q _ => orStuck (atI xs i) Q
  | .str x, .int i => fun Q _ => x.length ≤ 16777216 ∧ orStuck (atI x.cps.toList i) fun c => Q (.str ⟨#[c]⟩)
  | _, _ => fun _ _ => False
theorem strOk_mem {x : Str} {c : Nat} (h : PyData.strOk x = true) (hc : c ∈ x.cps.toList) : PyData.strOk ⟨#[c]⟩ = true := by
  unfold PyData.strOk at *
  rw [Array.all_eq_true] at h
  rw [Array.mem_toList_iff, Array.mem_iff_getElem] at hc
  obtain ⟨i, hi, e⟩ := hc
  have := h i hi
  rw [e] at this
  simpa using this
theorem atI_mem {α : Type} {xs : List α} {i : Int} {c : α} (e : atI xs i = some c) : c ∈ xs := by
  unfold atI at e
  cases q : ixN xs.length i with
  | none =>
    rw [q] at e
    cases e
  | some j =>
    rw [q] at e
    exact List.mem_of_getElem? e
theorem opd_idx : OpD O X (rIx X.K) idxD := fun P H x y d e Qd Ed Q hd hx hy hg hQ => by
  cases hx with
  | lst e1 n1 r1 =>
    cases hy with
    | int i =>
      obtain ⟨d, e2, q⟩ := of_orStuck hg
      obtain ⟨v, e3, h3⟩ := atI_dv r1 e2
      exact .inl ⟨_, _, i, v, rfl, rfl, .inl (.inl e1), e3, hQ.here h3 q⟩
    | _ => exact hg.elim
  | tup e1 r1 =>
    cases hy with
    | int i =>
      obtain ⟨d, e2, q⟩ := of_orStuck hg
      obtain ⟨v, e3, h3⟩ := atI_dv r1 e2
      exact .inr (.inl ⟨_, _, i, v, rfl, rfl, e1.sq, e3, hQ.here h3 q⟩)
    | _ => exact hg.elim
  | str x hx =>
    cases hy with
    | int i =>
      obtain ⟨c, e2, q⟩ := of_orStuck hg.2
      exact .inr (.inr ⟨x, i, c, rfl, rfl, size_eq ▸ hg.1, e2, hQ.here (.str _ (strOk_mem hx (atI_mem e2))) q⟩)
    | _ => exact hg.elim
  | _ => cases hy <;> exact hg.elim
theorem de_idx {a b : Expr} {fa fb : Rho → WD D} {pos : Pos} (ha : DE O X E a fa) (hb : DE O X E b fb) (hs : PlainIx b) : DE O X E (.Subscript a b pos) (eOp idxD fa fb) := by
  obtain ⟨ta, a1, a2⟩ := ha
  obtain ⟨tb, b1, b2⟩ := hb
  exact ⟨_, pe_ix ix_seq a1 b1 hs, op2 opd_idx a2 b2⟩
/-! ### x[a:b] -/
def DO (O : Ob) (X : Cx) (E : XK) (e : Option Expr) (f : Rho → WD (Option Int)) : Prop := ∃ t, PO X e t ∧ ∀ (P : Addr → Prop) (ρ : Rho) (σ : L2.St) (H : Hp) (Qd : Option Int → Prop) (Ed : Str → Prop) (Q : Option Int → Hp → Prop),
  Dom H P → Rs O X.K P ρ σ H → f ρ Qd Ed → (∀ o H', Same H H' → Qd o → Q o H') → XOk X E H Ed → t σ H Q
def oNone : Rho → WD (Option Int) := fun _ Q _ => Q none
def oSome (f : Rho → WD D) : Rho → WD (Option Int) := fun ρ Q Ed => f ρ (fun d => match d with
  | .int i => Q (some i)
  | _ => False) Ed
theorem do_none : DO O X E none oNone := ⟨_, po_none, fun P ρ σ H Qd Ed Q hd hr hf hQ hE => hQ _ H (Same.refl H) hf⟩
theorem do_some {a : Expr} {fa : Rho → WD D} (ha : DE O X E a fa) : DO O X E (some a) (oSome fa) := by
  obtain ⟨ta, a1, a2⟩ := ha
  refine ⟨_, po_some a1, fun P ρ σ H Qd Ed Q hd hr hf hQ hE => a2 P ρ σ H _ Ed _ hd hr hf (fun v d H1 s1 h q => ?_) hE⟩
  cases h with
  | int i => exact ⟨i, rfl, hQ _ H1 s1 q⟩
  | _ => exact q.elim
def cutL {α : Type} (xs : List α) (lo hi : Option Int) : List α := (xs.drop (HT.sIx xs.length 0 lo)).take (HT.sIx xs.length xs.length hi - HT.sIx xs.length 0 lo)
theorem cut_dv {K : PySem.W.Frag} {H : Hp} {P : Addr → Prop} {vs : List V} {ds : List D} {lo hi : Option Int} (h : DvAll O K H P vs ds) : DvAll O K H P (cutV vs lo hi) (cutL ds lo hi) := by
  unfold cutV cutL
  rw [h.length]
  exact (h.drop _).take _
def cutS (x : Str) (lo hi : Option Int) : Str := ⟨(cutL x.cps.toList lo hi).toArray⟩
def slD (d : D) (lo hi : Option Int) : WD D := match d with
  | .list xs => fun Q _ => Q (.list (cutL xs lo hi))
  | .tuple xs => fun Q _ => Q (.tuple (cutL xs lo hi))
  | _ => fun _ _ => False
def eSl (fa : Rho → WD D) (fl fh : Rho → WD (Option Int)) : Rho → WD D := fun ρ Q Ed => fa ρ (fun d => fl ρ (fun lo => fh ρ (fun hi => slD d lo hi Q Ed) Ed) Ed) Ed
theorem de_slice {a : Expr} {lo hi : Option Expr} {fa : Rho → WD D} {fl fh : Rho → WD (Option Int)} {p2 pos : Pos} (ha : DE O X E a fa) (hl : DO O X E lo fl) (hh : DO O X E hi fh) : DE O X E (.Subscript a (.Slice lo hi none p2) pos) (eSl fa fl fh) := by
  obtain ⟨ta, a1, a2⟩ := ha
  obtain ⟨tl, l1, l2⟩ := hl
  obtain ⟨th, h1, h2⟩ := hh
  refine ⟨_, pe_slice (SlR.or sl_list sl_tupF) a1 l1 h1, fun P ρ σ H Qd Ed Q hd hr hf hQ hE => a2 P ρ σ H _ Ed _ hd hr hf (fun v d H1 s1 k1 q1 => l2 P ρ σ H1 _ Ed _ (hd.same s1) (hr.same s1) q1 (fun lo H2 s2 q2 =>
    h2 P ρ σ H2 _ Ed _ ((hd.same s1).same s2) ((hr.same s1).same s2) q2 (fun hi H3 s3 q3 => ?_) ((hE.same s1).same s2)) (hE.same s1)) hE⟩
  have s13 : Same H H3 := (s1.trans s2).trans s3
  have k3 := (k1.same s2).same s3
  cases k3 with
  | lst e n r => exact .inl ⟨_, _, rfl, .inl (.inl e), fun p np => hQ _ _ _ (s13.trans (same_new np)) (.lst upd_same ((hd.same s13).new np) ((cut_dv r).same (same_new np))) q3⟩
  | tup e r =>
    refine .inr ⟨_, _, rfl, e.sq, fun z => ?_, fun z p o np no => hQ _ _ _ (s13.trans (same_new np)) (.tup (.inl ⟨o, no, upd_same⟩) ((cut_dv r).same (same_new np))) q3⟩
    rename_i xs ds
    refine hQ _ _ _ s13 (.tup e r) ?_
    have e2 : cutL ds lo hi = ds := by
      unfold cutL
      rw [r.length] at z
      rw [z.1, z.2, List.drop_zero, Nat.sub_zero, List.take_length]
    rw [← e2]
    exact q3
  | _ => exact q3.elim
/-! ### built-ins by name -/
/-- a call upon values, told by data -/
def CbD (O : Ob) (X : Cx) (r : List V → Hp → VK → Prop) (g : List D → WD D) : Prop := ∀ (P : Addr → Prop) (H : Hp) (xs : List V) (ds : List D) (Qd : D → Prop) (Ed : Str → Prop) (Q : VK), Dom H P → DvAll O X.K H P xs ds → g ds Qd Ed → VOk O X.K P H Qd Q → r xs H Q
def CbF (O : Ob) (X : Cx) (r : List V → Hp → VK → Prop) (g : List D → WD (List D)) : Prop := ∀ (P : Addr → Prop) (H : Hp) (xs : List V) (ds : List D) (Qd : List D → Prop) (Ed : Str → Prop) (Q : VK), Dom H P → DvAll O X.K H P xs ds → g ds Qd Ed →
  (∀ p vs es H', Same H H' → H p = none → H' p = some (.lst vs) → DvAll O X.K H' (fun a => P a ∨ a = p) vs es → Qd es → Q (.ref p) H') → r xs H Q
def eCb (g : List D → WD D) (fa : Rho → WD (List D)) : Rho → WD D := fun ρ Q Ed => fa ρ (fun ds => g ds Q Ed) Ed
def eCbF (g : List D → WD (List D)) (fa : Rho → WD (List D)) : Rho → WD (List D) := fun ρ Q Ed => fa ρ (fun ds => g ds Q Ed) Ed
variable {e : Expr} {es : List Expr} {fa : Rho → WD (List D)} {pos p : Pos}
theorem de_callB {id : String} {r : List V → Hp → VK → Prop} {g : List D → WD D} {x : Str} (hc : CallR X (.builtin id) r) (hg' : CbD O X r g) (hg : Gl X x) (hm : X.mg x = none) (hv : bootBuiltins x = some (.builtin id)) (ha : DA O X E (e :: es) fa) (hn : x ≠ "__name__" := by decide) (hdb : (x == ("__debug__" : Str)) = false := by decide)
    (he : starEach (e :: es) X.env = (false, eval e X.env) :: starEach es X.env := by rfl) (hpl : (backTo pos (starEach es X.env)).any (·.1) = false := by rfl) : DE O X E (.Call (.Name x p) (e :: es) [] pos) (eCb g fa) := by
  obtain ⟨ta, a1, a2⟩ := ha
  exact ⟨_, pe_callB hc hg hm hv a1 hn hdb he hpl, fun P ρ σ H Qd Ed Q hd hr hf hQ hE => a2 P ρ σ H _ Ed _ hd hr hf (fun vs ds H1 s1 h1 _ q1 => hg' P H1 vs ds Qd Ed Q (hd.same s1) h1 q1 fun v d H2 s2 h2 q2 => hQ v d H2 (s1.trans s2) h2 q2) hE⟩
theorem de_callTy {T : String} {r : List V → Hp → VK → Prop} {g : List D → WD D} {x : Str} (hc : CallR X (.type T) r) (hg' : CbD O X r g) (hg : Gl X x) (hm : X.mg x = none) (hv : bootBuiltins x = some (.type T)) (ha : DA O X E (e :: es) fa) (hn : x ≠ "__name__" := by decide) (hdb : (x == ("__debug__" : Str)) = false := by decide)
    (he : starEach (e :: es) X.env = (false, eval e X.env) :: starEach es X.env := by rfl) (hpl : (backTo pos (starEach es X.env)).any (·.1) = false := by rfl) : DE O X E (.Call (.Name x p) (e :: es) [] pos) (eCb g fa) := by
  obtain ⟨ta, a1, a2⟩ := ha
  exact ⟨_, pe_callTy hc hg hm hv a1 hn hdb he hpl, fun P ρ σ H Qd Ed Q hd hr hf hQ hE => a2 P ρ σ H _ Ed _ hd hr hf (fun vs ds H1 s1 h1 _ q1 => hg' P H1 vs ds Qd Ed Q (hd.same s1) h1 q1 fun v d H2 s2 h2 q2 => hQ v d H2 (s1.trans s2) h2 q2) hE⟩
theorem df_callB {id : String} {r : List V → Hp → VK → Prop} {g : List D → WD (List D)} {x : Str} (hc : CallR X (.builtin id) r) (hg' : CbF O X r g) (hg : Gl X x) (hm : X.mg x = none) (hv : bootBuiltins x = some (.builtin id)) (ha : DA O X E (e :: es) fa) (hn : x ≠ "__name__" := by decide) (hdb : (x == ("__debug__" : Str)) = false := by decide)
    (he : starEach (e :: es) X.env = (false, eval e X.env) :: starEach es X.env := by rfl) (hpl : (backTo pos (starEach es X.env)).any (·.1) = false := by rfl) : DF O X E (.Call (.Name x p) (e :: es) [] pos) (eCbF g fa) := by
  obtain ⟨ta, a1, a2⟩ := ha
  exact ⟨_, pe_callB hc hg hm hv a1 hn hdb he hpl, fun P ρ σ H Qd Ed Q hd hr hf hQ hE => a2 P ρ σ H _ Ed _ hd hr hf (fun vs ds H1 s1 h1 _ q1 => hg' P H1 vs ds Qd Ed Q (hd.same s1) h1 q1 fun p vs es H2 s2 n2 e2 h2 q2 => hQ p vs es H2 (s1.trans s2) (s1.free n2) e2 h2 q2) hE⟩
theorem df_callTy {T : String} {r : List V → Hp → VK → Prop} {g : List D → WD (List D)} {x : Str} (hc : CallR X (.type T) r) (hg' : CbF O X r g) (hg : Gl X x) (hm : X.mg x = none) (hv : bootBuiltins x = some (.type T)) (ha : DA O X E (e :: es) fa) (hn : x ≠ "__name__" := by decide) (hdb : (x == ("__debug__" : Str)) = false := by decide)
    (he : starEach (e :: es) X.env = (false, eval e X.env) :: starEach es X.env := by rfl) (hpl : (backTo pos (starEach es X.env)).any (·.1) = false := by rfl) : DF O X E (.Call (.Name x p) (e :: es) [] pos) (eCbF g fa) := by
  obtain ⟨ta, a1, a2⟩ := ha
  exact ⟨_, pe_callTy hc hg hm hv a1 hn hdb he hpl, fun P ρ σ H Qd Ed Q hd hr hf hQ hE => a2 P ρ σ H _ Ed _ hd hr hf (fun vs ds H1 s1 h1 _ q1 => hg' P H1 vs ds Qd Ed Q (hd.same s1) h1 q1 fun p vs es H2 s2 n2 e2 h2 q2 => hQ p vs es H2 (s1.trans s2) (s1.free n2) e2 h2 q2) hE⟩
/-- one argument -/
def one1 (g : D → WD D) : List D → WD D
  | [d] => g d
  | _ => fun _ _ => False
def one1F (g : D → WD (List D)) : List D → WD (List D)
  | [d] => g d
  | _ => fun _ _ => False
def lenD : D → WD D
  | .list xs => fun Q _ => Q (.int xs.length)
  | .tuple xs => fun Q _ => Q (.int xs.length)
  | .str x => fun Q _ => x.length ≤ 16777216 ∧ Q (.int x.length)
  | _ => fun _ _ => False
theorem cbd_len : CbD O X (fun xs H Q => ∃ x n, xs = [x] ∧ LenV X.K x H n ∧ Q (.int n) H) (one1 lenD) := fun P H xs ds Qd Ed Q hd hx hg hQ => by
  cases hx with
  | nil => exact hg.elim
  | cons h r =>
    cases r with
    | cons _ _ => exact hg.elim
    | nil =>
      cases h with
      | lst e n r => exact ⟨_, _, rfl, .inl ⟨_, .inl (.inl e), rfl⟩, hQ.here (.int _) (by rw [r.length]; exact hg)⟩
      | tup e r => exact ⟨_, _, rfl, .inr ⟨_, e.sq, rfl⟩, hQ.here (.int _) (by rw [r.length]; exact hg)⟩
      | str x hx => exact ⟨_, _, rfl, ⟨size_eq ▸ hg.1, rfl⟩, hQ.here (.int _) hg.2⟩
      | _ => exact hg.elim
def tupleD : D → WD D
  | .list xs => fun Q _ => Q (.tuple xs)
  | .tuple xs => fun Q _ => Q (.tuple xs)
  | _ => fun _ _ => False
theorem cbd_tuple : CbD O X (fun xs H Q => ∃ p ys, xs = [.ref p] ∧ ((SqL X.K H p ys ∧ NewT ys H Q) ∨ (SqT X.K H p ys ∧ Q (.ref p) H))) (one1 tupleD) := fun P H xs ds Qd Ed Q hd hx hg hQ => by
  cases hx with
  | nil => exact hg.elim
  | cons h r =>
    cases r with
    | cons _ _ => exact hg.elim
    | nil =>
      cases h with
      | lst e n r => exact ⟨_, _, rfl, .inl ⟨.inl (.inl e), hQ.new r hg⟩⟩
      | tup e r => exact ⟨_, _, rfl, .inr ⟨e.sq, hQ.here (.tup e r) hg⟩⟩
      | _ => exact hg.elim
def listD : D → WD (List D)
  | .list xs => fun Q _ => Q xs
  | .tuple xs => fun Q _ => Q xs
  | _ => fun _ _ => False
theorem cbf_list : CbF O X (fun xs H Q => ∃ p ys, xs = [.ref p] ∧ (SqL X.K H p ys ∨ SqT X.K H p ys) ∧ ∀ l, H l = none → Q (.ref l) (upd H l (.lst ys))) (one1F listD) := fun P H xs ds Qd Ed Q hd hx hg hQ => by
  cases hx with
  | nil => exact hg.elim
  | cons h r =>
    cases r with
    | cons _ _ => exact hg.elim
    | nil =>
      cases h with
      | lst e n r => exact ⟨_, _, rfl, .inl (.inl (.inl e)), fun l nl => hQ _ _ _ _ (same_new nl) nl upd_same (r.fresh nl (same_new nl)) hg⟩
      | tup e r => exact ⟨_, _, rfl, .inr e.sq, fun l nl => hQ _ _ _ _ (same_new nl) nl upd_same (r.fresh nl (same_new nl)) hg⟩
      | _ => exact hg.elim
/-- all, any of bools -/
def boolsD : List D → Option (List Bool)
  | [] => some []
  | .bool b :: r => (boolsD r).map (b :: ·)
  | _ => none
theorem bools_dv {K : PySem.W.Frag} {H : Hp} {P : Addr → Prop} : ∀ {ds : List D} {vs : List V} {bs : List Bool}, DvAll O K H P vs ds → boolsD ds = some bs → vs = bs.map V.bl
  | [], _, _, .nil, e => by
    cases e
    rfl
  | d :: ds, _, _, .cons h r, e => by
    cases h with
    | bl b =>
      unfold boolsD at e
      cases q : boolsD ds with
      | none =>
        rw [q] at e
        cases e
      | some cs =>
        rw [q] at e
        cases e
        rw [bools_dv r q]
        rfl
    | _ => cases e
def allD : D → WD D
  | .list xs => fun Q _ => orStuck (boolsD xs) fun bs => Q (.bool (bs.all id))
  | _ => fun _ _ => False
def anyD : D → WD D
  | .list xs => fun Q _ => orStuck (boolsD xs) fun bs => Q (.bool (bs.any id))
  | _ => fun _ _ => False
theorem cbd_all : CbD O X (rAll X.K) (one1 allD) := fun P H xs ds Qd Ed Q hd hx hg hQ => by
  cases hx with
  | nil => exact hg.elim
  | cons h r =>
    cases r with
    | cons _ _ => exact hg.elim
    | nil =>
      cases h with
      | lst e n r =>
        obtain ⟨bs, e2, q⟩ := of_orStuck hg
        have := bools_dv r e2
        subst this
        exact ⟨_, bs, rfl, .inl (.inl e), hQ.here (.bl _) q⟩
      | _ => exact hg.elim
theorem cbd_any : CbD O X (rAny X.K) (one1 anyD) := fun P H xs ds Qd Ed Q hd hx hg hQ => by
  cases hx with
  | nil => exact hg.elim
  | cons h r =>
    cases r with
    | cons _ _ => exact hg.elim
    | nil =>
      cases h with
      | lst e n r =>
        obtain ⟨bs, e2, q⟩ := of_orStuck hg
        have := bools_dv r e2
        subst this
        exact ⟨_, bs, rfl, .inl (.inl e), hQ.here (.bl _) q⟩
      | _ => exact hg.elim
/-- isinstance(x, T), T a built-in class -/
def tyD : D → Option String
  | .none => some "NoneType"
  | .bool _ => some "bool"
  | .int _ => some "int"
  | .str _ => some "str"
  | .list _ => some "list"
  | .tuple _ => some "tuple"
  | .dict _ => none
theorem sqT_ty {K : PySem.W.Frag} {H : Hp} {a : Addr} {xs : List V} (h : SqT K H a xs) : TyX K H (.ref a) (.type "tuple") := by
  rcases h with (h | ⟨o, h⟩) | ⟨o, its, n, h1, h2, _⟩
  · exact .base (.tup h)
  · exact .fTuple h
  · exact .kTuple h1 h2
theorem tyD_ok {K : PySem.W.Frag} {H : Hp} {P : Addr → Prop} {v : V} {d : D} {T : String} (h : Dv O K H P v d) (e : tyD d = some T) : TyX K H v (.type T) := by
  cases h with
  | non => cases e; exact .base .non
  | bl b => cases e; exact .base (.bl b)
  | int i => cases e; exact .base (.int i)
  | str x _ => cases e; exact .base (.str x)
  | lst h _ _ => cases e; exact .base (.lst h)
  | tup h _ => cases e; exact sqT_ty h.sq
  | dct _ _ _ _ => cases e
  | dcz _ _ _ => cases e
  | obj _ => cases e
def isiD (T : String) (d : D) : WD D := fun Q _ => orStuck ((tyD d).bind fun t => kitB t T) fun b => Q (.bool b)
def eUn1 (g : D → WD D) (fa : Rho → WD D) : Rho → WD D := fun ρ Q Ed => fa ρ (fun d => g d Q Ed) Ed
theorem de_isi {x T : Str} {n : String} {e : Expr} {fa : Rho → WD D} {p1 p2 pos : Pos} (ha : DE O X E e fa) (hg : Gl X "isinstance") (hm : X.mg "isinstance" = none) (hg2 : Gl X T) (hm2 : X.mg T = none) (hv2 : bootBuiltins T = some (.type n)) (hn2 : T ≠ "__name__" := by decide) (hd2 : (T == ("__debug__" : Str)) = false := by decide)
    (hv : bootBuiltins "isinstance" = some (.builtin "isinstance") := by decide +kernel)
    (hs : starEach [e, .Name T p2] X.env = (false, eval e X.env) :: starEach [.Name T p2] X.env := by rfl) (hs2 : starEach [.Name T p2] X.env = (false, eval (.Name T p2) X.env) :: starEach [] X.env := by rfl)
    (hpl : (backTo pos (starEach [.Name T p2] X.env)).any (·.1) = false := by rfl) :
    DE O X E (.Call (.Name "isinstance" p1) [e, .Name T p2] [] pos) (eUn1 (isiD n) fa) := by
  obtain ⟨ta, a1, a2⟩ := ha
  have hT : PE X (.Name T p2) (tC (.ty n)) := pe_bltn hg2 hm2 hv2 rfl hn2 hd2
  refine ⟨_, pe_callB call_isi hg hm hv (pa_cons a1 (pa_cons hT pa_nil hs2) hs) (by decide) (by decide) hs hpl, fun P ρ σ H Qd Ed Q hd hr hf hQ hE => a2 P ρ σ H _ Ed _ hd hr hf (fun v d H1 s1 h1 q1 => ?_) hE⟩
  obtain ⟨b, e1, q⟩ := of_orStuck q1
  cases q2 : tyD d with
  | none =>
    rw [q2] at e1
    cases e1
  | some t =>
    rw [q2] at e1
    exact ⟨v, .ty n, .type t, .type n, b, rfl, .ty n, tyD_ok h1 q2, kit_ty e1, hQ _ _ H1 s1 (.bl _) q⟩
/-! ### a def of the program -/
/-- the promise of a def, told by data -/
def spD (O : Ob) (K : PySem.W.Frag) (mg : Str → Option Value) (F : List D → WD D) (n : Nat) : Sp := fun vs H Q E' => ∃ (P : Addr → Prop) (ds : List D) (Qd : D → Prop) (Ed : Str → Prop), Dom H P ∧ DvAll O K H P vs ds ∧ ds.length = n ∧ F ds Qd Ed ∧ VOk O K P H Qd Q ∧
  ∀ c a H', Same H H' → mg c = some (.ref a) → Ed c → E' (.ref a) none H'
theorem de_call {CX : CXT} {k : Nat} {f : Addr} {fd : FuncData} {ps : List Str} {F : List D → WD D} {n : Nat} {x : Str} (G : FnOk X.prog X.w X.K X.mg X.base CX k f fd ps (spD O X.K X.mg F n)) (hr : Room k X.A) (hg : Gl X x) (hm : X.mg x = some (.ref f)) (hk : PySem.W.keepIn X.K (.ref f) = true) (hb : Binds X.K fd ps [])
    (hx : Passes CX X E) (ha : DA O X E (e :: es) fa) (hl : n = (e :: es).length := by rfl) (hdb : (x == ("__debug__" : Str)) = false := by decide) (he : starEach (e :: es) X.env = (false, eval e X.env) :: starEach es X.env := by rfl) (hpl : (backTo pos (starEach es X.env)).any (·.1) = false := by rfl) :
    DE O X E (.Call (.Name x p) (e :: es) [] pos) (eCb F fa) := by
  obtain ⟨ta, a1, a2⟩ := ha
  refine ⟨_, pe_call G hr hg hm hk hb (.nil : Vals [] []) hx a1 hdb he hpl, fun P ρ σ H Qd Ed Q hd hr hf hQ hE => a2 P ρ σ H _ Ed _ hd hr hf (fun vs ds H1 s1 h1 l1 q1 => ?_) hE⟩
  show spD O X.K X.mg F n (vs ++ []) H1 Q E
  rw [List.append_nil]
  exact ⟨P, ds, Qd, Ed, hd.same s1, h1, l1.trans hl.symm, q1, fun v d H2 s2 h2 q2 => hQ v d H2 (s1.trans s2) h2 q2, fun c a H2 s2 m z => hE c a H2 (s1.trans s2) m z⟩
end
end DL

namespace DL
open PySem PySem.Spec L2
/-! ### targets -/
inductive Tg where
  | name (i : Nat)
  | tup (ts : List Tg)
mutual
def bindT : Tg → D → Option (List (Nat × D))
  | .name i, d => some [(i, d)]
  | .tup ts, .tuple ds => bindAll ts ds
  | _, _ => none
def bindAll : List Tg → List D → Option (List (Nat × D))
  | [], [] => some []
  | t :: ts, d :: ds => match bindT t d, bindAll ts ds with
    | some a, some b => some (a ++ b)
    | _, _ => none
  | _, _ => none
end
def setAll {α : Type} (l : List (Option α)) : List (Nat × α) → List (Option α)
  | [] => l
  | (i, a) :: r => setAll (l.set i (some a)) r
theorem setAll_append {α : Type} : ∀ (a b : List (Nat × α)) (l : List (Option α)), setAll l (a ++ b) = setAll (setAll l a) b
  | [], _, _ => rfl
  | (i, x) :: r, b, l => setAll_append r b (l.set i (some x))
theorem setAll_length {α : Type} : ∀ (a : List (Nat × α)) (l : List (Option α)), (setAll l a).length = l.length
  | [], _ => rfl
  | (i, x) :: r, l => by
    show (setAll (l.set i (some x)) r).length = l.length
    rw [setAll_length r, List.length_set]
/-- the same slots, values for data -/
inductive Bnd (O : Ob) (K : PySem.W.Frag) (H : Hp) (P : Addr → Prop) : List (Nat × V) → List (Nat × D) → Prop
  | nil : Bnd O K H P [] []
  | cons {i : Nat} {v : V} {d : D} {a : List (Nat × V)} {b : List (Nat × D)} : Dv O K H P v d → Bnd O K H P a b → Bnd O K H P ((i, v) :: a) ((i, d) :: b)
section
variable {O : Ob} {X : Cx} {E : XK}
theorem Bnd.append {K : PySem.W.Frag} {H : Hp} {P : Addr → Prop} : ∀ {a a' : List (Nat × V)} {b b' : List (Nat × D)}, Bnd O K H P a b → Bnd O K H P a' b' → Bnd O K H P (a ++ a') (b ++ b')
  | _, _, _, _, .nil, h => h
  | _, _, _, _, .cons h r, k => .cons h (r.append k)
theorem Bnd.keys {K : PySem.W.Frag} {H : Hp} {P : Addr → Prop} : ∀ {a : List (Nat × V)} {b : List (Nat × D)}, Bnd O K H P a b → a.map (·.1) = b.map (·.1)
  | _, _, .nil => rfl
  | _, _, .cons _ r => by rw [List.map_cons, List.map_cons, r.keys]
theorem Rs.set {K : PySem.W.Frag} {P : Addr → Prop} {ρ : Rho} {σ : L2.St} {H : Hp} {i : Nat} {v : V} {d : D} (h : Rs O K P ρ σ H) (hv : Dv O K H P v d) : Rs O K P (ρ.set i (some d)) (σ.set i (some v)) H := ⟨by rw [List.length_set, List.length_set, h.len], fun j d' e => by
  have hl := h.len
  by_cases hj : i = j
  · subst hj
    have hlt : i < ρ.length := by
      have := (List.getElem?_eq_some_iff.mp e).1
      rw [List.length_set] at this
      exact this
    rw [List.getElem?_set_self hlt] at e
    cases e
    exact ⟨v, by rw [List.getElem?_set_self (by omega)], hv⟩
  · rw [List.getElem?_set_ne hj] at e
    obtain ⟨w, e1, h1⟩ := h.get j d' e
    exact ⟨w, by rw [List.getElem?_set_ne hj]; exact e1, h1⟩⟩
theorem Rs.many {K : PySem.W.Frag} {P : Addr → Prop} {H : Hp} : ∀ {a : List (Nat × V)} {b : List (Nat × D)} {ρ : Rho} {σ : L2.St}, Bnd O K H P a b → Rs O K P ρ σ H → Rs O K P (setAll ρ b) (setAll σ a) H
  | _, _, _, _, .nil, h => h
  | (i, v) :: a, (_, d) :: b, ρ, σ, .cons hv r, h => by
    have := Rs.many (ρ := ρ.set i (some d)) (σ := σ.set i (some v)) r (h.set hv)
    exact this
/-- a target -/
def DG (O : Ob) (X : Cx) (tg : Expr) (T : Tg) : Prop := ∃ g, PG X tg g ∧ ∀ (P : Addr → Prop) (σ : L2.St) (H : Hp) (v : V) (d : D) (l : List (Nat × D)) (Q : L2.St → Hp → Prop), Dv O X.K H P v d → bindT T d = some l → (∀ a, Bnd O X.K H P a l → Q (setAll σ a) H) → g v σ H Q
def DGs (O : Ob) (X : Cx) (ts : List Expr) (T : List Tg) : Prop := ts.length = T.length ∧ ∃ g, PGs X ts g ∧ ∀ (P : Addr → Prop) (σ : L2.St) (H : Hp) (vs : List V) (ds : List D) (l : List (Nat × D)) (Q : L2.St → Hp → Prop), DvAll O X.K H P vs ds → bindAll T ds = some l → (∀ a, Bnd O X.K H P a l → Q (setAll σ a) H) → g vs σ H Q
theorem dg_name (i : Nat) {x : Str} {pos : Pos} (hN : X.N.Nodup) (hi : X.N[i]? = some x := by rfl) (hx : Loc X.env.scope x := by first | exact Or.inl rfl | exact Or.inr rfl) (hf : X.fn x = true ∨ X.env.scope.names.lookup x = some .local := by first | exact .inl rfl | exact .inr rfl | assumption) : DG O X (.Name x pos) (.name i) :=
  ⟨_, pg_name hN hi hx hf, fun P σ H v d l Q hv e hQ => by
    cases e
    exact hQ [(i, v)] (.cons hv .nil)⟩
theorem dgs_nil : DGs O X [] [] := ⟨rfl, _, pgs_nil, fun P σ H vs ds l Q hv e hQ => by
  cases hv with
  | nil =>
    cases e
    exact ⟨rfl, hQ [] .nil⟩
  | cons _ _ => cases e⟩
theorem dgs_cons {e : Expr} {es : List Expr} {t : Tg} {ts : List Tg} (h1 : DG O X e t) (h2 : DGs O X es ts) (hs : (assignEach (e :: es) X.env).map (·.2) = assign e X.env :: (assignEach es X.env).map (·.2) := by rfl) : DGs O X (e :: es) (t :: ts) := by
  obtain ⟨g, a1, a2⟩ := h1
  obtain ⟨hl, g', b1, b2⟩ := h2
  refine ⟨congrArg (· + 1) hl, _, pgs_cons a1 b1 hs, fun P σ H vs ds l Q hv e hQ => ?_⟩
  cases hv with
  | nil => cases e
  | cons hv r =>
    rename_i v vs d ds
    unfold bindAll at e
    cases q1 : bindT t d with
    | none =>
      rw [q1] at e
      cases e
    | some la =>
      cases q2 : bindAll ts ds with
      | none =>
        rw [q1, q2] at e
        cases e
      | some lb =>
        rw [q1, q2] at e
        cases e
        refine ⟨v, vs, rfl, a2 P σ H v d la _ hv q1 fun a ha => b2 P _ H vs ds lb _ r q2 fun b hb => ?_⟩
        rw [← setAll_append]
        exact hQ _ (ha.append hb)
theorem bindAll_len : ∀ {ts : List Tg} {ds : List D} {l : List (Nat × D)}, bindAll ts ds = some l → ts.length = ds.length
  | [], [], _, _ => rfl
  | [], _ :: _, _, e => by simp [bindAll] at e
  | _ :: _, [], _, e => by simp [bindAll] at e
  | t :: ts, d :: ds, l, e => by
    unfold bindAll at e
    cases q1 : bindT t d with
    | none =>
      rw [q1] at e
      cases e
    | some la =>
      cases q2 : bindAll ts ds with
      | none =>
        rw [q1, q2] at e
        cases e
      | some lb => exact congrArg (· + 1) (bindAll_len q2)
theorem dg_tup {es : List Expr} {k : Nat} {ts : List Tg} {pos : Pos} (hc : X.calm = true) (h : DGs O X es ts) (hn : (assignEach es X.env).length = es.length := by rfl) (hst : (assignEach es X.env).findIdx? (·.1) = none := by rfl) : DG O X (.Tuple es k pos) (.tup ts) := by
  obtain ⟨hl, g, a1, a2⟩ := h
  refine ⟨_, pg_tup hc a1 hn hst, fun P σ H v d l Q hv e hQ => ?_⟩
  cases hv with
  | tup e1 r =>
    rename_i xs ds
    have e' : bindAll ts ds = some l := by simpa [bindT] using e
    exact ⟨_, _, rfl, e1.sq, by rw [r.length, ← bindAll_len e', hl], a2 P σ H _ _ l Q r e' hQ⟩
  | _ => simp [bindT, dictE, dictZ] at e
theorem DG.pg {tg : Expr} {T : Tg} (h : DG O X tg T) : PG X tg (fun v σ H Q => ∃ (P : Addr → Prop) (d : D) (l : List (Nat × D)), Dv O X.K H P v d ∧ bindT T d = some l ∧ ∀ a, Bnd O X.K H P a l → Q (setAll σ a) H) := by
  obtain ⟨g, h1, h2⟩ := h
  exact ⟨fun pins s σ H v u Q I r ⟨P, d, l, a, b, c⟩ => h1.run pins s σ H v u Q I r (h2 P σ H v d l Q a b c)⟩
/-! ### what a loop walks -/
/-- what stands outside P stands -/
def Kf (P : Addr → Prop) (H H' : Hp) : Prop := ∀ a o, H a = some o → ¬ P a → H' a = some o
theorem Kf.refl {P : Addr → Prop} (H : Hp) : Kf P H H := fun _ _ e _ => e
theorem Kf.of {P : Addr → Prop} {H H' : Hp} (s : Same H H') : Kf P H H' := fun a o e _ => s a o e
theorem Kf.trans {P : Addr → Prop} {H H1 H2 : Hp} (a : Kf P H H1) (b : Kf P H1 H2) : Kf P H H2 := fun x o e n => b x o (a x o e n) n
theorem out_of {H : Hp} {P P' : Addr → Prop} (hp : ∀ a, P' a → P a ∨ H a = none) {a : Addr} {o : HO} (e : H a = some o) (n : ¬ P a) : ¬ P' a := fun z => by
  rcases hp a z with z | z
  · exact n z
  · rw [e] at z
    cases z
theorem Nl.kf {H H' : Hp} {P P' : Addr → Prop} (hp : ∀ a, P' a → P a ∨ H a = none) (k : Kf P' H H') (np : Dom H P) : Nl H H' := fun a o e m => k a o e (out_of hp e fun z => m (np.mb e z))
theorem Dv.kf {K : PySem.W.Frag} {H H' : Hp} {P P' : Addr → Prop} {v : V} {d : D} (h : Dv O K H P v d) (hp : ∀ a, P' a → P a ∨ H a = none) (k : Kf P' H H') (np : Dom H P) : Dv O K H' P' v d :=
  h.keep (.kf hp k np) (fun a o e _ n => k a o e (out_of hp e n)) fun a o e n => out_of hp e n
theorem DvAll.kf {K : PySem.W.Frag} {H H' : Hp} {P P' : Addr → Prop} {v : List V} {d : List D} (h : DvAll O K H P v d) (hp : ∀ a, P' a → P a ∨ H a = none) (k : Kf P' H H') (np : Dom H P) : DvAll O K H' P' v d :=
  h.keep (.kf hp k np) (fun a o e _ n => k a o e (out_of hp e n)) fun a o e n => out_of hp e n
theorem Rs.kf {K : PySem.W.Frag} {H H' : Hp} {P P' : Addr → Prop} {ρ : Rho} {σ : L2.St} (h : Rs O K P ρ σ H) (hp : ∀ a, P' a → P a ∨ H a = none) (k : Kf P' H H') (np : Dom H P) : Rs O K P' ρ σ H' := ⟨h.len, fun i d e =>
  let ⟨v, e1, h1⟩ := h.get i d e
  ⟨v, e1, h1.kf hp k np⟩⟩
structure Drv (O : Ob) (K : PySem.W.Frag) (P : Addr → Prop) (J : It) (xs : List D) (H : Hp) : Prop where
  go : ∀ i, i < xs.length → J.go i H
  yld : ∀ i x H' d, J.yld i H x H' → xs[i]? = some d → Same H H' ∧ Dv O K H' P x d
  stop : ∀ i, xs.length ≤ i → J.stop i H
/-- .. whatever else comes -/
def DrvA (O : Ob) (K : PySem.W.Frag) (P : Addr → Prop) (J : It) (xs : List D) (H : Hp) : Prop := ∀ (P' : Addr → Prop) H', (∀ a, P a → P' a) → (∀ a, P' a → P a ∨ H a = none) → Kf P' H H' → Drv O K P' J xs H'
def DI (O : Ob) (X : Cx) (E : XK) (tg iter : Expr) (f : Rho → WD (List D)) : Prop := ∃ wi, PI X tg iter wi ∧ ∀ (P : Addr → Prop) (ρ : Rho) (σ : L2.St) (H : Hp) (Qd : List D → Prop) (Ed : Str → Prop) (R : It → Hp → Prop),
  Dom H P → Rs O X.K P ρ σ H → f ρ Qd Ed → (∀ J xs H', Same H H' → DrvA O X.K P J xs H' → Qd xs → R J H') → XOk X E H Ed → wi σ H R
/-- a list or a tuple -/
def iSeq (K : PySem.W.Frag) (tl : TE) : TI := fun σ H R => tl σ H fun x H1 => ∃ a, x = .ref a ∧ (((∃ xs, SqL K H1 a xs) ∧ R (Itl K a) H1) ∨ ((∃ xs, SqT K H1 a xs) ∧ R (Itt K a) H1))
theorem pi_seq {tg l : Expr} {tl : TE} (hl : PE X l tl) : PI X tg l (iSeq X.K tl) := by
  refine ⟨fun pins s σ H R I h => ?_⟩
  refine thn (hl.run pins s σ H _ I h) fun v s1 ⟨x, H1, I1, r1, q1⟩ => ?_
  obtain ⟨a, e, q1⟩ := q1
  subst e
  cases r1
  rcases q1 with ⟨⟨xs, hq⟩, q⟩ | ⟨⟨xs, hq⟩, q⟩
  · obtain ⟨its, rv, p, hz⟩ := I1.list hq
    refine wpAny_pyIter_list p.isList ?_
    refine ⟨s1.heap.objs.size, [s1.heap.objs.size], _, _, H1, rfl, I1.kept (t' := s1.toks) fun b o e => Heap.get?_push_of_some _ e, turn_list a _, ⟨_, Heap.get?_push_size _ rfl, rfl, rfl⟩, fun b hb => ?_, q⟩
    have e : b = s1.heap.objs.size := by simpa using hb
    subst e
    exact I1.fpOk (Nat.le_refl _) (I1.hok.fresh (Nat.le_refl _))
  · obtain ⟨its, rv, p, hz⟩ := I1.tuple hq
    refine wpAny_pyIter_tuple (show s1.heap.IsTuple a its.toArray from p) ?_
    refine ⟨s1.heap.objs.size, [s1.heap.objs.size], _, _, H1, rfl, I1.kept (t' := s1.toks) fun b o e => Heap.get?_push_of_some _ e, turn_tuple a _, ⟨_, Heap.get?_push_size _ rfl, rfl, rfl⟩, fun b hb => ?_, q⟩
    have e : b = s1.heap.objs.size := by simpa using hb
    subst e
    exact I1.fpOk (Nat.le_refl _) (I1.hok.fresh (Nat.le_refl _))
def itemsD : D → WD (List D)
  | .list xs => fun Q _ => Q xs
  | .tuple xs => fun Q _ => Q xs
  | _ => fun _ _ => False
def sItems (f : Rho → WD D) : Rho → WD (List D) := fun ρ Q Ed => f ρ (fun d => itemsD d Q Ed) Ed
theorem get_lt {α : Type} {l : List α} {i : Nat} (h : i < l.length) : ∃ x, l[i]? = some x := ⟨l[i], List.getElem?_eq_getElem h⟩
theorem di_seq {tg a : Expr} {fa : Rho → WD D} (ha : DE O X E a fa) : DI O X E tg a (sItems fa) := by
  obtain ⟨ta, a1, a2⟩ := ha
  refine ⟨_, pi_seq a1, fun P ρ σ H Qd Ed R hd hr hf hQ hE => a2 P ρ σ H _ Ed _ hd hr hf (fun v d H1 s1 h q => ?_) hE⟩
  have hm1 := hd.same s1
  cases h with
  | lst e n r =>
    refine ⟨_, rfl, .inl ⟨⟨_, .inl (.inl e)⟩, hQ _ _ H1 s1 (fun P2 H2 pp hp k2 => ?_) q⟩⟩
    rename_i xs ds
    have e2 := k2 _ _ e (out_of hp e n)
    have sq : SqL X.K H2 _ xs := .inl (.inl e2)
    refine ⟨fun i hi => ?_, fun i x H' d y e3 => ?_, fun i hi => ⟨xs, sq, by rw [r.length]; exact hi⟩⟩
    · obtain ⟨x, ex⟩ := get_lt (show i < xs.length by rw [r.length]; exact hi)
      exact ⟨xs, x, sq, ex⟩
    · obtain ⟨rfl, y⟩ := y
      obtain ⟨v, ev, hv⟩ := r.get e3
      have := y xs sq
      rw [ev] at this
      cases this
      exact ⟨Same.refl _, hv.kf hp k2 hm1⟩
  | tup e r =>
    refine ⟨_, rfl, .inr ⟨⟨_, e.sq⟩, hQ _ _ H1 s1 (fun P2 H2 pp hp k2 => ?_) q⟩⟩
    rename_i xs ds
    have n2 : Nl H1 H2 := .kf hp k2 hm1
    have sq : SqT X.K H2 _ xs := (n2.tup e).sq
    refine ⟨fun i hi => ?_, fun i x H' d y e3 => ?_, fun i hi => ⟨xs, sq, by rw [r.length]; exact hi⟩⟩
    · obtain ⟨x, ex⟩ := get_lt (show i < xs.length by rw [r.length]; exact hi)
      exact ⟨xs, x, sq, ex⟩
    · obtain ⟨rfl, y⟩ := y
      obtain ⟨v, ev, hv⟩ := r.get e3
      have := y xs sq
      rw [ev] at this
      cases this
      exact ⟨Same.refl _, hv.kf hp k2 hm1⟩
  | _ => exact q.elim
def upTo (lo : Int) (n : Nat) : List D := (List.range n).map fun i => .int (lo + (i : Nat))
theorem upTo_len (lo : Int) (n : Nat) : (upTo lo n).length = n := by simp [upTo]
theorem upTo_get {lo : Int} {n i : Nat} {d : D} (e : (upTo lo n)[i]? = some d) : d = .int (lo + (i : Nat)) := by
  unfold upTo at e
  rw [List.getElem?_map] at e
  cases q : (List.range n)[i]? with
  | none =>
    rw [q] at e
    cases e
  | some j =>
    rw [q] at e
    cases e
    rw [List.getElem?_eq_some_iff] at q
    obtain ⟨h1, h2⟩ := q
    rw [List.getElem_range] at h2
    rw [h2]
theorem drv_rng {K : PySem.W.Frag} {P : Addr → Prop} {H : Hp} (lo : Int) (n : Nat) : DrvA O K P (Itr lo n) (upTo lo n) H := fun P2 H2 _ _ _ =>
  ⟨fun i hi => by rw [upTo_len] at hi; exact hi, fun i x H' d y e => by
    obtain ⟨rfl, rfl⟩ := y
    rw [upTo_get e]
    exact ⟨Same.refl _, .int _⟩, fun i hi => by rw [upTo_len] at hi; exact hi⟩
def rng1 : List D → WD (List D)
  | [.int n] => fun Q _ => n < 2 ^ 62 ∧ -(2 ^ 62) ≤ n ∧ Q (upTo 0 n.toNat)
  | _ => fun _ _ => False
def rng2 : List D → WD (List D)
  | [.int a, .int b] => fun Q _ => (-(2 ^ 62) ≤ a ∧ a < 2 ^ 62 ∧ -(2 ^ 62) ≤ b ∧ b < 2 ^ 62) ∧ Q (upTo a (b - a).toNat)
  | _ => fun _ _ => False
theorem di_range1 {tg a : Expr} {fa : Rho → WD (List D)} {p pos : Pos} (hg : Gl X "range") (hm : X.mg "range" = none) (ha : DA O X E [a] fa) (hs : starEach [a] X.env = [(false, eval a X.env)] := by rfl) : DI O X E tg (.Call (.Name "range" p) [a] [] pos) (eCbF rng1 fa) := by
  obtain ⟨ta, a1, a2⟩ := ha
  refine ⟨_, pi_range1 hg hm a1 hs, fun P ρ σ H Qd Ed R hd hr hf hQ hE => a2 P ρ σ H _ Ed _ hd hr hf (fun vs ds H1 s1 h _ q => ?_) hE⟩
  cases h with
  | nil => exact q.elim
  | cons h r =>
    cases r with
    | cons _ _ => cases h <;> exact q.elim
    | nil =>
      cases h with
      | int n => exact ⟨n, rfl, q.2.1, q.1, hQ _ _ H1 s1 (drv_rng 0 _) q.2.2⟩
      | _ => exact q.elim
theorem di_range2 {tg a b : Expr} {fa : Rho → WD (List D)} {p pos : Pos} (hg : Gl X "range") (hm : X.mg "range" = none) (ha : DA O X E [a, b] fa) (hs : starEach [a, b] X.env = [(false, eval a X.env), (false, eval b X.env)] := by rfl) (hs2 : starEach [b] X.env = [(false, eval b X.env)] := by rfl) : DI O X E tg (.Call (.Name "range" p) [a, b] [] pos) (eCbF rng2 fa) := by
  obtain ⟨ta, a1, a2⟩ := ha
  refine ⟨_, pi_range2 hg hm a1 hs hs2, fun P ρ σ H Qd Ed R hd hr hf hQ hE => a2 P ρ σ H _ Ed _ hd hr hf (fun vs ds H1 s1 h _ q => ?_) hE⟩
  cases h with
  | nil => exact q.elim
  | cons h r =>
    cases r with
    | nil => cases h <;> exact q.elim
    | cons h' r =>
      cases r with
      | cons _ _ => cases h <;> cases h' <;> exact q.elim
      | nil =>
        cases h with
        | int a =>
          cases h' with
          | int b => exact ⟨a, b, rfl, q.1, hQ _ _ H1 s1 (drv_rng a _) q.2⟩
          | _ => exact q.elim
        | _ => cases h' <;> exact q.elim
/-! ### list comprehensions -/
def wipeR (ρ : Rho) : List Nat → Rho
  | [] => ρ
  | v :: vs => (wipeR ρ vs).set v none
theorem wipe_get (σ : L2.St) (j : Nat) : ∀ vs : List Nat, (wipe σ vs)[j]? = if j ∈ vs ∧ j < σ.length then some none else σ[j]?
  | [] => by simp [wipe]
  | v :: vs => by
    unfold wipe
    by_cases hv : v = j
    · subst hv
      by_cases hl : v < σ.length
      · rw [List.getElem?_set_self (by rw [wipe_length]; exact hl), if_pos ⟨List.mem_cons_self, hl⟩]
      · rw [List.getElem?_eq_none (by rw [List.length_set, wipe_length]; omega), if_neg (fun z => hl z.2), List.getElem?_eq_none (by omega)]
    · rw [List.getElem?_set_ne hv, wipe_get σ j vs]
      have : (j ∈ v :: vs ∧ j < σ.length) ↔ (j ∈ vs ∧ j < σ.length) := by
        constructor
        · rintro ⟨h1, h2⟩
          rcases List.mem_cons.mp h1 with h1 | h1
          · exact absurd h1.symm hv
          · exact ⟨h1, h2⟩
        · rintro ⟨h1, h2⟩
          exact ⟨List.mem_cons_of_mem _ h1, h2⟩
      simp only [this]
theorem setAll_ne {α : Type} {j : Nat} : ∀ {a : List (Nat × α)} {l : List (Option α)}, j ∉ a.map (·.1) → (setAll l a)[j]? = l[j]?
  | [], _, _ => rfl
  | (i, x) :: r, l, h => by
    rw [List.map_cons, List.mem_cons, not_or] at h
    show (setAll (l.set i (some x)) r)[j]? = l[j]?
    rw [setAll_ne h.2, List.getElem?_set_ne (fun e => h.1 e.symm)]
theorem wipe_setAll {σ : L2.St} {vs : List Nat} {a : List (Nat × V)} (h : ∀ i ∈ a.map (·.1), i ∈ vs) : wipe (setAll (wipe σ vs) a) vs = wipe σ vs := by
  apply List.ext_getElem?
  intro j
  rw [wipe_get, setAll_length, wipe_length]
  by_cases hj : j ∈ vs ∧ j < σ.length
  · rw [if_pos hj, wipe_get, if_pos hj]
  · rw [if_neg hj]
    by_cases hm : j ∈ a.map (·.1)
    · have hv := h j hm
      have hl : σ.length ≤ j := by
        rcases Nat.lt_or_ge j σ.length with z | z
        · exact absurd ⟨hv, z⟩ hj
        · exact z
      rw [List.getElem?_eq_none (by rw [setAll_length, wipe_length]; exact hl), List.getElem?_eq_none (by rw [wipe_length]; exact hl)]
    · rw [setAll_ne hm]
theorem wipeR_get (ρ : Rho) (j : Nat) (d : D) : ∀ vs : List Nat, (wipeR ρ vs)[j]? = some (some d) → ρ[j]? = some (some d) ∧ j ∉ vs
  | [], h => ⟨h, by simp⟩
  | v :: vs, h => by
    unfold wipeR at h
    by_cases hv : v = j
    · subst hv
      by_cases hl : v < (wipeR ρ vs).length
      · rw [List.getElem?_set_self hl] at h
        cases h
      · rw [List.getElem?_eq_none (by rw [List.length_set]; omega)] at h
        cases h
    · rw [List.getElem?_set_ne hv] at h
      obtain ⟨h1, h2⟩ := wipeR_get ρ j d vs h
      refine ⟨h1, fun z => ?_⟩
      rcases List.mem_cons.mp z with z | z
      · exact hv z.symm
      · exact h2 z
theorem wipeR_length (ρ : Rho) : ∀ vs : List Nat, (wipeR ρ vs).length = ρ.length
  | [] => rfl
  | v :: vs => by
    unfold wipeR
    rw [List.length_set, wipeR_length ρ vs]
theorem Rs.wipe {K : PySem.W.Frag} {P : Addr → Prop} {ρ : Rho} {σ : L2.St} {H : Hp} (h : Rs O K P ρ σ H) (vs : List Nat) : Rs O K P (wipeR ρ vs) (L2.wipe σ vs) H := ⟨by rw [wipe_length, wipeR_length, h.len], fun j d e => by
  obtain ⟨e1, n⟩ := wipeR_get ρ j d vs e
  obtain ⟨v, e2, h2⟩ := h.get j d e1
  refine ⟨v, ?_, h2⟩
  rw [wipe_get, if_neg (fun z => n z.1)]
  exact e2⟩
/-- the walk: item by item, the new list so far -/
def lcLoop (step : D → (Option D → Prop) → Prop) : List D → List D → (List D → Prop) → Prop
  | [], acc, Q => Q acc
  | x :: xs, acc, Q => step x fun o => lcLoop step xs (match o with | some y => acc ++ [y] | none => acc) Q
def lcStep (T : Tg) (vs : List Nat) (ft : Rho → WD Bool) (fe : Rho → WD D) (ρ : Rho) : D → (Option D → Prop) → Prop := fun x k => orStuck (bindT T x) fun l => ft (setAll (wipeR ρ vs) l) (fun b => if b = true then fe (setAll (wipeR ρ vs) l) (fun y => k (some y)) (fun _ => False) else k none) (fun _ => False)
def eLc (fi : Rho → WD (List D)) (T : Tg) (vs : List Nat) (ft : Rho → WD Bool) (fe : Rho → WD D) : Rho → WD (List D) := fun ρ Q Ed => fi ρ (fun xs => xs.length ≤ 1000000 ∧ lcLoop (lcStep T vs ft fe ρ) xs [] Q) Ed
def DTs (O : Ob) (X : Cx) (E : XK) (ifs : List Expr) (f : Rho → WD Bool) : Prop := ∃ t, PTs X ifs t ∧ ∀ (P : Addr → Prop) (ρ : Rho) (σ : L2.St) (H : Hp) (Qd : Bool → Prop) (Ed : Str → Prop) (Q : Bool → Hp → Prop),
  Dom H P → Rs O X.K P ρ σ H → f ρ Qd Ed → (∀ b H', Same H H' → Qd b → Q b H') → XOk X E H Ed → t σ H Q
theorem DTs.pts {ifs : List Expr} {f : Rho → WD Bool} (h : DTs O X E ifs f) : PTs X ifs (tT O X.K X.mg E f) := by
  obtain ⟨t, h1, h2⟩ := h
  exact ⟨fun pins s σ H Q I ⟨P, ρ, Qd, Ed, a, b, c, d, e⟩ => h1.run pins s σ H Q I (h2 P ρ σ H Qd Ed Q a b c d e)⟩
def tYesD : Rho → WD Bool := fun _ Q _ => Q true
theorem dts_nil : DTs O X E [] tYesD := ⟨_, pts_nil, fun P ρ σ H Qd Ed Q hd hr hf hQ hE => hQ _ H (Same.refl H) hf⟩
theorem dts_one {c : Expr} {f : Rho → WD Bool} (h : DT O X E c f) : DTs O X E [c] f := let ⟨t, h1, h2⟩ := h; ⟨t, pts_one h1, h2⟩
theorem bindT_keys : ∀ {T : Tg} {d : D} {l : List (Nat × D)} {vs : List Nat}, bindT T d = some l → (∀ d l, bindT T d = some l → ∀ i ∈ l.map (·.1), i ∈ vs) → ∀ i ∈ l.map (·.1), i ∈ vs := fun e h => h _ _ e
mutual
def Tg.slots : Tg → List Nat
  | .name i => [i]
  | .tup ts => slotsAll ts
def slotsAll : List Tg → List Nat
  | [] => []
  | t :: ts => t.slots ++ slotsAll ts
end
mutual
theorem bindT_slots : ∀ {T : Tg} {d : D} {l : List (Nat × D)}, bindT T d = some l → l.map (·.1) = T.slots
  | .name i, d, l, e => by
    cases e
    simp [Tg.slots]
  | .tup ts, .tuple ds, l, e => by
    have e' : bindAll ts ds = some l := by simpa [bindT] using e
    rw [bindAll_slots e']
    simp [Tg.slots]
  | .tup ts, .none, l, e => by simp [bindT] at e
  | .tup ts, .bool _, l, e => by simp [bindT] at e
  | .tup ts, .int _, l, e => by simp [bindT] at e
  | .tup ts, .str _, l, e => by simp [bindT] at e
  | .tup ts, .list _, l, e => by simp [bindT] at e
  | .tup ts, .dict _, l, e => by simp [bindT] at e
theorem bindAll_slots : ∀ {ts : List Tg} {ds : List D} {l : List (Nat × D)}, bindAll ts ds = some l → l.map (·.1) = slotsAll ts
  | [], [], _, e => by
    simp [bindAll] at e
    subst e
    rfl
  | [], _ :: _, _, e => by simp [bindAll] at e
  | _ :: _, [], _, e => by simp [bindAll] at e
  | t :: ts, d :: ds, l, e => by
    unfold bindAll at e
    cases q1 : bindT t d with
    | none =>
      rw [q1] at e
      cases e
    | some la =>
      cases q2 : bindAll ts ds with
      | none =>
        rw [q1, q2] at e
        cases e
      | some lb =>
        rw [q1, q2] at e
        cases e
        rw [List.map_append, bindT_slots q1, bindAll_slots q2]
        simp [slotsAll]
end
theorem lcLoop_drop {step : D → (Option D → Prop) → Prop} {xs : List D} {i : Nat} {x : D} {acc : List D} {Q : List D → Prop} (e : xs[i]? = some x) (h : lcLoop step (xs.drop i) acc Q) : step x fun o => lcLoop step (xs.drop (i + 1)) (match o with | some y => acc ++ [y] | none => acc) Q := by
  obtain ⟨hi, e⟩ := List.getElem?_eq_some_iff.mp e
  rw [List.drop_eq_getElem_cons hi, e] at h
  exact h
/-- a comprehension: as a value, and given to a name -/
def DLc (O : Ob) (X : Cx) (E : XK) (elt : Expr) (gs : List Comprehension) (scope : Scope) (f : Rho → WD (List D)) : Prop := ∃ t, (∀ pos, PE X (.ListComp elt gs scope pos) t) ∧
  (∀ (i : Nat) (y : Str) (py pos spos : Pos), X.N[i]? = some y → X.env.scope.names.lookup y = some .local → swapsWith (.ListComp elt gs scope pos) (some (.Name y py)) spos.line X.env = pure true → PS X (.Assign [.Name y py] (.ListComp elt gs scope pos) spos) (tAsg t (gName i))) ∧
  ∀ (P : Addr → Prop) (ρ : Rho) (σ : L2.St) (H : Hp) (Qd : List D → Prop) (Ed : Str → Prop) (Q : VK), Dom H P → Rs O X.K P ρ σ H → f ρ Qd Ed → (∀ p vs ds H', Same H H' → H p = none → H' p = some (.lst vs) → DvAll O X.K H' (fun a => P a ∨ a = p) vs ds → Qd ds → Q (.ref p) H') → XOk X E H Ed → t σ H Q
theorem DLc.df {elt : Expr} {gs : List Comprehension} {scope : Scope} {f : Rho → WD (List D)} {pos : Pos} (h : DLc O X E elt gs scope f) : DF O X E (.ListComp elt gs scope pos) f := let ⟨t, h1, _, h3⟩ := h; ⟨t, h1 pos, h3⟩
theorem lc1 {elt tg iter : Expr} {ifs : List Expr} {scope : Scope} {own : List (Str × Nat)} {fi : Rho → WD (List D)} {T : Tg} {ft : Rho → WD Bool} {fe : Rho → WD D} (hc : X.calm = true) (hN : X.N.Nodup) (hi : DI O X E tg iter fi) (ok : BlkOk X.N X.env.scope scope own)
    (hg : ∀ (s : Shared) (H : Hp) (C : Addr) (cl : List (Str × Addr)) (fp : List Addr), DG O (X.blk s H scope (compEnvC scope cl C X.env) fp) tg T) (ht : ∀ (s : Shared) (H : Hp) (C : Addr) (cl : List (Str × Addr)) (fp : List Addr), DTs O (X.blk s H scope (compEnvC scope cl C X.env) fp) E0 ifs ft)
    (he : ∀ (s : Shared) (H : Hp) (C : Addr) (cl : List (Str × Addr)) (fp : List Addr), DE O (X.blk s H scope (compEnvC scope cl C X.env) fp) E0 elt fe) (hT : ∀ i ∈ T.slots, i ∈ own.map (·.2)) (hs : ∀ x, foldedSetIterable iter X.env x = pure x := by intro _; rfl) :
    DLc O X E elt [⟨tg, iter, ifs, 0⟩] scope (eLc fi T (own.map (·.2)) ft fe) := by
  obtain ⟨wi, i1, i2⟩ := hi
  refine ⟨_, fun pos => pe_lc (g := fun v σ H Q => ∃ (P : Addr → Prop) (d : D) (l : List (Nat × D)), Dv O X.K H P v d ∧ bindT T d = some l ∧ ∀ a, Bnd O X.K H P a l → Q (setAll σ a) H) (tt := tT O X.K X.mg E0 ft) (te := tE O X.K X.mg E0 fe) hc hN i1 ok (fun s H C cl fp => (hg s H C cl fp).pg) (fun s H C cl fp => (ht s H C cl fp).pts) (fun s H C cl fp => (he s H C cl fp).pe) hs, fun i y py pos spos hy hl hsw => ps_setLc (g := fun v σ H Q => ∃ (P : Addr → Prop) (d : D) (l : List (Nat × D)), Dv O X.K H P v d ∧ bindT T d = some l ∧ ∀ a, Bnd O X.K H P a l → Q (setAll σ a) H) (tt := tT O X.K X.mg E0 ft) (te := tE O X.K X.mg E0 fe) hc hN hy hl hsw i1 ok (fun s H C cl fp => (hg s H C cl fp).pg) (fun s H C cl fp => (ht s H C cl fp).pts) (fun s H C cl fp => (he s H C cl fp).pe) hs, fun P ρ σ H Qd Ed Q hd hr hf hQ hE => i2 P ρ σ H _ Ed _ hd hr hf (fun J xs H1 s1 dv q Dl hD => ?_) hE⟩
  obtain ⟨hlen, q⟩ := q
  refine ⟨fun i m H2 => m = xs.length - i ∧ i ≤ xs.length ∧ Same H1 H2 ∧ ∃ vs acc, H2 Dl = some (.lst vs) ∧ DvAll O X.K H2 (fun a => P a ∨ a = Dl) vs acc ∧ acc.length ≤ i ∧ lcLoop (lcStep T (own.map (·.2)) ft fe ρ) (xs.drop i) acc Qd,
    ⟨xs.length, by simp, Nat.zero_le _, same_new hD, [], [], upd_same, .nil, Nat.le_refl _, q⟩, ?_⟩
  rintro i m H2 ⟨rfl, hi, s2, vs, acc, eD, hv, hacc, lp⟩
  have hd1 := hd.same s1
  have pp : ∀ a, P a → P a ∨ a = Dl := fun a z => .inl z
  have hp : ∀ a, (P a ∨ a = Dl) → P a ∨ H1 a = none := fun a z => z.imp id fun e => by rw [e]; exact hD
  have hd2 : Dom H2 (fun a => P a ∨ a = Dl) := fun a z => by
    rcases z with z | z
    · exact hd1.same s2 a z
    · exact ⟨_, by rw [z]; exact eD, .inl ⟨_, rfl⟩⟩
  have dr := dv _ H2 pp hp (.of s2)
  by_cases hlt : i < xs.length
  · refine .inr ⟨dr.go i hlt, fun H' => Same H1 H' ∧ ∃ vs acc, H' Dl = some (.lst vs) ∧ DvAll O X.K H' (fun a => P a ∨ a = Dl) vs acc ∧ acc.length ≤ i + 1 ∧ lcLoop (lcStep T (own.map (·.2)) ft fe ρ) (xs.drop (i + 1)) acc Qd,
      fun H' ⟨a, b⟩ => ⟨xs.length - (i + 1), by omega, rfl, hlt, a, b⟩, fun x H3 y => ?_⟩
    obtain ⟨d, ed⟩ := get_lt hlt
    obtain ⟨s3, hx⟩ := dr.yld i x H3 d y ed
    have st := lcLoop_drop ed lp
    obtain ⟨l, el, st⟩ := of_orStuck st
    refine ⟨fun a => P a ∨ a = Dl, d, l, hx, el, fun a ha => ⟨wipe_setAll fun j hj => ?_, ?_⟩⟩
    · rw [ha.keys, bindT_slots el] at hj
      exact hT j hj
    have hd3 := hd2.same s3
    have rs3 : Rs O X.K (fun a => P a ∨ a = Dl) (setAll (wipeR ρ (own.map (·.2))) l) (setAll (wipe σ (own.map (·.2))) a) H3 := by
      exact Rs.many ha (Rs.wipe (((hr.same s1).kf hp (.of s2) hd1).same s3) _)
    refine ⟨fun a => P a ∨ a = Dl, _, _, _, hd3, rs3, st, fun b H4 s4 q4 => ?_, fun _ _ _ _ _ z => z.elim⟩
    have s24 := s3.trans s4
    have hd4 := hd3.same s4
    have hv4 := hv.same s24
    have eD4 := s24 _ _ eD
    cases b with
    | true =>
      refine ⟨fun a => P a ∨ a = Dl, _, _, _, hd4, rs3.same s4, q4, fun y dy H5 s5 h5 q5 => ?_, fun _ _ _ _ _ z => z.elim⟩
      have eD5 := s5 _ _ eD4
      refine ⟨vs, eD5, ?_, ?_, vs ++ [y], acc ++ [dy], upd_same, ?_, ?_, q5⟩
      · rw [hv.length]
        exact Nat.lt_of_le_of_lt (Nat.le_trans hacc (Nat.le_of_lt (Nat.lt_of_lt_of_le hlt hlen))) (by decide)
      · intro b o e
        rw [upd_ne (ne_of_none e hD)]
        exact s5 _ _ (s24 _ _ (s2 _ _ e))
      · refine DvAll.keep (fun a o e m => ?_) (fun a o e m n => ?_) (fun a o e n => n) ((hv4.same s5).append (.cons h5 .nil))
        · have : a ≠ Dl := fun z => by
            subst z
            rw [eD5] at e
            cases e
            exact m (.inl ⟨_, rfl⟩)
          rw [upd_ne this]
          exact e
        · have : a ≠ Dl := fun z => n (.inr z)
          rw [upd_ne this]
          exact e
      · rw [List.length_append]
        exact Nat.add_le_add hacc (Nat.le_refl 1)
    | false => exact ⟨s2.trans s24, vs, acc, eD4, hv4, Nat.le_succ_of_le hacc, q4⟩
  · have e : i = xs.length := by omega
    subst e
    rw [List.drop_length] at lp
    exact .inl ⟨dr.stop _ (Nat.le_refl _), hQ Dl vs acc H2 (s1.trans s2) (s1.free hD) eD hv lp⟩
/-! ### two for -/
def lcIn (T1 : Tg) (vs1 : List Nat) (ft1 : Rho → WD Bool) (fe : Rho → WD D) (ρ : Rho) : List D → List D → (List D → Prop) → Prop := lcLoop (lcStep T1 vs1 ft1 fe ρ)
def lcLoop2 (T : Tg) (vs : List Nat) (ft : Rho → WD Bool) (fi1 : Rho → WD (List D)) (T1 : Tg) (vs1 : List Nat) (ft1 : Rho → WD Bool) (fe : Rho → WD D) (ρ : Rho) : List D → List D → (List D → Prop) → Prop
  | [], acc, Q => Q acc
  | x :: xs, acc, Q => orStuck (bindT T x) fun l => ft (setAll (wipeR ρ vs) l) (fun b => if b = true then fi1 (setAll (wipeR ρ vs) l) (fun ys => acc.length + ys.length ≤ 1000000 ∧ lcIn T1 vs1 ft1 fe (setAll (wipeR ρ vs) l) ys acc fun acc' => lcLoop2 T vs ft fi1 T1 vs1 ft1 fe ρ xs acc' Q) (fun _ => False)
      else lcLoop2 T vs ft fi1 T1 vs1 ft1 fe ρ xs acc Q) (fun _ => False)
def eLc2 (fi : Rho → WD (List D)) (T : Tg) (vs : List Nat) (ft : Rho → WD Bool) (fi1 : Rho → WD (List D)) (T1 : Tg) (vs1 : List Nat) (ft1 : Rho → WD Bool) (fe : Rho → WD D) : Rho → WD (List D) := fun ρ Q Ed => fi ρ (fun xs => lcLoop2 T vs ft fi1 T1 vs1 ft1 fe ρ xs [] Q) Ed
theorem DI.pi {tg iter : Expr} {f : Rho → WD (List D)} (h : DI O X E tg iter f) : PI X tg iter (fun σ H R => ∃ (P : Addr → Prop) (ρ : Rho) (Qd : List D → Prop) (Ed : Str → Prop), Dom H P ∧ Rs O X.K P ρ σ H ∧ f ρ Qd Ed ∧ (∀ J xs H', Same H H' → DrvA O X.K P J xs H' → Qd xs → R J H') ∧ ∀ c a H', Same H H' → X.mg c = some (.ref a) → Ed c → E (.ref a) none H') := by
  obtain ⟨wi, h1, h2⟩ := h
  exact ⟨fun pins s σ H R I ⟨P, ρ, Qd, Ed, a, b, c, d, e⟩ => h1.run pins s σ H R I (h2 P ρ σ H Qd Ed R a b c d e)⟩
theorem lcLoop2_drop {T : Tg} {vs : List Nat} {ft : Rho → WD Bool} {fi1 : Rho → WD (List D)} {T1 : Tg} {vs1 : List Nat} {ft1 : Rho → WD Bool} {fe : Rho → WD D} {ρ : Rho} {xs : List D} {i : Nat} {x : D} {acc : List D} {Q : List D → Prop} (e : xs[i]? = some x)
    (h : lcLoop2 T vs ft fi1 T1 vs1 ft1 fe ρ (xs.drop i) acc Q) : orStuck (bindT T x) fun l => ft (setAll (wipeR ρ vs) l) (fun b => if b = true then fi1 (setAll (wipeR ρ vs) l) (fun ys => acc.length + ys.length ≤ 1000000 ∧ lcIn T1 vs1 ft1 fe (setAll (wipeR ρ vs) l) ys acc fun acc' => lcLoop2 T vs ft fi1 T1 vs1 ft1 fe ρ (xs.drop (i + 1)) acc' Q) (fun _ => False)
      else lcLoop2 T vs ft fi1 T1 vs1 ft1 fe ρ (xs.drop (i + 1)) acc Q) (fun _ => False) := by
  obtain ⟨hi, e⟩ := List.getElem?_eq_some_iff.mp e
  rw [List.drop_eq_getElem_cons hi, e] at h
  exact h
abbrev gT (O : Ob) (K : PySem.W.Frag) (T : Tg) : TG := fun v σ H Q => ∃ (P : Addr → Prop) (d : D) (l : List (Nat × D)), Dv O K H P v d ∧ bindT T d = some l ∧ ∀ a, Bnd O K H P a l → Q (setAll σ a) H
abbrev iT (O : Ob) (K : PySem.W.Frag) (mg : Str → Option Value) (f : Rho → WD (List D)) : TI := fun σ H R => ∃ (P : Addr → Prop) (ρ : Rho) (Qd : List D → Prop) (Ed : Str → Prop), Dom H P ∧ Rs O K P ρ σ H ∧ f ρ Qd Ed ∧ (∀ J xs H', Same H H' → DrvA O K P J xs H' → Qd xs → R J H') ∧ ∀ c a H', Same H H' → mg c = some (.ref a) → Ed c → E0 (.ref a) none H'
theorem lc2 {elt tg iter tg1 iter1 : Expr} {ifs ifs1 : List Expr} {scope : Scope} {own : List (Str × Nat)} {vs1 : List Nat} {fi fi1 : Rho → WD (List D)} {T T1 : Tg} {ft ft1 : Rho → WD Bool} {fe : Rho → WD D} (hc : X.calm = true) (hN : X.N.Nodup) (hi : DI O X E tg iter fi) (ok : BlkOk X.N X.env.scope scope own) (hv : ∀ i ∈ vs1, i ∈ own.map (·.2))
    (hg : ∀ (s : Shared) (H : Hp) (C : Addr) (cl : List (Str × Addr)) (fp : List Addr), DG O (X.blk s H scope (compEnvC scope cl C X.env) fp) tg T) (ht : ∀ (s : Shared) (H : Hp) (C : Addr) (cl : List (Str × Addr)) (fp : List Addr), DTs O (X.blk s H scope (compEnvC scope cl C X.env) fp) E0 ifs ft)
    (hi1 : ∀ (s : Shared) (H : Hp) (C : Addr) (cl : List (Str × Addr)) (fp : List Addr), DI O (X.blk s H scope (compEnvC scope cl C X.env) fp) E0 tg1 iter1 fi1)
    (hg1 : ∀ (s : Shared) (H : Hp) (C : Addr) (cl : List (Str × Addr)) (fp : List Addr), DG O (X.blk s H scope (compEnvC scope cl C X.env) fp) tg1 T1) (ht1 : ∀ (s : Shared) (H : Hp) (C : Addr) (cl : List (Str × Addr)) (fp : List Addr), DTs O (X.blk s H scope (compEnvC scope cl C X.env) fp) E0 ifs1 ft1)
    (he : ∀ (s : Shared) (H : Hp) (C : Addr) (cl : List (Str × Addr)) (fp : List Addr), DE O (X.blk s H scope (compEnvC scope cl C X.env) fp) E0 elt fe) (hT : ∀ i ∈ T.slots, i ∈ own.map (·.2)) (hT1 : ∀ i ∈ T1.slots, i ∈ vs1)
    (hs : ∀ x, foldedSetIterable iter X.env x = pure x := by intro _; rfl) (hs1 : ∀ env x, foldedSetIterable iter1 env x = pure x := by intro _ _; rfl) :
    DLc O X E elt [⟨tg, iter, ifs, 0⟩, ⟨tg1, iter1, ifs1, 0⟩] scope (eLc2 fi T (own.map (·.2)) ft fi1 T1 vs1 ft1 fe) := by
  obtain ⟨wi, i1, i2⟩ := hi
  refine ⟨_, fun pos => pe_lc2 (vs1 := vs1) (g := gT O X.K T) (tt := tT O X.K X.mg E0 ft) (wi1 := iT O X.K X.mg fi1) (g1 := gT O X.K T1) (tt1 := tT O X.K X.mg E0 ft1) (te := tE O X.K X.mg E0 fe) hc hN i1 ok hv (fun s H C cl fp => (hg s H C cl fp).pg) (fun s H C cl fp => (ht s H C cl fp).pts) (fun s H C cl fp => (hi1 s H C cl fp).pi) (fun s H C cl fp => (hg1 s H C cl fp).pg) (fun s H C cl fp => (ht1 s H C cl fp).pts) (fun s H C cl fp => (he s H C cl fp).pe) hs hs1,
    fun i y py pos spos hy hl hsw => ps_setLc2 (vs1 := vs1) (g := gT O X.K T) (tt := tT O X.K X.mg E0 ft) (wi1 := iT O X.K X.mg fi1) (g1 := gT O X.K T1) (tt1 := tT O X.K X.mg E0 ft1) (te := tE O X.K X.mg E0 fe) hc hN hy hl hsw i1 ok hv (fun s H C cl fp => (hg s H C cl fp).pg) (fun s H C cl fp => (ht s H C cl fp).pts) (fun s H C cl fp => (hi1 s H C cl fp).pi) (fun s H C cl fp => (hg1 s H C cl fp).pg) (fun s H C cl fp => (ht1 s H C cl fp).pts) (fun s H C cl fp => (he s H C cl fp).pe) hs hs1,
    fun P ρ σ H Qd Ed Q hd hr hf hQ hE => i2 P ρ σ H _ Ed _ hd hr hf (fun J xs H1 s1 dv q Dl hD => ?_) hE⟩
  refine ⟨fun i m H2 => m = xs.length - i ∧ i ≤ xs.length ∧ Same H1 H2 ∧ ∃ vs acc, H2 Dl = some (.lst vs) ∧ DvAll O X.K H2 (fun a => P a ∨ a = Dl) vs acc ∧ lcLoop2 T (own.map (·.2)) ft fi1 T1 vs1 ft1 fe ρ (xs.drop i) acc Qd,
    ⟨xs.length, by simp, Nat.zero_le _, same_new hD, [], [], upd_same, .nil, q⟩, ?_⟩
  rintro i m H2 ⟨rfl, hi, s2, vs, acc, eD, hv2, lp⟩
  have hd1 := hd.same s1
  have pp : ∀ a, P a → P a ∨ a = Dl := fun a z => .inl z
  have hp : ∀ a, (P a ∨ a = Dl) → P a ∨ H1 a = none := fun a z => z.imp id fun e => by rw [e]; exact hD
  have hd2 : Dom H2 (fun a => P a ∨ a = Dl) := fun a z => by
    rcases z with z | z
    · exact hd1.same s2 a z
    · exact ⟨_, by rw [z]; exact eD, .inl ⟨_, rfl⟩⟩
  have dr := dv _ H2 pp hp (.of s2)
  by_cases hlt : i < xs.length
  · refine .inr ⟨dr.go i hlt, fun H' => Same H1 H' ∧ ∃ vs acc, H' Dl = some (.lst vs) ∧ DvAll O X.K H' (fun a => P a ∨ a = Dl) vs acc ∧ lcLoop2 T (own.map (·.2)) ft fi1 T1 vs1 ft1 fe ρ (xs.drop (i + 1)) acc Qd,
      fun H' ⟨a, b⟩ => ⟨xs.length - (i + 1), by omega, rfl, hlt, a, b⟩, fun x H3 y => ?_⟩
    obtain ⟨d, ed⟩ := get_lt hlt
    obtain ⟨s3, hx⟩ := dr.yld i x H3 d y ed
    have st := lcLoop2_drop ed lp
    obtain ⟨l, el, st⟩ := of_orStuck st
    refine ⟨fun a => P a ∨ a = Dl, d, l, hx, el, fun a ha => ⟨wipe_setAll fun j hj => ?_, ?_⟩⟩
    · rw [ha.keys, bindT_slots el] at hj
      exact hT j hj
    have hd3 := hd2.same s3
    have rs3 : Rs O X.K (fun a => P a ∨ a = Dl) (setAll (wipeR ρ (own.map (·.2))) l) (setAll (wipe σ (own.map (·.2))) a) H3 := Rs.many ha (Rs.wipe (((hr.same s1).kf hp (.of s2) hd1).same s3) _)
    refine ⟨fun a => P a ∨ a = Dl, _, _, _, hd3, rs3, st, fun b H4 s4 q4 => ?_, fun _ _ _ _ _ z => z.elim⟩
    have s24 := s3.trans s4
    have hd4 := hd3.same s4
    cases b with
    | false => exact ⟨s2.trans s24, vs, acc, s24 _ _ eD, hv2.same s24, q4⟩
    | true =>
      refine ⟨fun a => P a ∨ a = Dl, _, _, _, hd4, rs3.same s4, q4, fun J1 ys H5 s5 dv1 q5 => ?_, fun _ _ _ _ _ z => z.elim⟩
      have s25 := s24.trans s5
      have hd5 := hd4.same s5
      have rs5 := (rs3.same s4).same s5
      refine ⟨fun j k H6 => k = ys.length - j ∧ j ≤ ys.length ∧ Same H1 H6 ∧ Kf (fun a => P a ∨ a = Dl) H5 H6 ∧ ∃ vs' acc', H6 Dl = some (.lst vs') ∧ DvAll O X.K H6 (fun a => P a ∨ a = Dl) vs' acc' ∧ acc'.length ≤ acc.length + j ∧
          lcIn T1 vs1 ft1 fe (setAll (wipeR ρ (own.map (·.2))) l) (ys.drop j) acc' (fun acc' => lcLoop2 T (own.map (·.2)) ft fi1 T1 vs1 ft1 fe ρ (xs.drop (i + 1)) acc' Qd),
        ⟨ys.length, by simp, Nat.zero_le _, s2.trans s25, .refl H5, vs, acc, s25 _ _ eD, hv2.same s25, Nat.le_refl _, q5.2⟩, ?_⟩
      rintro j k H6 ⟨rfl, hj, s6, k6, vs', acc', eD6, hv6, ha6, lp6⟩
      have dr6 := dv1 _ H6 (fun a z => z) (fun a z => .inl z) k6
      have hd6 : Dom H6 (fun a => P a ∨ a = Dl) := fun a z => by
        rcases z with z | z
        · exact hd1.same s6 a z
        · exact ⟨_, by rw [z]; exact eD6, .inl ⟨_, rfl⟩⟩
      have rs6 := rs5.kf (P' := fun a => P a ∨ a = Dl) (fun a z => .inl z) k6 hd5
      by_cases hlj : j < ys.length
      · refine .inr ⟨dr6.go j hlj, fun H' => Same H1 H' ∧ Kf (fun a => P a ∨ a = Dl) H5 H' ∧ ∃ vs' acc', H' Dl = some (.lst vs') ∧ DvAll O X.K H' (fun a => P a ∨ a = Dl) vs' acc' ∧ acc'.length ≤ acc.length + (j + 1) ∧
            lcIn T1 vs1 ft1 fe (setAll (wipeR ρ (own.map (·.2))) l) (ys.drop (j + 1)) acc' (fun acc' => lcLoop2 T (own.map (·.2)) ft fi1 T1 vs1 ft1 fe ρ (xs.drop (i + 1)) acc' Qd),
          fun H' ⟨a, b⟩ => ⟨ys.length - (j + 1), by omega, rfl, hlj, a, b⟩, fun x1 H7 y1 => ?_⟩
        obtain ⟨d1, ed1⟩ := get_lt hlj
        obtain ⟨s7, hx1⟩ := dr6.yld j x1 H7 d1 y1 ed1
        have st1 := lcLoop_drop ed1 lp6
        obtain ⟨l1, el1, st1⟩ := of_orStuck st1
        refine ⟨fun a => P a ∨ a = Dl, d1, l1, hx1, el1, fun a1 ha1 => ⟨wipe_setAll fun j hj => ?_, ?_⟩⟩
        · rw [ha1.keys, bindT_slots el1] at hj
          exact hT1 j hj
        have hd7 := hd6.same s7
        have rs7 : Rs O X.K (fun a => P a ∨ a = Dl) (setAll (wipeR (setAll (wipeR ρ (own.map (·.2))) l) vs1) l1) (setAll (wipe (setAll (wipe σ (own.map (·.2))) a) vs1) a1) H7 := Rs.many ha1 (Rs.wipe (rs6.same s7) _)
        refine ⟨fun a => P a ∨ a = Dl, _, _, _, hd7, rs7, st1, fun b H8 s8 q8 => ?_, fun _ _ _ _ _ z => z.elim⟩
        have s68 := s7.trans s8
        have hd8 := hd7.same s8
        cases b with
        | false => exact ⟨s6.trans s68, k6.trans (.of s68), vs', acc', s68 _ _ eD6, hv6.same s68, by omega, q8⟩
        | true =>
          refine ⟨fun a => P a ∨ a = Dl, _, _, _, hd8, rs7.same s8, q8, fun y9 dy H9 s9 h9 q9 => ?_, fun _ _ _ _ _ z => z.elim⟩
          have s69 := s68.trans s9
          have eD9 := s69 _ _ eD6
          refine ⟨vs', eD9, ?_, ?_, ?_, vs' ++ [y9], acc' ++ [dy], upd_same, ?_, ?_, q9⟩
          · rw [hv6.length]
            have := q5.1
            exact Nat.lt_of_le_of_lt (show acc'.length ≤ 1000000 by omega) (by decide)
          · intro b o e
            rw [upd_ne (ne_of_none e hD)]
            exact s69 _ _ (s6 _ _ e)
          · intro a o e n
            have : a ≠ Dl := fun z => n (.inr z)
            rw [upd_ne this]
            exact s69 _ _ (k6 a o e n)
          · refine DvAll.keep (fun a o e m => ?_) (fun a o e m n => ?_) (fun a o e n => n) ((hv6.same s69).append (.cons h9 .nil))
            · have : a ≠ Dl := fun z => by
                subst z
                rw [eD9] at e
                cases e
                exact m (.inl ⟨_, rfl⟩)
              rw [upd_ne this]
              exact e
            · have : a ≠ Dl := fun z => n (.inr z)
              rw [upd_ne this]
              exact e
          · rw [List.length_append]
            show acc'.length + 1 ≤ _
            omega
      · have e : j = ys.length := by omega
        subst e
        rw [List.drop_length] at lp6
        exact .inl ⟨dr6.stop _ (Nat.le_refl _), s6, vs', acc', eD6, hv6, lp6⟩
  · have e : i = xs.length := by omega
    subst e
    rw [List.drop_length] at lp
    exact .inl ⟨dr.stop _ (Nat.le_refl _), hQ Dl vs acc H2 (s1.trans s2) (s1.free hD) eD hv2 lp⟩
end
end DL

namespace DL
open PySem PySem.Spec L2
/-! ### statements: a frame of data; lists of one's own may grow -/
/-- what one's own holds: a list, a dict -/
inductive OwnC where
  | lst (xs : List D)
  | dct (ds : List (Key × D))
inductive Ent where
  | val (d : D)
  | own (c : OwnC)
def dataOf : OwnC → D
  | .lst xs => .list xs
  | .dct ds => dictE ds
def OwnOk (O : Ob) (K : PySem.W.Frag) (H : Hp) (P : Addr → Prop) (p : Addr) : OwnC → Prop
  | .lst xs => ∃ vs, H p = some (.lst vs) ∧ DvAll O K H P vs xs
  | .dct ds => ∃ kvs, H p = some (.dK kvs) ∧ kvs.map (·.1) = ds.map (·.1) ∧ DvAll O K H P (kvs.map (·.2)) (ds.map (·.2))
section
variable {O : Ob} {K : PySem.W.Frag} {H H' : Hp} {P P' : Addr → Prop} {p : Addr} {c : OwnC}
theorem OwnOk.to (h : OwnOk O K H P p c) (f : ∀ {vs : List V} {ds : List D}, DvAll O K H P vs ds → DvAll O K H' P' vs ds) (e : ∀ o, H p = some o → Mb o → H' p = some o) : OwnOk O K H' P' p c := by
  cases c with
  | lst xs =>
    obtain ⟨vs, h1, h2⟩ := h
    exact ⟨vs, e _ h1 (.inl ⟨_, rfl⟩), f h2⟩
  | dct ds =>
    obtain ⟨kvs, h1, h2, h3⟩ := h
    exact ⟨kvs, e _ h1 (.inr ⟨_, rfl⟩), h2, f h3⟩
theorem OwnOk.same (h : OwnOk O K H P p c) (s : Same H H') : OwnOk O K H' P p c := h.to (fun r => r.same s) fun o e _ => s _ _ e
theorem OwnOk.less (h : OwnOk O K H P p c) (q : ∀ a, P' a → P a) : OwnOk O K H P' p c := h.to (fun r => r.less q) fun o e _ => e
theorem OwnOk.mb (h : OwnOk O K H P p c) : ∃ o, H p = some o ∧ Mb o := by
  cases c with
  | lst xs => exact ⟨_, h.choose_spec.1, .inl ⟨_, rfl⟩⟩
  | dct ds => exact ⟨_, h.choose_spec.1, .inr ⟨_, rfl⟩⟩
theorem OwnOk.dv (h : OwnOk O K H P p c) (n : ¬ P p) : Dv O K H P (.ref p) (dataOf c) := by
  cases c with
  | lst xs =>
    obtain ⟨vs, h1, h2⟩ := h
    exact .lst h1 n h2
  | dct ds =>
    obtain ⟨kvs, h1, h2, h3⟩ := h
    exact .dct h1 n h2 h3
end
abbrev Env := List (Option Ent)
def cleanE : Option Ent → Option D
  | some (.val d) => some d
  | _ => none
def fullE : Option Ent → Option D
  | some (.val d) => some d
  | some (.own c) => some (dataOf c)
  | none => none
def clean (Γ : Env) : Rho := Γ.map cleanE
def full (Γ : Env) : Rho := Γ.map fullE
def Pw (P : Addr → Prop) (own : Nat → Option Addr) : Addr → Prop := fun a => P a ∨ ∃ i, own i = some a
structure Rg (O : Ob) (K : PySem.W.Frag) (H0 : Hp) (P0 : Addr → Prop) (Γ : Env) (σ : L2.St) (H : Hp) (own : Nat → Option Addr) : Prop where
  same : Same H0 H
  inj : ∀ i j a, own i = some a → own j = some a → i = j
  fresh : ∀ i a, own i = some a → H0 a = none ∧ ∃ o, H a = some o ∧ Mb o
  rs : Rs O K (Pw P0 own) (clean Γ) σ H
  ow : ∀ (i : Nat) c, Γ[i]? = some (some (.own c)) → ∃ p, own i = some p ∧ σ[i]? = some (some (.ref p)) ∧ OwnOk O K H (Pw P0 own) p c
section
variable {O : Ob} {X : Cx} {E : XK} {H0 : Hp} {P0 : Addr → Prop} {Γ : Env} {σ : L2.St} {H H' : Hp} {own : Nat → Option Addr} {K : PySem.W.Frag}
theorem Rg.dom (h : Rg O K H0 P0 Γ σ H own) (hd : Dom H0 P0) : Dom H (Pw P0 own) := fun a z => by
  rcases z with z | ⟨i, z⟩
  · exact hd.same h.same a z
  · exact (h.fresh i a z).2
theorem Rg.step (h : Rg O K H0 P0 Γ σ H own) (s : Same H H') : Rg O K H0 P0 Γ σ H' own :=
  ⟨h.same.trans s, h.inj, fun i a e => let ⟨e1, o, e2, m⟩ := h.fresh i a e; ⟨e1, o, s _ _ e2, m⟩, h.rs.same s, fun i c e => let ⟨p, e1, e2, e3⟩ := h.ow i c e; ⟨p, e1, e2, e3.same s⟩⟩
theorem Rg.full (h : Rg O K H0 P0 Γ σ H own) (hd : Dom H0 P0) : Rs O K P0 (full Γ) σ H := by
  refine ⟨by rw [h.rs.len]; simp [clean, DL.full], fun i d e => ?_⟩
  unfold DL.full at e
  rw [List.getElem?_map] at e
  cases q : Γ[i]? with
  | none =>
    rw [q] at e
    cases e
  | some o =>
    rw [q] at e
    cases o with
    | none => cases e
    | some t =>
      cases t with
      | val d' =>
        have e' : d' = d := by
          injection e with e
          injection e
        subst e'
        obtain ⟨v, e1, h1⟩ := h.rs.get i d' (by unfold clean; rw [List.getElem?_map, q]; rfl)
        exact ⟨v, e1, h1.less fun a z => .inl z⟩
      | own c =>
        cases e
        obtain ⟨p, e1, e2, e3⟩ := h.ow i c q
        refine ⟨.ref p, e2, (e3.less fun a z => .inl z).dv fun z => ?_⟩
        obtain ⟨o, eo, _⟩ := hd p z
        rw [(h.fresh i p e1).1] at eo
        cases eo
theorem clean_set (Γ : Env) (i : Nat) (d : D) : clean (Γ.set i (some (.val d))) = (clean Γ).set i (some d) := by
  unfold clean
  rw [List.map_set]
  rfl
theorem Rg.set (h : Rg O K H0 P0 Γ σ H own) {i : Nat} {v : V} {d : D} (hv : Dv O K H (Pw P0 own) v d) : Rg O K H0 P0 (Γ.set i (some (.val d))) (σ.set i (some v)) H own := by
  refine ⟨h.same, h.inj, h.fresh, by rw [clean_set]; exact h.rs.set hv, fun j xs e => ?_⟩
  by_cases hj : i = j
  · subst hj
    have hl : i < Γ.length := by
      have := (List.getElem?_eq_some_iff.mp e).1
      rw [List.length_set] at this
      exact this
    rw [List.getElem?_set_self hl] at e
    cases e
  · rw [List.getElem?_set_ne hj] at e
    obtain ⟨p, e1, e2, e3⟩ := h.ow j xs e
    exact ⟨p, e1, by rw [List.getElem?_set_ne hj]; exact e2, e3⟩
def setV (Γ : Env) : List (Nat × D) → Env
  | [] => Γ
  | (i, d) :: r => setV (Γ.set i (some (.val d))) r
theorem Rg.many : ∀ {a : List (Nat × V)} {b : List (Nat × D)} {Γ : Env} {σ : L2.St}, Bnd O K H (Pw P0 own) a b → Rg O K H0 P0 Γ σ H own → Rg O K H0 P0 (setV Γ b) (setAll σ a) H own
  | _, _, _, _, .nil, h => h
  | (i, v) :: a, (_, d) :: b, Γ, σ, .cons hv r, h => by
    have := Rg.many (Γ := Γ.set i (some (.val d))) (σ := σ.set i (some v)) r (h.set hv)
    exact this
def ownSet (own : Nat → Option Addr) (i : Nat) (p : Addr) : Nat → Option Addr := fun j => if j = i then some p else own j
theorem ownSet_self (own : Nat → Option Addr) (i : Nat) (p : Addr) : ownSet own i p i = some p := if_pos rfl
theorem ownSet_ne {own : Nat → Option Addr} {i j : Nat} {p : Addr} (h : j ≠ i) : ownSet own i p j = own j := if_neg h
/-- a new list becomes one's own -/
theorem Rg.setOwn (h : Rg O K H0 P0 Γ σ H own) {i : Nat} {p : Addr} {c : OwnC} (n : H0 p = none) (np : ∀ j, own j ≠ some p)
    (hr : ∀ (j : Nat) d, (clean Γ)[j]? = some (some d) → ∃ v, σ[j]? = some (some v) ∧ Dv O K H (fun a => Pw P0 own a ∨ a = p) v d)
    (ho : ∀ (j : Nat) c, Γ[j]? = some (some (.own c)) → ∃ q, own j = some q ∧ σ[j]? = some (some (.ref q)) ∧ OwnOk O K H (fun a => Pw P0 own a ∨ a = p) q c)
    (hv : OwnOk O K H (fun a => Pw P0 own a ∨ a = p) p c) : Rg O K H0 P0 (Γ.set i (some (.own c))) (σ.set i (some (.ref p))) H (ownSet own i p) := by
  have sub : ∀ a, Pw P0 (ownSet own i p) a → Pw P0 own a ∨ a = p := fun a z => by
    rcases z with z | ⟨j, z⟩
    · exact .inl (.inl z)
    · by_cases hj : j = i
      · subst hj
        rw [ownSet_self] at z
        cases z
        exact .inr rfl
      · rw [ownSet_ne hj] at z
        exact .inl (.inr ⟨j, z⟩)
  refine ⟨h.same, fun j k a e1 e2 => ?_, fun j a e1 => ?_, ⟨by rw [List.length_set, h.rs.len]; simp [clean], fun j d e1 => ?_⟩, fun j ys e1 => ?_⟩
  · by_cases hj : j = i
    · subst hj
      rw [ownSet_self] at e1
      cases e1
      by_cases hk : k = j
      · rw [hk]
      · rw [ownSet_ne hk] at e2
        exact absurd e2 (np k)
    · rw [ownSet_ne hj] at e1
      by_cases hk : k = i
      · subst hk
        rw [ownSet_self] at e2
        cases e2
        exact absurd e1 (np j)
      · rw [ownSet_ne hk] at e2
        exact h.inj j k a e1 e2
  · by_cases hj : j = i
    · subst hj
      rw [ownSet_self] at e1
      cases e1
      exact ⟨n, hv.mb⟩
    · rw [ownSet_ne hj] at e1
      exact h.fresh j a e1
  · unfold clean at e1
    rw [List.map_set] at e1
    by_cases hj : i = j
    · subst hj
      have hl : i < (Γ.map cleanE).length := by
        have := (List.getElem?_eq_some_iff.mp e1).1
        rw [List.length_set] at this
        exact this
      rw [List.getElem?_set_self hl] at e1
      cases e1
    · rw [List.getElem?_set_ne hj] at e1
      obtain ⟨v, e2, h2⟩ := hr j d e1
      exact ⟨v, by rw [List.getElem?_set_ne hj]; exact e2, h2.less sub⟩
  · by_cases hj : i = j
    · subst hj
      have hl : i < Γ.length := by
        have := (List.getElem?_eq_some_iff.mp e1).1
        rw [List.length_set] at this
        exact this
      rw [List.getElem?_set_self hl] at e1
      cases e1
      have hs : i < σ.length := by
        rw [h.rs.len]
        simpa [clean] using hl
      exact ⟨p, ownSet_self own i p, by rw [List.getElem?_set_self hs], hv.less sub⟩
    · rw [List.getElem?_set_ne hj] at e1
      obtain ⟨q, e2, e3, e4⟩ := ho j ys e1
      exact ⟨q, by rw [ownSet_ne (fun z => hj z.symm)]; exact e2, by rw [List.getElem?_set_ne hj]; exact e3, e4.less sub⟩
/-! ### what follows a statement -/
structure KS where
  nx : Env → Prop
  rt : D → Prop
  bk : Env → Prop := fun _ => False
  ct : Env → Prop := fun _ => False
  ex : Str → Prop := fun _ => False
structure Lk (O : Ob) (X : Cx) (E : XK) (H0 : Hp) (P0 : Addr → Prop) (k : KS) (D : Ends) : Prop where
  nx : ∀ Γ σ H own, Rg O X.K H0 P0 Γ σ H own → k.nx Γ → D.nx σ H
  rt : ∀ v d H, Same H0 H → Dv O X.K H P0 v d → k.rt d → D.rt v H
  bk : ∀ Γ σ H own, Rg O X.K H0 P0 Γ σ H own → k.bk Γ → D.bk σ H
  ct : ∀ Γ σ H own, Rg O X.K H0 P0 Γ σ H own → k.ct Γ → D.ct σ H
  ex : XOk X E H0 k.ex
abbrev FS := Env → KS → Prop
def DS (O : Ob) (X : Cx) (E : XK) (st : Stmt) (F : FS) : Prop := ∃ t, PS X st t ∧ ∀ H0 P0 Γ σ H own k D, Dom H0 P0 → Rg O X.K H0 P0 Γ σ H own → F Γ k → Lk O X E H0 P0 k D → t D σ H
def DSs (O : Ob) (X : Cx) (E : XK) (st : List Stmt) (F : FS) : Prop := ∃ t, PSs X st t ∧ ∀ H0 P0 Γ σ H own k D, Dom H0 P0 → Rg O X.K H0 P0 Γ σ H own → F Γ k → Lk O X E H0 P0 k D → t D σ H
variable {pos : Pos} {e a b : Expr} {st : Stmt} {rest : List Stmt} {F G : FS} {f : Rho → WD D}
theorem Lk.exH {k : KS} {D : Ends} (l : Lk O X E H0 P0 k D) (r : Rg O X.K H0 P0 Γ σ H own) : XOk X E H k.ex := l.ex.same r.same
def sNext : FS := fun Γ k => k.nx Γ
def sSeq (F G : FS) : FS := fun Γ k => F Γ { k with nx := fun Γ' => G Γ' k }
theorem dss_nil : DSs O X E [] sNext := ⟨_, pss_nil, fun H0 P0 Γ σ H own k D hd r hf l => l.nx _ _ _ _ r hf⟩
theorem dss_one (h : DS O X E st F) : DSs O X E [st] F := let ⟨t, h1, h2⟩ := h; ⟨t, pss_one h1, h2⟩
theorem dss_cons (h : DS O X E st F) (k : DSs O X E rest G) : DSs O X E (st :: rest) (sSeq F G) := by
  obtain ⟨t, h1, h2⟩ := h
  obtain ⟨u, k1, k2⟩ := k
  exact ⟨_, pss_cons h1 k1, fun H0 P0 Γ σ H own k D hd r hf l => h2 H0 P0 Γ σ H own _ _ hd r hf ⟨fun Γ' σ' H' own' r' q => k2 H0 P0 Γ' σ' H' own' k D hd r' q l, l.rt, l.bk, l.ct, l.ex⟩⟩
theorem ds_pass : DS O X E (.Pass pos) sNext := ⟨_, ps_pass, fun H0 P0 Γ σ H own k D hd r hf l => l.nx _ _ _ _ r hf⟩
def sBreak : FS := fun Γ k => k.bk Γ
def sCont : FS := fun Γ k => k.ct Γ
theorem ds_break : DS O X E (.Break pos) sBreak := ⟨_, ps_break, fun H0 P0 Γ σ H own k D hd r hf l => l.bk _ _ _ _ r hf⟩
theorem ds_continue : DS O X E (.Continue pos) sCont := ⟨_, ps_continue, fun H0 P0 Γ σ H own k D hd r hf l => l.ct _ _ _ _ r hf⟩
def sNever : FS := fun _ _ => False
theorem ds_never : DS O X E st sNever := ⟨_, ps_never, fun H0 P0 Γ σ H own k D hd r hf l => hf.elim⟩
/-- return e -/
def sRet (f : Rho → WD D) : FS := fun Γ k => f (full Γ) k.rt k.ex
theorem ds_ret (h : DE O X E e f) : DS O X E (.Return (some e) pos) (sRet f) := by
  obtain ⟨t, h1, h2⟩ := h
  exact ⟨_, ps_ret h1, fun H0 P0 Γ σ H own k D hd r hf l => h2 P0 _ σ H _ _ _ (hd.same r.same) (r.full hd) hf (fun v d H' s h q => l.rt v d H' (r.same.trans s) h q) (l.exH r)⟩
def sRetN : FS := fun Γ k => k.rt .none
theorem ds_retN : DS O X E (.Return none pos) sRetN := ⟨_, ps_retN, fun H0 P0 Γ σ H own k D hd r hf l => l.rt _ _ _ r.same .non hf⟩
/-- x = e: e looks at no list of one's own -/
def sSet (i : Nat) (f : Rho → WD D) : FS := fun Γ k => f (clean Γ) (fun d => k.nx (Γ.set i (some (.val d)))) k.ex
theorem ds_set (i : Nat) {x : Str} {pos' : Pos} (hN : X.N.Nodup) (h : DE O X E e f) (hi : X.N[i]? = some x := by rfl) (hx : Loc X.env.scope x := by first | exact Or.inl rfl | exact Or.inr rfl) (hs : swapsWith e (some (.Name x pos')) pos.line X.env = pure false := by rfl)
    (hf : X.fn x = true ∨ X.env.scope.names.lookup x = some .local := by first | exact .inl rfl | exact .inr rfl | assumption) : DS O X E (.Assign [.Name x pos'] e pos) (sSet i f) := by
  obtain ⟨t, h1, h2⟩ := h
  exact ⟨_, ps_set (i := i) hN hi hx h1 hs hf, fun H0 P0 Γ σ H own k D hd r hf l => h2 _ _ σ H _ _ _ (r.dom hd) r.rs hf (fun v d H' s h q => l.nx _ _ _ _ ((r.step s).set h) q) (l.exH r)⟩
/-- x = e: e is plain all through -/
def sSetP (i : Nat) (f : Rho → WD D) : FS := fun Γ k => f (full Γ) (fun d => pureD d = true ∧ k.nx (Γ.set i (some (.val d)))) k.ex
theorem ds_setP (i : Nat) {x : Str} {pos' : Pos} (hN : X.N.Nodup) (h : DE O X E e f) (hi : X.N[i]? = some x := by rfl) (hx : Loc X.env.scope x := by first | exact Or.inl rfl | exact Or.inr rfl) (hs : swapsWith e (some (.Name x pos')) pos.line X.env = pure false := by rfl)
    (hf : X.fn x = true ∨ X.env.scope.names.lookup x = some .local := by first | exact .inl rfl | exact .inr rfl | assumption) : DS O X E (.Assign [.Name x pos'] e pos) (sSetP i f) := by
  obtain ⟨t, h1, h2⟩ := h
  exact ⟨_, ps_set (i := i) hN hi hx h1 hs hf, fun H0 P0 Γ σ H own k D hd r hf l => h2 P0 _ σ H _ _ _ (hd.same r.same) (r.full hd) hf (fun v d H' s h q => l.nx _ _ _ _ ((r.step s).set (h.pure q.1)) q.2) (l.exH r)⟩
/-- x = a new list -/
def sSetF (i : Nat) (f : Rho → WD (List D)) : FS := fun Γ k => f (clean Γ) (fun xs => k.nx (Γ.set i (some (.own (.lst xs))))) k.ex
theorem own_new (r : Rg O K H0 P0 Γ σ H own) (hd : Dom H0 P0) {i : Nat} {p : Addr} {c : OwnC} (s : Same H H') (n : H p = none) (hv : OwnOk O K H' (fun a => Pw P0 own a ∨ a = p) p c) :
    Rg O K H0 P0 (Γ.set i (some (.own c))) (σ.set i (some (.ref p))) H' (ownSet own i p) := by
  have r' := r.step s
  have ps : ∀ a, (Pw P0 own a ∨ a = p) → Pw P0 own a ∨ H a = none := fun a z => z.imp id fun q => by rw [q]; exact n
  refine r'.setOwn (r.same.free n) (fun j z => ?_) (fun j d e1 => ?_) (fun j ys e1 => ?_) hv
  · obtain ⟨_, ws, z2, _⟩ := r.fresh j p z
    rw [n] at z2
    cases z2
  · obtain ⟨v, e2, h2⟩ := r.rs.get j d e1
    exact ⟨v, e2, h2.kf ps (.of s) (r.dom hd)⟩
  · obtain ⟨q, e2, e3, e4⟩ := r.ow j ys e1
    exact ⟨q, e2, e3, e4.to (fun h => h.kf ps (.of s) (r.dom hd)) fun o e _ => s _ _ e⟩
theorem ds_setF (i : Nat) {x : Str} {pos' : Pos} {f : Rho → WD (List D)} (hN : X.N.Nodup) (h : DF O X E e f) (hi : X.N[i]? = some x := by rfl) (hx : Loc X.env.scope x := by first | exact Or.inl rfl | exact Or.inr rfl) (hs : swapsWith e (some (.Name x pos')) pos.line X.env = pure false := by rfl)
    (hf : X.fn x = true ∨ X.env.scope.names.lookup x = some .local := by first | exact .inl rfl | exact .inr rfl | assumption) : DS O X E (.Assign [.Name x pos'] e pos) (sSetF i f) := by
  obtain ⟨t, h1, h2⟩ := h
  exact ⟨_, ps_set (i := i) hN hi hx h1 hs hf, fun H0 P0 Γ σ H own k D hd r hf l => h2 _ _ σ H _ _ _ (r.dom hd) r.rs hf (fun p vs ds H' s n e h q => l.nx _ _ _ _ (own_new (c := .lst ds) r hd s n ⟨vs, e, h⟩) q) (l.exH r)⟩
def sSetFP (i : Nat) (f : Rho → WD (List D)) : FS := fun Γ k => f (full Γ) (fun xs => pureD.pureAll xs = true ∧ k.nx (Γ.set i (some (.own (.lst xs))))) k.ex
theorem ds_setFP (i : Nat) {x : Str} {pos' : Pos} {f : Rho → WD (List D)} (hN : X.N.Nodup) (h : DF O X E e f) (hi : X.N[i]? = some x := by rfl) (hx : Loc X.env.scope x := by first | exact Or.inl rfl | exact Or.inr rfl) (hs : swapsWith e (some (.Name x pos')) pos.line X.env = pure false := by rfl)
    (hf : X.fn x = true ∨ X.env.scope.names.lookup x = some .local := by first | exact .inl rfl | exact .inr rfl | assumption) : DS O X E (.Assign [.Name x pos'] e pos) (sSetFP i f) := by
  obtain ⟨t, h1, h2⟩ := h
  exact ⟨_, ps_set (i := i) hN hi hx h1 hs hf, fun H0 P0 Γ σ H own k D hd r hf l => h2 P0 _ σ H _ _ _ (hd.same r.same) (r.full hd) hf (fun p vs ds H' s n e h q => l.nx _ _ _ _ (own_new (c := .lst ds) r hd s n ⟨vs, e, h.pure q.1⟩) q.2) (l.exH r)⟩
section
variable {elt : Expr} {gs : List Comprehension} {scope : Scope} {fl : Rho → WD (List D)} {y : Str} {py lpos spos : Pos}
/-- x = [..], x a local that no block looks at -/
theorem ds_setLcF (i : Nat) (h : DLc O X E elt gs scope fl) (hy : X.N[i]? = some y := by rfl) (hl : X.env.scope.names.lookup y = some .local := by rfl) (hk : X.env.scope.kind = .function := by rfl) (hp : (py.line == lpos.line) = true := by rfl)
    (ha : (scope.names.any fun (n, k) => n == y && (k == .local || k == .cell)) = false := by decide +kernel) : DS O X E (.Assign [.Name y py] (.ListComp elt gs scope lpos) spos) (sSetF i fl) := by
  obtain ⟨t, _, h2, h3⟩ := h
  exact ⟨_, h2 i y py lpos spos hy hl (sw_true hk hl hp ha), fun H0 P0 Γ σ H own k D hd r hf l => h3 _ _ σ H _ _ _ (r.dom hd) r.rs hf (fun p vs ds H' s n e h q => l.nx _ _ _ _ (own_new (c := .lst ds) r hd s n ⟨vs, e, h⟩) q) (l.exH r)⟩
theorem ds_setLcFP (i : Nat) (h : DLc O X E elt gs scope fl) (hy : X.N[i]? = some y := by rfl) (hl : X.env.scope.names.lookup y = some .local := by rfl) (hk : X.env.scope.kind = .function := by rfl) (hp : (py.line == lpos.line) = true := by rfl)
    (ha : (scope.names.any fun (n, k) => n == y && (k == .local || k == .cell)) = false := by decide +kernel) : DS O X E (.Assign [.Name y py] (.ListComp elt gs scope lpos) spos) (sSetFP i fl) := by
  obtain ⟨t, _, h2, h3⟩ := h
  exact ⟨_, h2 i y py lpos spos hy hl (sw_true hk hl hp ha), fun H0 P0 Γ σ H own k D hd r hf l => h3 P0 _ σ H _ _ _ (hd.same r.same) (r.full hd) hf (fun p vs ds H' s n e h q => l.nx _ _ _ _ (own_new (c := .lst ds) r hd s n ⟨vs, e, h.pure q.1⟩) q.2) (l.exH r)⟩
theorem ds_setLc (i : Nat) (h : DLc O X E elt gs scope fl) (hy : X.N[i]? = some y := by rfl) (hl : X.env.scope.names.lookup y = some .local := by rfl) (hk : X.env.scope.kind = .function := by rfl) (hp : (py.line == lpos.line) = true := by rfl)
    (ha : (scope.names.any fun (n, k) => n == y && (k == .local || k == .cell)) = false := by decide +kernel) : DS O X E (.Assign [.Name y py] (.ListComp elt gs scope lpos) spos) (sSet i (eOfF fl)) := by
  obtain ⟨t, _, h2, h3⟩ := h
  exact ⟨_, h2 i y py lpos spos hy hl (sw_true hk hl hp ha), fun H0 P0 Γ σ H own k D hd r hf l => h3 _ _ σ H _ _ _ (r.dom hd) r.rs hf (fun p vs ds H' s n e h q => l.nx _ _ _ _ ((r.step s).set (.lst e ((r.dom hd).new n) (h.less fun _ z => .inl z))) q) (l.exH r)⟩
end
/-- a target of several names -/
def sTgt (T : Tg) (f : Rho → WD D) : FS := fun Γ k => f (clean Γ) (fun d => orStuck (bindT T d) fun l => k.nx (setV Γ l)) k.ex
theorem ds_tgt {tg : Expr} {T : Tg} (h : DE O X E e f) (hg : DG O X tg T) (hs : swapsWithSole [tg] e pos.line X.env = pure false := by rfl) (hw : swappedStores [tg] e X.env = pure none := by rfl) (h1 : (assignEach [tg] X.env).map (·.2) = [assign tg X.env] := by rfl) : DS O X E (.Assign [tg] e pos) (sTgt T f) := by
  obtain ⟨t, a1, a2⟩ := h
  obtain ⟨g, b1, b2⟩ := hg
  refine ⟨_, ps_asg a1 b1 hs hw h1, fun H0 P0 Γ σ H own k D hd r hf l => a2 _ _ σ H _ _ _ (r.dom hd) r.rs hf (fun v d H' s h q => ?_) (l.exH r)⟩
  obtain ⟨lb, e1, q⟩ := of_orStuck q
  exact b2 _ σ H' v d lb _ h e1 fun a ha => l.nx _ _ _ _ (Rg.many ha (r.step s)) q
def sTgtP (T : Tg) (f : Rho → WD D) : FS := fun Γ k => f (full Γ) (fun d => pureD d = true ∧ orStuck (bindT T d) fun l => k.nx (setV Γ l)) k.ex
theorem ds_tgtP {tg : Expr} {T : Tg} (h : DE O X E e f) (hg : DG O X tg T) (hs : swapsWithSole [tg] e pos.line X.env = pure false := by rfl) (hw : swappedStores [tg] e X.env = pure none := by rfl) (h1 : (assignEach [tg] X.env).map (·.2) = [assign tg X.env] := by rfl) : DS O X E (.Assign [tg] e pos) (sTgtP T f) := by
  obtain ⟨t, a1, a2⟩ := h
  obtain ⟨g, b1, b2⟩ := hg
  refine ⟨_, ps_asg a1 b1 hs hw h1, fun H0 P0 Γ σ H own k D hd r hf l => a2 P0 _ σ H _ _ _ (hd.same r.same) (r.full hd) hf (fun v d H' s h q => ?_) (l.exH r)⟩
  obtain ⟨lb, e1, q2⟩ := of_orStuck q.2
  exact b2 _ σ H' v d lb _ (h.pure q.1) e1 fun a ha => l.nx _ _ _ _ (Rg.many ha (r.step s)) q2
/-- a, b = x, y -/
def sPar (i j : Nat) (f : Rho → WD (List D)) : FS := fun Γ k => f (clean Γ) (fun ds => match ds with
  | [d, e] => k.nx ((Γ.set i (some (.val d))).set j (some (.val e)))
  | _ => False) k.ex
theorem ds_par {i j : Nat} {x y : Str} {f : Rho → WD (List D)} {px py pt : Pos} {kt k2 pt2} (hc : X.calm = true) (hN : X.N.Nodup) (ha : DA O X E [a, b] f) (hw : swappedStores [.Tuple [.Name x px, .Name y py] kt pt] (.Tuple [a, b] k2 pt2) X.env = pure (some [x, y]))
    (hi : X.N[i]? = some x := by rfl) (hj : X.N[j]? = some y := by rfl) (hij : i ≠ j := by decide)
    (hx : X.env.scope.names.lookup x = some .local := by rfl) (hy : X.env.scope.names.lookup y = some .local := by rfl)
    (hs : swapsWithSole [.Tuple [.Name x px, .Name y py] kt pt] (.Tuple [a, b] k2 pt2) pos.line X.env = pure false := by rfl) :
    DS O X E (.Assign [.Tuple [.Name x px, .Name y py] kt pt] (.Tuple [a, b] k2 pt2) pos) (sPar i j f) := by
  obtain ⟨t, a1, a2⟩ := ha
  refine ⟨_, ps_par hc hN hi hj hij hx hy a1 hw hs, fun H0 P0 Γ σ H own k D hd r hf l => a2 _ _ σ H _ _ _ (r.dom hd) r.rs hf (fun vs ds H' s h _ q => ?_) (l.exH r)⟩
  cases h with
  | nil => exact q.elim
  | cons h1 h =>
    cases h with
    | nil => exact q.elim
    | cons h2 h =>
      cases h with
      | nil => exact ⟨_, _, rfl, l.nx _ _ _ _ (((r.step s).set h1).set h2) q⟩
      | cons _ _ => exact q.elim
/-- e -/
def sDrop (f : Rho → WD D) : FS := fun Γ k => f (full Γ) (fun _ => k.nx Γ) k.ex
theorem ds_expr (h : DE O X E e f) (hs : swapsWith e none pos.line X.env = pure false := by rfl) : DS O X E (.Expr e pos) (sDrop f) := by
  obtain ⟨t, h1, h2⟩ := h
  exact ⟨_, ps_expr h1 hs, fun H0 P0 Γ σ H own k D hd r hf l => h2 P0 _ σ H _ _ _ (hd.same r.same) (r.full hd) hf (fun v d H' s h q => l.nx _ _ _ _ (r.step s) q) (l.exH r)⟩
/-- if -/
def sIf (c : Rho → WD Bool) (F G : FS) : FS := fun Γ k => c (full Γ) (fun b => if b = true then F Γ k else G Γ k) k.ex
theorem ds_if {c : Expr} {fc : Rho → WD Bool} {sa sb : List Stmt} (h : DT O X E c fc) (ha : DSs O X E sa F) (hb : DSs O X E sb G) : DS O X E (.If c sa sb pos) (sIf fc F G) := by
  obtain ⟨t, h1, h2⟩ := h
  obtain ⟨ta, a1, a2⟩ := ha
  obtain ⟨tb, b1, b2⟩ := hb
  refine ⟨_, ps_if h1 a1 b1, fun H0 P0 Γ σ H own k D hd r hf l => h2 P0 _ σ H _ _ _ (hd.same r.same) (r.full hd) hf (fun b H' s q => ?_) (l.exH r)⟩
  cases b with
  | true => exact a2 H0 P0 Γ σ H' own k D hd (r.step s) q l
  | false => exact b2 H0 P0 Γ σ H' own k D hd (r.step s) q l
/-- x += e, whole numbers -/
def sAug (i : Nat) (g : Int → Int → Int) (f : Rho → WD D) : FS := fun Γ k => match (full Γ)[i]? with
  | some (some (.int a)) => f (full Γ) (fun d => match d with
    | .int b => k.nx (Γ.set i (some (.val (.int (g a b)))))
    | _ => False) k.ex
  | _ => False
theorem ds_aug (i : Nat) {x : Str} {op : Operator} {g : Int → Int → Int} {pos' : Pos} (hN : X.N.Nodup) (h : DE O X E e f) (ho : PIp X op (ipI g)) (hi : X.N[i]? = some x := by rfl) (hx : Loc X.env.scope x := by first | exact Or.inl rfl | exact Or.inr rfl)
    (hf : X.fn x = true ∨ X.env.scope.names.lookup x = some .local := by first | exact .inl rfl | exact .inr rfl | assumption) : DS O X E (.AugAssign (.Name x pos') op e pos) (sAug i g f) := by
  obtain ⟨t, h1, h2⟩ := h
  refine ⟨_, ps_aug (i := i) hN hi hx h1 ho hf, fun H0 P0 Γ σ H own k D hd r hf l => ?_⟩
  unfold sAug at hf
  split at hf
  · rename_i a e
    obtain ⟨v, e1, hv⟩ := (r.full hd).get i _ e
    cases hv
    refine ⟨_, e1, h2 P0 _ σ H _ _ _ (hd.same r.same) (r.full hd) hf (fun v d H' s h q => ?_) (l.exH r)⟩
    cases h with
    | int b => exact ⟨a, b, rfl, rfl, l.nx _ _ _ _ ((r.step s).set (.int _)) q⟩
    | _ => exact q.elim
  · exact hf.elim
/-! ### for -/
def forLoop (T : Tg) (F : FS) (k : KS) : List D → Env → Prop
  | [], Γ => k.nx Γ
  | x :: xs, Γ => orStuck (bindT T x) fun l => F (setV Γ l) { k with nx := forLoop T F k xs, ct := forLoop T F k xs, bk := k.nx }
def sFor (fi : Rho → WD (List D)) (T : Tg) (F : FS) : FS := fun Γ k => fi (clean Γ) (fun xs => forLoop T F k xs Γ) k.ex
/-- what is not one's own -/
noncomputable def froz (own : Nat → Option Addr) (H : Hp) : Hp := fun a => @ite _ (∃ i, own i = some a) (Classical.propDecidable _) none (H a)
theorem froz_of {a : Addr} {o : HO} (e : H a = some o) (n : ¬ ∃ i, own i = some a) : froz own H a = some o := by
  unfold froz
  rw [if_neg n]
  exact e
theorem of_froz {a : Addr} {o : HO} (e : froz own H a = some o) : H a = some o ∧ ¬ ∃ i, own i = some a := by
  unfold froz at e
  by_cases h : ∃ i, own i = some a
  · rw [if_pos h] at e
    cases e
  · rw [if_neg h] at e
    exact ⟨e, h⟩
theorem froz_none {a : Addr} (e : froz own H a = none) : (∃ i, own i = some a) ∨ H a = none := by
  unfold froz at e
  by_cases h : ∃ i, own i = some a
  · exact .inl h
  · rw [if_neg h] at e
    exact .inr e
theorem Rg.froz0 (r : Rg O K H0 P0 Γ σ H own) : Same H0 (froz own H) := fun a o e => froz_of (r.same a o e) fun ⟨i, z⟩ => by
  rw [(r.fresh i a z).1] at e
  cases e
/-- seen from what is not one's own -/
theorem Rg.deep (r : Rg O K H0 P0 Γ σ H own) : Rg O K (froz own H) P0 Γ σ H own :=
  ⟨fun a o e => (of_froz e).1, r.inj, fun i a e => ⟨by
    cases q : froz own H a with
    | none => rfl
    | some o => exact absurd ⟨i, e⟩ (of_froz q).2, (r.fresh i a e).2⟩, r.rs, r.ow⟩
theorem Rg.back {H1 : Hp} {own1 : Nat → Option Addr} (s : Same H0 H1) (r : Rg O K H1 P0 Γ σ H own1) : Rg O K H0 P0 Γ σ H own1 :=
  ⟨s.trans r.same, r.inj, fun i a e => ⟨s.free (r.fresh i a e).1, (r.fresh i a e).2⟩, r.rs, r.ow⟩
theorem Rg.dom0 (r : Rg O K H0 P0 Γ σ H own) (hd : Dom H0 P0) : Dom (froz own H) P0 := hd.same r.froz0
theorem ds_for {tg iter : Expr} {body : List Stmt} {fi : Rho → WD (List D)} {T : Tg} (hp : PassesOwn (model X.prog X.w) X.A X.env X.xe) (hc : X.calm = true) (hi : DI O X E tg iter fi) (hg : DG O X tg T) (hb : DSs O X E body F)
    (hs : ∀ x, foldedSetIterable iter X.env x = pure x := by intro _; rfl) : DS O X E (.For tg iter body [] pos) (sFor fi T F) := by
  obtain ⟨wi, i1, i2⟩ := hi
  obtain ⟨g, g1, g2⟩ := hg
  obtain ⟨tb, b1, b2⟩ := hb
  refine ⟨_, ps_for hp hc i1 g1 b1 hs, fun H0 P0 Γ σ H own k D hd r hf l => i2 _ _ σ H _ _ _ (r.dom hd) r.rs hf (fun J xs H1 s1 dv q => ?_) (l.exH r)⟩
  have r1 := r.step s1
  have s01 := r1.froz0
  have hd1 := r1.dom0 hd
  refine ⟨fun i m σ2 H2 => m = xs.length - i ∧ i ≤ xs.length ∧ ∃ Γ2 own2, Rg O X.K (froz own H1) P0 Γ2 σ2 H2 own2 ∧ forLoop T F k (xs.drop i) Γ2,
    ⟨xs.length, by simp, Nat.zero_le _, Γ, own, r1.deep, q⟩, ?_⟩
  rintro i m σ2 H2 ⟨rfl, hi, Γ2, own2, r2, lp⟩
  have pp : ∀ a, Pw P0 own a → Pw P0 own a ∨ Pw P0 own2 a := fun a z => .inl z
  have hp : ∀ a, (Pw P0 own a ∨ Pw P0 own2 a) → Pw P0 own a ∨ H1 a = none := fun a z => by
    rcases z with z | z | ⟨j, z⟩
    · exact .inl z
    · exact .inl (.inl z)
    · rcases froz_none (r2.fresh j a z).1 with w | w
      · exact .inl (.inr w)
      · exact .inr w
  have kf : Kf (fun a => Pw P0 own a ∨ Pw P0 own2 a) H1 H2 := fun a o e n => r2.same a o (froz_of e fun z => n (.inl (.inr z)))
  have dr := dv _ H2 pp hp kf
  by_cases hlt : i < xs.length
  · refine .inr ⟨dr.go i hlt, fun σ' H' => ∃ Γ' own', Rg O X.K (froz own H1) P0 Γ' σ' H' own' ∧ forLoop T F k (xs.drop (i + 1)) Γ', fun σ' H' h => ⟨xs.length - (i + 1), by omega, rfl, hlt, h⟩, fun x H3 y => ?_⟩
    obtain ⟨d, ed⟩ := get_lt hlt
    obtain ⟨s3, hx⟩ := dr.yld i x H3 d y ed
    obtain ⟨hi', ed'⟩ := List.getElem?_eq_some_iff.mp ed
    rw [List.drop_eq_getElem_cons hi', ed'] at lp
    obtain ⟨lb, eb, q2⟩ := of_orStuck lp
    refine g2 (Pw P0 own2) σ2 H3 x d lb _ (hx.less fun a z => .inr z) eb fun a ha => b2 _ P0 _ _ H3 own2 _ _ hd1 (Rg.many ha (r2.step s3)) q2 ?_
    exact ⟨fun Γ' σ' H' own' r' q' => ⟨Γ', own', r', q'⟩, fun v d H' s h q' => l.rt v d H' (s01.trans s) h q', fun Γ' σ' H' own' r' q' => l.nx _ _ _ _ (r'.back s01) q', fun Γ' σ' H' own' r' q' => ⟨Γ', own', r', q'⟩, l.ex.same s01⟩
  · have e : i = xs.length := by omega
    subst e
    rw [List.drop_length] at lp
    exact .inl ⟨dr.stop _ (Nat.le_refl _), l.nx _ _ _ _ (r2.back s01) lp⟩
/-! ### while -/
def whLoop (c : Rho → WD Bool) (F : FS) (k : KS) : Nat → Env → Prop
  | 0, _ => False
  | n + 1, Γ => c (full Γ) (fun b => if b = true then F Γ { k with nx := whLoop c F k n, ct := whLoop c F k n, bk := k.nx } else k.nx Γ) k.ex
def sWhile (c : Rho → WD Bool) (F : FS) : FS := fun Γ k => ∃ n, whLoop c F k n Γ
theorem ds_while {c : Expr} {fc : Rho → WD Bool} {body : List Stmt} (hp : PassesOwn (model X.prog X.w) X.A X.env X.xe) (hc : DT O X E c fc) (hb : DSs O X E body F) : DS O X E (.While c body [] pos) (sWhile fc F) := by
  obtain ⟨t, h1, h2⟩ := hc
  obtain ⟨tb, b1, b2⟩ := hb
  refine ⟨_, ps_while hp h1 b1, fun H0 P0 Γ σ H own k D hd r hf l => ?_⟩
  obtain ⟨n, hf⟩ := hf
  refine ⟨fun m σ2 H2 => ∃ Γ2 own2, Rg O X.K H0 P0 Γ2 σ2 H2 own2 ∧ whLoop fc F k m Γ2, ⟨n, Γ, own, r, hf⟩, ?_⟩
  rintro m σ2 H2 ⟨Γ2, own2, r2, lp⟩
  cases m with
  | zero => exact lp.elim
  | succ m =>
    refine h2 P0 _ σ2 H2 _ _ _ (hd.same r2.same) (r2.full hd) lp (fun b H3 s3 q3 => ?_) (l.exH r2)
    cases b with
    | true =>
      refine ⟨fun σ' H' => ∃ Γ' own', Rg O X.K H0 P0 Γ' σ' H' own' ∧ whLoop fc F k m Γ', fun σ' H' h => ⟨m, Nat.lt_succ_self m, h⟩, b2 H0 P0 Γ2 σ2 H3 own2 _ _ hd (r2.step s3) q3 ?_⟩
      exact ⟨fun Γ' σ' H' own' r' q' => ⟨Γ', own', r', q'⟩, l.rt, l.nx, fun Γ' σ' H' own' r' q' => ⟨Γ', own', r', q'⟩, l.ex⟩
    | false => exact l.nx _ _ _ _ (r2.step s3) q3
/-! ### lists of one's own -/
theorem Rg.grow (r : Rg O K H0 P0 Γ σ H own) {i : Nat} {p : Addr} {o' : HO} {c c' : OwnC} (e : Γ[i]? = some (some (.own c))) (eo : own i = some p) (es : σ[i]? = some (some (.ref p))) (mo : Mb o')
    (hc : (∀ {vs : List V} {ds : List D}, DvAll O K H (Pw P0 own) vs ds → DvAll O K (upd H p o') (Pw P0 own) vs ds) → OwnOk O K (upd H p o') (Pw P0 own) p c') : Rg O K H0 P0 (Γ.set i (some (.own c'))) σ (upd H p o') own := by
  obtain ⟨hn, ws, ep, mw⟩ := r.fresh i p eo
  have nl : Nl H (upd H p o') := fun a o ea m => by
    have : a ≠ p := fun z => by
      subst z
      rw [ep] at ea
      cases ea
      exact m mw
    rw [upd_ne this]
    exact ea
  have ls : ∀ a o, H a = some o → Mb o → ¬ Pw P0 own a → upd H p o' a = some o := fun a o ea m n => by
    have : a ≠ p := fun z => n (.inr ⟨i, by rw [z]; exact eo⟩)
    rw [upd_ne this]
    exact ea
  have kp : ∀ {v : V} {d : D}, Dv O K H (Pw P0 own) v d → Dv O K (upd H p o') (Pw P0 own) v d := fun h => h.keep nl ls fun _ _ _ q => q
  have kpA : ∀ {v : List V} {d : List D}, DvAll O K H (Pw P0 own) v d → DvAll O K (upd H p o') (Pw P0 own) v d := fun h => h.keep nl ls fun _ _ _ q => q
  have hil : i < Γ.length := (List.getElem?_eq_some_iff.mp e).1
  refine ⟨fun a o ea => ?_, r.inj, fun j a ea => ?_, ⟨by rw [r.rs.len]; simp [clean], fun j d ej => ?_⟩, fun j zs ej => ?_⟩
  · have : a ≠ p := fun z => by
      rw [z, hn] at ea
      cases ea
    rw [upd_ne this]
    exact r.same a o ea
  · obtain ⟨h1, us, h2, m2⟩ := r.fresh j a ea
    by_cases hp : a = p
    · subst hp
      exact ⟨h1, o', upd_same, mo⟩
    · exact ⟨h1, us, by rw [upd_ne hp]; exact h2, m2⟩
  · unfold clean at ej
    rw [List.map_set] at ej
    by_cases hj : i = j
    · subst hj
      rw [List.getElem?_set_self (by simpa using hil)] at ej
      cases ej
    · rw [List.getElem?_set_ne hj] at ej
      obtain ⟨v, e2, h2⟩ := r.rs.get j d ej
      exact ⟨v, e2, kp h2⟩
  · by_cases hj : i = j
    · subst hj
      rw [List.getElem?_set_self hil] at ej
      cases ej
      exact ⟨p, eo, es, hc kpA⟩
    · rw [List.getElem?_set_ne hj] at ej
      obtain ⟨q, e2, e3, e4⟩ := r.ow j zs ej
      have : q ≠ p := fun z => hj (r.inj i j p eo (by rw [← z]; exact e2))
      exact ⟨q, e2, e3, e4.to kpA fun o e _ => by rw [upd_ne this]; exact e⟩
/-- x.append(e) -/
def ownAt (Γ : Env) (i : Nat) (Q : List D → Prop) : Prop := match Γ[i]? with
  | some (some (.own (.lst xs))) => Q xs
  | _ => False
theorem of_ownAt {i : Nat} {Q : List D → Prop} (h : ownAt Γ i Q) : ∃ xs, Γ[i]? = some (some (.own (.lst xs))) ∧ Q xs := by
  unfold ownAt at h
  split at h
  · exact ⟨_, by assumption, h⟩
  · exact h.elim
def sApp (i : Nat) (f : Rho → WD D) : FS := fun Γ k => ownAt Γ i fun xs => f (clean Γ) (fun d => xs.length < 1000000 ∧ k.nx (Γ.set i (some (.own (.lst (xs ++ [d])))))) k.ex
def sAppP (i : Nat) (f : Rho → WD D) : FS := fun Γ k => ownAt Γ i fun xs => f (full Γ) (fun d => pureD d = true ∧ xs.length < 1000000 ∧ k.nx (Γ.set i (some (.own (.lst (xs ++ [d])))))) k.ex
def sExt (i : Nat) (f : Rho → WD D) : FS := fun Γ k => ownAt Γ i fun xs => f (clean Γ) (fun d => match d with
  | .list ys => xs.length + ys.length ≤ 1000000 ∧ k.nx (Γ.set i (some (.own (.lst (xs ++ ys)))))
  | _ => False) k.ex
def sExtP (i : Nat) (f : Rho → WD D) : FS := fun Γ k => ownAt Γ i fun xs => f (full Γ) (fun d => match d with
  | .list ys => pureD.pureAll ys = true ∧ xs.length + ys.length ≤ 1000000 ∧ k.nx (Γ.set i (some (.own (.lst (xs ++ ys)))))
  | _ => False) k.ex
section
variable {apos cpos npos : Pos} {x : Str}
theorem ds_app (i : Nat) (h : DE O X E e f) (hN : X.N[i]? = some x := by rfl) (hv : Vis X.env.scope x := by first | exact Or.inl rfl | exact Or.inr (Or.inl rfl) | exact Or.inr (Or.inr rfl)) (hdd : (x == ("__debug__" : Str)) = false := by decide) (hcd : (x == ("__classdict__" : Str)) = false := by decide)
    (hse : starEach [e] X.env = (false, eval e X.env) :: starEach [] X.env := by rfl)
    (hbase : attributeBase (.Name x npos) "append" X.env (eval (.Name x npos) X.env) = eval (.Name x npos) X.env := by rfl)
    (hfew : ((backTo cpos (starEach [e] X.env)).all (fun x => !x.1) && (backToKw cpos (keywordEach [] X.env)).all (fun x => x.1.isSome) && decide ([e].length + ([] : List Keyword).length + (if ([] : List Keyword).isEmpty then 0 else 1) < 30)) = true := by rfl)
    (hline : (apos.endLine == cpos.line) = true := by rfl) (hs : swapsWith (.Call (.Attribute (.Name x npos) "append" apos) [e] [] cpos) none pos.line X.env = pure false := by rfl) :
    DS O X E (.Expr (.Call (.Attribute (.Name x npos) "append" apos) [e] [] cpos) pos) (sApp i f) := by
  obtain ⟨t, h1, h2⟩ := h
  have pA : PA X [e] (tCons t tNil) := pa_cons h1 pa_nil hse
  refine ⟨_, ps_expr (pe_bm PySem.F.plainAttrs_list PySem.F.slot_list_append PySem.F.type_list_append mt_append (pe_var hN hv hdd hcd) pA hbase hfew hline hse) hs, fun H0 P0 Γ σ H own k D hd r hf l => ?_⟩
  obtain ⟨xs, eg, hf⟩ := of_ownAt hf
  obtain ⟨p, eo, es, vs, ep, hv⟩ := r.ow i (.lst xs) eg
  refine ⟨.ref p, es, .inl ⟨rfl, vs, .inl (.inl ep)⟩, h2 _ _ σ H _ _ _ (r.dom hd) r.rs hf (fun v d H' s h q => ?_) (l.exH r)⟩
  exact ⟨p, vs, v, rfl, rfl, s _ _ ep, by rw [hv.length]; exact Nat.lt_trans q.1 (by decide), l.nx _ _ _ _ ((r.step s).grow (c' := .lst _) eg eo es (.inl ⟨_, rfl⟩) fun f => ⟨_, upd_same, f ((hv.same s).append (.cons h .nil))⟩) q.2⟩
theorem ds_appP (i : Nat) (h : DE O X E e f) (hN : X.N[i]? = some x := by rfl) (hv : Vis X.env.scope x := by first | exact Or.inl rfl | exact Or.inr (Or.inl rfl) | exact Or.inr (Or.inr rfl)) (hdd : (x == ("__debug__" : Str)) = false := by decide) (hcd : (x == ("__classdict__" : Str)) = false := by decide)
    (hse : starEach [e] X.env = (false, eval e X.env) :: starEach [] X.env := by rfl)
    (hbase : attributeBase (.Name x npos) "append" X.env (eval (.Name x npos) X.env) = eval (.Name x npos) X.env := by rfl)
    (hfew : ((backTo cpos (starEach [e] X.env)).all (fun x => !x.1) && (backToKw cpos (keywordEach [] X.env)).all (fun x => x.1.isSome) && decide ([e].length + ([] : List Keyword).length + (if ([] : List Keyword).isEmpty then 0 else 1) < 30)) = true := by rfl)
    (hline : (apos.endLine == cpos.line) = true := by rfl) (hs : swapsWith (.Call (.Attribute (.Name x npos) "append" apos) [e] [] cpos) none pos.line X.env = pure false := by rfl) :
    DS O X E (.Expr (.Call (.Attribute (.Name x npos) "append" apos) [e] [] cpos) pos) (sAppP i f) := by
  obtain ⟨t, h1, h2⟩ := h
  have pA : PA X [e] (tCons t tNil) := pa_cons h1 pa_nil hse
  refine ⟨_, ps_expr (pe_bm PySem.F.plainAttrs_list PySem.F.slot_list_append PySem.F.type_list_append mt_append (pe_var hN hv hdd hcd) pA hbase hfew hline hse) hs, fun H0 P0 Γ σ H own k D hd r hf l => ?_⟩
  obtain ⟨xs, eg, hf⟩ := of_ownAt hf
  obtain ⟨p, eo, es, vs, ep, hv⟩ := r.ow i (.lst xs) eg
  refine ⟨.ref p, es, .inl ⟨rfl, vs, .inl (.inl ep)⟩, h2 P0 _ σ H _ _ _ (hd.same r.same) (r.full hd) hf (fun v d H' s h q => ?_) (l.exH r)⟩
  exact ⟨p, vs, v, rfl, rfl, s _ _ ep, by rw [hv.length]; exact Nat.lt_trans q.2.1 (by decide), l.nx _ _ _ _ ((r.step s).grow (c' := .lst _) eg eo es (.inl ⟨_, rfl⟩) fun f => ⟨_, upd_same, f ((hv.same s).append (.cons (h.pure q.1) .nil))⟩) q.2.2⟩
theorem ds_ext (i : Nat) (h : DE O X E e f) (hN : X.N[i]? = some x := by rfl) (hv : Vis X.env.scope x := by first | exact Or.inl rfl | exact Or.inr (Or.inl rfl) | exact Or.inr (Or.inr rfl)) (hdd : (x == ("__debug__" : Str)) = false := by decide) (hcd : (x == ("__classdict__" : Str)) = false := by decide)
    (hse : starEach [e] X.env = (false, eval e X.env) :: starEach [] X.env := by rfl)
    (hbase : attributeBase (.Name x npos) "extend" X.env (eval (.Name x npos) X.env) = eval (.Name x npos) X.env := by rfl)
    (hfew : ((backTo cpos (starEach [e] X.env)).all (fun x => !x.1) && (backToKw cpos (keywordEach [] X.env)).all (fun x => x.1.isSome) && decide ([e].length + ([] : List Keyword).length + (if ([] : List Keyword).isEmpty then 0 else 1) < 30)) = true := by rfl)
    (hline : (apos.endLine == cpos.line) = true := by rfl) (hs : swapsWith (.Call (.Attribute (.Name x npos) "extend" apos) [e] [] cpos) none pos.line X.env = pure false := by rfl) :
    DS O X E (.Expr (.Call (.Attribute (.Name x npos) "extend" apos) [e] [] cpos) pos) (sExt i f) := by
  obtain ⟨t, h1, h2⟩ := h
  have pA : PA X [e] (tCons t tNil) := pa_cons h1 pa_nil hse
  refine ⟨_, ps_expr (pe_bm PySem.F.plainAttrs_list PySem.F.slot_list_extend PySem.F.type_list_extend mt_extend (pe_var hN hv hdd hcd) pA hbase hfew hline hse) hs, fun H0 P0 Γ σ H own k D hd r hf l => ?_⟩
  obtain ⟨xs, eg, hf⟩ := of_ownAt hf
  obtain ⟨p, eo, es, vs, ep, hv⟩ := r.ow i (.lst xs) eg
  refine ⟨.ref p, es, .inl ⟨rfl, vs, .inl (.inl ep)⟩, h2 _ _ σ H _ _ _ (r.dom hd) r.rs hf (fun v d H' s h q => ?_) (l.exH r)⟩
  cases h with
  | lst e1 n1 r1 =>
    rename_i b ws ys
    refine ⟨p, _, vs, _, rfl, rfl, s _ _ ep, e1, ?_, l.nx _ _ _ _ ((r.step s).grow (c' := .lst _) eg eo es (.inl ⟨_, rfl⟩) fun f => ⟨_, upd_same, f ((hv.same s).append r1)⟩) q.2⟩
    rw [hv.length, r1.length]
    exact Nat.le_trans q.1 (by decide)
  | _ => exact q.elim
theorem ds_extP (i : Nat) (h : DE O X E e f) (hN : X.N[i]? = some x := by rfl) (hv : Vis X.env.scope x := by first | exact Or.inl rfl | exact Or.inr (Or.inl rfl) | exact Or.inr (Or.inr rfl)) (hdd : (x == ("__debug__" : Str)) = false := by decide) (hcd : (x == ("__classdict__" : Str)) = false := by decide)
    (hse : starEach [e] X.env = (false, eval e X.env) :: starEach [] X.env := by rfl)
    (hbase : attributeBase (.Name x npos) "extend" X.env (eval (.Name x npos) X.env) = eval (.Name x npos) X.env := by rfl)
    (hfew : ((backTo cpos (starEach [e] X.env)).all (fun x => !x.1) && (backToKw cpos (keywordEach [] X.env)).all (fun x => x.1.isSome) && decide ([e].length + ([] : List Keyword).length + (if ([] : List Keyword).isEmpty then 0 else 1) < 30)) = true := by rfl)
    (hline : (apos.endLine == cpos.line) = true := by rfl) (hs : swapsWith (.Call (.Attribute (.Name x npos) "extend" apos) [e] [] cpos) none pos.line X.env = pure false := by rfl) :
    DS O X E (.Expr (.Call (.Attribute (.Name x npos) "extend" apos) [e] [] cpos) pos) (sExtP i f) := by
  obtain ⟨t, h1, h2⟩ := h
  have pA : PA X [e] (tCons t tNil) := pa_cons h1 pa_nil hse
  refine ⟨_, ps_expr (pe_bm PySem.F.plainAttrs_list PySem.F.slot_list_extend PySem.F.type_list_extend mt_extend (pe_var hN hv hdd hcd) pA hbase hfew hline hse) hs, fun H0 P0 Γ σ H own k D hd r hf l => ?_⟩
  obtain ⟨xs, eg, hf⟩ := of_ownAt hf
  obtain ⟨p, eo, es, vs, ep, hv⟩ := r.ow i (.lst xs) eg
  refine ⟨.ref p, es, .inl ⟨rfl, vs, .inl (.inl ep)⟩, h2 P0 _ σ H _ _ _ (hd.same r.same) (r.full hd) hf (fun v d H' s h q => ?_) (l.exH r)⟩
  cases h with
  | lst e1 n1 r1 =>
    rename_i b ws ys
    refine ⟨p, _, vs, _, rfl, rfl, s _ _ ep, e1, ?_, l.nx _ _ _ _ ((r.step s).grow (c' := .lst _) eg eo es (.inl ⟨_, rfl⟩) fun f => ⟨_, upd_same, f ((hv.same s).append (r1.pure q.1))⟩) q.2.2⟩
    rw [hv.length, r1.length]
    exact Nat.le_trans q.2.1 (by decide)
  | _ => exact q.elim
end
/-- a list of one's own is one's own no longer -/
def frz (i : Nat) (Γ : Env) : Env := Γ.modify i fun o => match o with
  | some (.own c) => some (.val (dataOf c))
  | o => o
def sFrz (i : Nat) (F : FS) : FS := fun Γ k => F (frz i Γ) k
def ownDel (own : Nat → Option Addr) (i : Nat) : Nat → Option Addr := fun j => if j = i then none else own j
theorem ownDel_self (own : Nat → Option Addr) (i : Nat) : ownDel own i i = none := if_pos rfl
theorem ownDel_ne {own : Nat → Option Addr} {i j : Nat} (h : j ≠ i) : ownDel own i j = own j := if_neg h
theorem Rg.frz (r : Rg O K H0 P0 Γ σ H own) (hd : Dom H0 P0) (i : Nat) : Rg O K H0 P0 (DL.frz i Γ) σ H (ownDel own i) := by
  have sub : ∀ a, Pw P0 (ownDel own i) a → Pw P0 own a := fun a z => by
    rcases z with z | ⟨j, z⟩
    · exact .inl z
    · by_cases hj : j = i
      · subst hj
        rw [ownDel_self] at z
        cases z
      · rw [ownDel_ne hj] at z
        exact .inr ⟨j, z⟩
  have ge : ∀ j, (DL.frz i Γ)[j]? = if i = j then (Γ[j]?).map (fun o => match o with | some (.own c) => some (.val (dataOf c)) | o => o) else Γ[j]? := fun j => by
    unfold DL.frz
    rw [List.getElem?_modify]
    by_cases hj : i = j
    · simp only [hj, if_true]
      rfl
    · simp [hj]
  refine ⟨r.same, fun j k a e1 e2 => ?_, fun j a e1 => ?_, ⟨by rw [r.rs.len]; simp [clean, DL.frz], fun j d e1 => ?_⟩, fun j ys e1 => ?_⟩
  · by_cases hj : j = i
    · subst hj
      rw [ownDel_self] at e1
      cases e1
    · rw [ownDel_ne hj] at e1
      by_cases hk : k = i
      · subst hk
        rw [ownDel_self] at e2
        cases e2
      · rw [ownDel_ne hk] at e2
        exact r.inj j k a e1 e2
  · by_cases hj : j = i
    · subst hj
      rw [ownDel_self] at e1
      cases e1
    · rw [ownDel_ne hj] at e1
      exact r.fresh j a e1
  · unfold clean at e1
    rw [List.getElem?_map, ge] at e1
    by_cases hj : i = j
    · subst hj
      rw [if_pos rfl] at e1
      cases q : Γ[i]? with
      | none =>
        rw [q] at e1
        cases e1
      | some o =>
        rw [q] at e1
        cases o with
        | none => cases e1
        | some t =>
          cases t with
          | val d' =>
            obtain ⟨v, e2, h2⟩ := r.rs.get i d (by unfold clean; rw [List.getElem?_map, q]; exact e1)
            exact ⟨v, e2, h2.less sub⟩
          | own c =>
            cases e1
            obtain ⟨p, eo, es, hv⟩ := r.ow i c q
            refine ⟨.ref p, es, (hv.less sub).dv fun z => ?_⟩
            rcases z with z | ⟨j, z⟩
            · obtain ⟨o, eo', _⟩ := hd p z
              rw [(r.fresh i p eo).1] at eo'
              cases eo'
            · by_cases hj : j = i
              · subst hj
                rw [ownDel_self] at z
                cases z
              · rw [ownDel_ne hj] at z
                exact hj (r.inj j i p z eo)
    · rw [if_neg hj] at e1
      obtain ⟨v, e2, h2⟩ := r.rs.get j d (by unfold clean; rw [List.getElem?_map]; exact e1)
      exact ⟨v, e2, h2.less sub⟩
  · rw [ge] at e1
    by_cases hj : i = j
    · subst hj
      rw [if_pos rfl] at e1
      cases q : Γ[i]? with
      | none =>
        rw [q] at e1
        cases e1
      | some o =>
        rw [q] at e1
        cases o with
        | none => cases e1
        | some t => cases t <;> cases e1
    · rw [if_neg hj] at e1
      obtain ⟨p, eo, es, hv⟩ := r.ow j ys e1
      exact ⟨p, by rw [ownDel_ne (fun z => hj z.symm)]; exact eo, es, hv.less sub⟩
theorem dss_frz (i : Nat) {sts : List Stmt} (h : DSs O X E sts F) : DSs O X E sts (sFrz i F) := by
  obtain ⟨t, h1, h2⟩ := h
  exact ⟨t, h1, fun H0 P0 Γ σ H own k D hd r hf l => h2 H0 P0 _ σ H _ k D hd (r.frz hd i) hf l⟩
/-! ### a def -/
def startE (n : Nat) (ds : List D) : Env := ds.map (fun d => some (.val d)) ++ List.replicate (n - ds.length) none
def fnD (n : Nat) (F : FS) : List D → WD D := fun ds Q Ed => F (startE n ds) { nx := fun _ => Q .none, rt := Q, ex := Ed }
def fn0 (n : Nat) (F : FS) : List D → WD D := fun ds Q _ => F (startE n ds) { nx := fun _ => Q .none, rt := Q }
theorem start_rg {N : List Str} {vs : List V} {ds : List D} {P : Addr → Prop} (h : DvAll O K H P vs ds) : Rg O K H P (startE N.length ds) (start N vs) H (fun _ => none) := by
  have hl := h.length
  refine ⟨Same.refl H, fun _ _ _ e => (nomatch e), fun _ _ e => (nomatch e), ⟨by simp [L2.start, startE, clean, hl], fun i d e => ?_⟩, fun i xs e => ?_⟩
  · unfold clean startE at e
    rw [List.getElem?_map] at e
    by_cases hi : i < ds.length
    · rw [List.getElem?_append_left (by simpa using hi), List.getElem?_map] at e
      cases q : ds[i]? with
      | none =>
        rw [q] at e
        cases e
      | some d' =>
        rw [q] at e
        cases e
        obtain ⟨v, e1, h1⟩ := h.get q
        refine ⟨v, ?_, h1.less fun a z => ?_⟩
        · unfold L2.start
          rw [List.getElem?_append_left (by simpa [hl] using hi), List.getElem?_map, e1]
          rfl
        · rcases z with z | ⟨_, z⟩
          · exact z
          · cases z
    · rw [List.getElem?_append_right (by simpa using hi), List.getElem?_replicate] at e
      split at e <;> cases e
  · unfold startE at e
    by_cases hi : i < ds.length
    · rw [List.getElem?_append_left (by simpa using hi), List.getElem?_map] at e
      cases q : ds[i]? with
      | none =>
        rw [q] at e
        cases e
      | some d' =>
        rw [q] at e
        cases e
    · rw [List.getElem?_append_right (by simpa using hi), List.getElem?_replicate] at e
      split at e <;> cases e
section
variable {P : Program} {w : World} {mg : Str → Option Value} {base : Heap}
/-- a def that lets nothing out -/
theorem fn_ok {x qual : Str} {st : Stmt} {f : Addr} {fd : FuncData} {N ps : List Str} {k : Nat} {F : FS} (Fu : Fun K x qual st f fd) (S : FnScope N ps (defScope st))
    (hbody : ∀ (cdv : Value) (A : Around) (outer : List PySem.Env) (s : Shared) (H : Hp) (E : XK), Room k (A.deeper (PyProof.Rows.envOfC qual (defScope st) s.heap.objs.size f cdv)) → DSs O (cxOf CX0 P w K mg base N qual (defScope st) f cdv A outer s H E).nox E0 (defBody st) F) :
    FnOk P w K mg base CX0 (k + 1) f fd ps (spD O K mg (fn0 N.length F) ps.length) := by
  refine Fu.ok S (fun vs H Q E h => ?_) (fun cdv A outer s H vs Q E hr h => ?_)
  · obtain ⟨P, ds, Qd, Ed, _, h1, h2, _⟩ := h
    rw [h1.length, h2]
  · obtain ⟨P', ds, Qd, Ed, hd, h1, h2, hf, hQ, hE⟩ := h
    obtain ⟨t, t1, t2⟩ := hbody cdv A outer s H E hr
    refine ⟨t, t1, t2 H P' _ _ H _ { nx := fun _ => Qd .none, rt := Qd } _ hd (start_rg h1) hf ⟨fun Γ σ H' own r q => hQ _ _ H' r.same .non q, fun v d H' s h q => hQ v d H' s h q, fun _ _ _ _ _ q => q.elim, fun _ _ _ _ _ q => q.elim, fun _ _ _ _ _ z => z.elim⟩⟩
end
end
end DL

namespace DL
open PySem PySem.Spec L2
/-- a def of the program, called by its name -/
structure Cal (O : Ob) (P : Program) (w : World) (K : PySem.W.Frag) (mg : Str → Option Value) (base : Heap) (x : Str) (k : Nat) (ps : List Str) (F : List D → WD D) : Prop where
  ex : ∃ (f : Addr) (fd : FuncData), mg x = some (.ref f) ∧ PySem.W.keepIn K (.ref f) = true ∧ Binds K fd ps [] ∧ FnOk P w K mg base CX0 k f fd ps (spD O K mg F ps.length)
abbrev FnT (K : PySem.W.Frag) (mg : Str → Option Value) (x : Str) (st : Stmt) : Prop := ∃ (f : Addr) (fd : FuncData), mg x = some (.ref f) ∧ FunD K x x (defArgs st) (defBody st) (defScope st) [] [] f fd
def Bn (x : Str) (st : Stmt) (ps : List Str) : Prop := ∀ (kV doc pm : Value) (an : Option Addr) (cdv ct : Value) (us : List Value), us.length = ps.length → bindArgs (PySem.W.fnOf x x (defArgs st) (defBody st) (defScope st) .none kV doc pm an cdv ct) ⟨us, []⟩ = pure (ps.zip us)
section
variable {O : Ob} {P : Program} {w : World} {K : PySem.W.Frag} {mg : Str → Option Value} {base : Heap} {X : Cx} {E : XK}
theorem cal_of {x : Str} {st : Stmt} {N ps : List Str} {k : Nat} {F : FS} (h : FnT K mg x st) (S : FnScope N ps (defScope st)) (hb : Bn x st ps)
    (hbody : ∀ (f : Addr) (cdv : Value) (A : Around) (outer : List PySem.Env) (s : Shared) (H : Hp) (E : XK), Room k (A.deeper (PyProof.Rows.envOfC x (defScope st) s.heap.objs.size f cdv)) → DSs O (cxOf CX0 P w K mg base N x (defScope st) f cdv A outer s H E).nox E0 (defBody st) F) :
    Cal O P w K mg base x (k + 1) ps (fn0 N.length F) := by
  obtain ⟨f, fd, hm, hF⟩ := h
  refine ⟨f, fd, hm, hF.kp, hF.bindsN hb, hF.ok S (fun vs H Q E h => ?_) (fun cdv A outer s H vs Q E hr h => ?_)⟩
  · obtain ⟨P, ds, Qd, Ed, _, h1, h2, _⟩ := h
    rw [h1.length, h2]
  · obtain ⟨P', ds, Qd, Ed, hd, h1, h2, hf, hQ, hE⟩ := h
    obtain ⟨t, t1, t2⟩ := hbody f cdv A outer s H E hr
    exact ⟨t, PSs.nox t1, t2 H P' _ _ H _ { nx := fun _ => Qd .none, rt := Qd } _ hd (start_rg h1) hf ⟨fun Γ σ H' own r q => hQ _ _ H' r.same .non q, fun v d H' s h q => hQ v d H' s h q, fun _ _ _ _ _ q => q.elim, fun _ _ _ _ _ q => q.elim, fun _ _ _ _ _ z => z.elim⟩⟩
theorem Cal.mono {x : Str} {j k : Nat} {ps : List Str} {F : List D → WD D} (h : Cal O P w K mg base x j ps F) (hj : j ≤ k) : Cal O P w K mg base x k ps F := by
  obtain ⟨f, fd, a, b, c, d⟩ := h
  exact ⟨f, fd, a, b, c, d.mono hj⟩
/-- a call by name -/
theorem de_fn {x : Str} {k : Nat} {ps : List Str} {F : List D → WD D} {e : Expr} {es : List Expr} {fa : Rho → WD (List D)} {p pos : Pos} (C : Cal O X.prog X.w X.K X.mg X.base x k ps F) {j : Nat} (hr : Room j X.A) (ha : DA O X E0 (e :: es) fa) (hk : k ≤ j := by decide) (hg : Gl X x := by rfl) (hl : ps.length = (e :: es).length := by rfl)
    (hdb : (x == ("__debug__" : Str)) = false := by decide) (he : starEach (e :: es) X.env = (false, eval e X.env) :: starEach es X.env := by rfl) (hpl : (backTo pos (starEach es X.env)).any (·.1) = false := by rfl) :
    DE O X E0 (.Call (.Name x p) (e :: es) [] pos) (eCb F fa) := by
  obtain ⟨f, fd, a, b, c, d⟩ := C
  exact de_call d (hr.mono hk) hg a b c pass0 ha hl hdb he hpl
/-- f() -/
theorem de_fn0 {x : Str} {k : Nat} {F : List D → WD D} {p pos : Pos} (C : Cal O X.prog X.w X.K X.mg X.base x k [] F) {j : Nat} (hr : Room j X.A) (hk : k ≤ j := by decide) (hg : Gl X x := by rfl) (hdb : (x == ("__debug__" : Str)) = false := by decide) :
    DE O X E0 (.Call (.Name x p) [] [] pos) (fun _ Q Ed => F [] Q Ed) := by
  obtain ⟨f, fd, a, b, c, d⟩ := C
  refine ⟨_, pe_call0 d (hr.mono hk) hg a b c (.nil : Vals [] []) pass0 hdb, fun P ρ σ H Qd Ed Q hd hr hf hQ hE => ?_⟩
  exact ⟨P, [], Qd, Ed, hd, .nil, rfl, hf, hQ, fun c a H' s m z => hE c a H' s m z⟩
theorem u65 {k : Nat} {A : Around} (r : Room k A) : A.units + 65 < cLine := by
  have := r.un
  omega
theorem dt_chain {a b c : Expr} {fa fb fc : Rho → WD D} {pos : Pos} {op op' : CmpOp} {r r' : R2} {g g' : D → D → WD D} (ho : OpR X (compareOp op) r) (ho' : OpR X (compareOp op') r') (hg : OpD O X r g) (hg' : OpD O X r' g') (ha : DE O X E a fa) (hb : DE O X E b fb) (hc : DE O X E c fc)
    (hm : lastMarks [op, op'] [b, c] = false := by with_unfolding_all rfl) : DT O X E (.Compare a [op, op'] [b, c] pos) (tB1 (eChain g g' fa fb fc)) := by
  obtain ⟨ta, a1, a2⟩ := ha
  obtain ⟨tb, b1, b2⟩ := hb
  obtain ⟨tc, c1, c2⟩ := hc
  refine ⟨_, pt_chain ho ho' a1 b1 c1 hm, fun P ρ σ H Qd Ed Q hd hr hf hQ hE => a2 P ρ σ H _ Ed _ hd hr hf (fun x d H1 s1 h1 q1 => b2 P ρ σ H1 _ Ed _ (hd.same s1) (hr.same s1) q1 (fun y e H2 s2 h2 q2 =>
    hg P H2 x y d e _ Ed _ ((hd.same s1).same s2) (h1.same s2) h2 q2 fun z k H3 s3 h3 q3 => ?_) (hE.same s1)) hE⟩
  obtain ⟨k, e, q⟩ := bool_of h3 q3
  refine ⟨k, e, ?_⟩
  cases k with
  | true => exact c2 P ρ σ H3 _ Ed _ (((hd.same s1).same s2).same s3) (((hr.same s1).same s2).same s3) q (fun w d' H4 s4 h4 q4 => hg' P H4 y w _ d' _ Ed _ ((((hd.same s1).same s2).same s3).same s4) ((h2.same s3).same s4) h4 q4
      fun v d'' H5 s5 h5 q5 => by
        obtain ⟨b, eb, qb⟩ := bool_of h5 q5
        exact ⟨b, eb, hQ b H5 ((((s1.trans s2).trans s3).trans s4).trans s5) qb⟩) (((hE.same s1).same s2).same s3)
  | false => exact ⟨false, rfl, hQ _ H3 ((s1.trans s2).trans s3) q⟩
/-- a constant: a tuple of words or numbers -/
theorem dv_words {H : Hp} {Pr : Addr → Prop} {ws : List Str} (h : ∀ w ∈ ws, PyData.strOk w = true) : DvAll O K H Pr (ws.map V.str) (ws.map PyData.str) := by
  induction ws with
  | nil => exact .nil
  | cons x r ih => exact .cons (.str x (h x List.mem_cons_self)) (ih fun w hw => h w (List.mem_cons_of_mem _ hw))
end
end DL

namespace DL
open PySem PySem.Spec L2
/-! ### dicts with texts and whole numbers as keys -/
def keyOf : D → Option Key
  | .int i => some (.inl i)
  | .str x => some (.inr x)
  | _ => none
theorem keyOf_kD (k : Key) : keyOf (kD k) = some k := by cases k <;> rfl
def lookG {β : Type} (l : List (Key × β)) (k : Key) : Option β := (l.find? fun kv => decide (kv.1 = k)).map (·.2)
def putG {β : Type} (l : List (Key × β)) (k : Key) (v : β) : List (Key × β) := if (l.any fun kv => decide (kv.1 = k)) = true then l.map (fun kv => if kv.1 = k then (kv.1, v) else kv) else l ++ [(k, v)]
def mergeG {β : Type} (l more : List (Key × β)) : List (Key × β) := more.foldl (fun acc kv => putG acc kv.1 kv.2) l
theorem putG_V (l : List (Key × V)) (k : Key) (v : V) : putG l k v = putK l k v := rfl
theorem mergeG_V (l more : List (Key × V)) : mergeG l more = mergeK l more := rfl
section
variable {O : Ob} {X : Cx} {E : XK} {K : PySem.W.Frag} {H H' : Hp} {P : Addr → Prop}
/-- the same keys, values for data -/
inductive Kds (O : Ob) (K : PySem.W.Frag) (H : Hp) (P : Addr → Prop) : List (Key × V) → List (Key × D) → Prop
  | nil : Kds O K H P [] []
  | cons {k : Key} {v : V} {d : D} {a : List (Key × V)} {b : List (Key × D)} : Dv O K H P v d → Kds O K H P a b → Kds O K H P ((k, v) :: a) ((k, d) :: b)
theorem Kds.of : ∀ {a : List (Key × V)} {b : List (Key × D)}, a.map (·.1) = b.map (·.1) → DvAll O K H P (a.map (·.2)) (b.map (·.2)) → Kds O K H P a b
  | [], [], _, _ => .nil
  | [], _ :: _, e, _ => by cases e
  | _ :: _, [], e, _ => by cases e
  | (k, v) :: a, (k', d) :: b, e, h => by
    injection e with e1 e2
    cases e1
    cases h with
    | cons h1 h2 => exact .cons h1 (Kds.of e2 h2)
theorem Kds.to : ∀ {a : List (Key × V)} {b : List (Key × D)}, Kds O K H P a b → a.map (·.1) = b.map (·.1) ∧ DvAll O K H P (a.map (·.2)) (b.map (·.2))
  | _, _, .nil => ⟨rfl, .nil⟩
  | _, _, .cons h r => ⟨by simp [r.to.1], .cons h r.to.2⟩
theorem Kds.mapD {P' : Addr → Prop} (f : ∀ {v d}, Dv O K H P v d → Dv O K H' P' v d) : ∀ {a : List (Key × V)} {b : List (Key × D)}, Kds O K H P a b → Kds O K H' P' a b
  | _, _, .nil => .nil
  | _, _, .cons h r => .cons (f h) (r.mapD f)
theorem Kds.same {a : List (Key × V)} {b : List (Key × D)} (h : Kds O K H P a b) (s : Same H H') : Kds O K H' P a b := h.mapD fun r => r.same s
theorem Kds.length : ∀ {a : List (Key × V)} {b : List (Key × D)}, Kds O K H P a b → a.length = b.length
  | _, _, .nil => rfl
  | _, _, .cons _ r => congrArg (· + 1) r.length
theorem Kds.look {k : Key} : ∀ {a : List (Key × V)} {b : List (Key × D)} {d : D}, Kds O K H P a b → lookG b k = some d → ∃ v, valV a k = some v ∧ Dv O K H P v d
  | _, _, _, .nil, e => by cases e
  | (j, v) :: a, (_, d') :: b, d, .cons h r, e => by
    by_cases q : j = k
    · subst q
      have e1 : lookG ((j, d') :: b) j = some d' := by simp [lookG, List.find?_cons]
      rw [e1] at e
      cases e
      exact ⟨v, valV_pos rfl, h⟩
    · have e1 : lookG ((j, d') :: b) k = lookG b k := by simp [lookG, List.find?_cons, q]
      rw [e1] at e
      obtain ⟨w, e2, h2⟩ := r.look e
      exact ⟨w, by rw [valV_neg (p := (j, v)) q]; exact e2, h2⟩
theorem Kds.none {k : Key} : ∀ {a : List (Key × V)} {b : List (Key × D)}, Kds O K H P a b → lookG b k = none → valV a k = none
  | _, _, .nil, _ => rfl
  | (j, v) :: a, (_, d') :: b, .cons h r, e => by
    by_cases q : j = k
    · subst q
      simp [lookG, List.find?_cons] at e
    · have e1 : lookG ((j, d') :: b) k = lookG b k := by simp [lookG, List.find?_cons, q]
      rw [e1] at e
      rw [valV_neg (p := (j, v)) q]
      exact r.none e
theorem Kds.any {k : Key} : ∀ {a : List (Key × V)} {b : List (Key × D)}, Kds O K H P a b → (a.any fun kv => decide (kv.1 = k)) = (b.any fun kv => decide (kv.1 = k))
  | _, _, .nil => rfl
  | _, _, .cons _ r => by rw [List.any_cons, List.any_cons, r.any]
theorem Kds.mapPut {k : Key} {w : V} {e : D} (hw : Dv O K H P w e) : ∀ {a : List (Key × V)} {b : List (Key × D)}, Kds O K H P a b → Kds O K H P (a.map fun kv => if kv.1 = k then (kv.1, w) else kv) (b.map fun kv => if kv.1 = k then (kv.1, e) else kv)
  | _, _, .nil => .nil
  | (j, v) :: a, (_, d) :: b, .cons h r => by
    rw [List.map_cons, List.map_cons]
    by_cases q : j = k
    · rw [if_pos q, if_pos q]
      exact .cons hw (r.mapPut hw)
    · rw [if_neg q, if_neg q]
      exact .cons h (r.mapPut hw)
theorem Kds.append : ∀ {a a' : List (Key × V)} {b b' : List (Key × D)}, Kds O K H P a b → Kds O K H P a' b' → Kds O K H P (a ++ a') (b ++ b')
  | _, _, _, _, .nil, h => h
  | _, _, _, _, .cons h r, k => .cons h (r.append k)
theorem Kds.put {k : Key} {w : V} {e : D} {a : List (Key × V)} {b : List (Key × D)} (h : Kds O K H P a b) (hw : Dv O K H P w e) : Kds O K H P (putG a k w) (putG b k e) := by
  unfold putG
  rw [h.any]
  split
  · exact h.mapPut hw
  · exact h.append (.cons hw .nil)
theorem Kds.merge : ∀ {m : List (Key × V)} {n : List (Key × D)} {a : List (Key × V)} {b : List (Key × D)}, Kds O K H P m n → Kds O K H P a b → Kds O K H P (mergeG a m) (mergeG b n)
  | _, _, _, _, .nil, h => h
  | (k, v) :: m, (_, d) :: n, a, b, .cons h r, q => by
    have := Kds.merge (a := putG a k v) (b := putG b k d) r (q.put h)
    exact this
/-- d[k] -/
def dlook (l : List (D × D)) (k : Key) : Option D := (l.find? fun p => decide (keyOf p.1 = some k)).map (·.2)
theorem dlook_E (ds : List (Key × D)) (k : Key) : dlook (ds.map fun p => (kD p.1, p.2)) k = lookG ds k := by
  induction ds with
  | nil => rfl
  | cons p r ih =>
    unfold dlook lookG at *
    rw [List.map_cons, List.find?_cons, List.find?_cons]
    simp only [keyOf_kD, Option.some.injEq]
    by_cases q : p.1 = k
    · simp [q]
    · simp only [q, decide_false]
      exact ih
theorem dlook_Z (ds : List (Key × D)) (k : Key) : dlook ((.bool true, .none) :: ds.map fun p => (kD p.1, p.2)) k = lookG ds k := by
  rw [← dlook_E]
  unfold dlook
  rw [List.find?_cons_of_neg (by simp [keyOf])]
def dgetD : D → D → WD D
  | .dict l, k => fun Q _ => orStuck (keyOf k) fun k => orStuck (dlook l k) Q
  | _, _ => fun _ _ => False
theorem keyOf_ok {v : V} {d : D} {k : Key} (h : Dv O K H P v d) (e : keyOf d = some k) : v = kV k := by
  cases h with
  | int i => cases e; rfl
  | str x _ => cases e; rfl
  | dct => simp [dictE, keyOf] at e
  | dcz => simp [dictZ, keyOf] at e
  | _ => cases e
/-- no object of one's own stands for data with keys -/
structure NoObj (O : Ob) : Prop where
  no : ∀ {K H v ds}, O.ro K H v ds → ∀ p ∈ ds, keyOf p.1 = none
  nz : ∀ {K H v ds}, ¬ O.ro K H v ((.bool true, .none) :: ds)
theorem no_look {l : List (D × D)} {k : Key} (h : ∀ p ∈ l, keyOf p.1 = none) : dlook l k = none := by
  unfold dlook
  rw [List.find?_eq_none.mpr fun p hp => by simp [h p hp]]
  rfl
theorem de_dget {a b : Expr} {fa fb : Rho → WD D} {pos : Pos} (hO : NoObj O) (hu : X.A.units + 65 < cLine) (ha : DE O X E a fa) (hb : DE O X E b fb) (hs : NoSl b) : DE O X E (.Subscript a b pos) (eOp dgetD fa fb) := by
  obtain ⟨ta, a1, a2⟩ := ha
  obtain ⟨tb, b1, b2⟩ := hb
  refine ⟨_, pe_dget (by omega) a1 b1 hs, fun P ρ σ H Qd Ed Q hd hr hf hQ hE => a2 P ρ σ H _ Ed _ hd hr hf (fun x d H1 s1 h1 q1 => b2 P ρ σ H1 _ Ed _ (hd.same s1) (hr.same s1) q1 (fun y e H2 s2 h2 q2 => ?_) (hE.same s1)) hE⟩
  have h1 := h1.same s2
  cases h1 with
  | dct e1 n1 k1 r1 =>
    obtain ⟨k, ek, q⟩ := of_orStuck q2
    obtain ⟨d, ed, q⟩ := of_orStuck q
    rw [dlook_E] at ed
    obtain ⟨v, ev, hv⟩ := (Kds.of k1 r1).look ed
    have := keyOf_ok h2 ek
    subst this
    exact ⟨_, v, rfl, .inl ⟨_, k, .inl e1, rfl, ev.symm⟩, hQ v d H2 (s1.trans s2) hv q⟩
  | dcz e1 k1 r1 =>
    obtain ⟨k, ek, q⟩ := of_orStuck q2
    obtain ⟨d, ed, q⟩ := of_orStuck q
    rw [dlook_Z] at ed
    obtain ⟨v, ev, hv⟩ := (Kds.of k1 r1).look ed
    have := keyOf_ok h2 ek
    subst this
    exact ⟨_, v, rfl, .inl ⟨_, k, .inr ⟨_, e1⟩, rfl, ev.symm⟩, hQ v d H2 (s1.trans s2) hv q⟩
  | obj h =>
    obtain ⟨k, ek, q⟩ := of_orStuck q2
    obtain ⟨d, ed, q⟩ := of_orStuck q
    rw [no_look (hO.no h)] at ed
    cases ed
  | _ => exact q2.elim
/-- {k: v, ..} -/
def DPs (O : Ob) (X : Cx) (E : XK) (pos : Pos) (ks : List (Option Expr)) (vs : List Expr) (f : Rho → WD (List (Key × D))) : Prop := ∃ t, PPs X pos ks vs t ∧ ∀ (P : Addr → Prop) (ρ : Rho) (σ : L2.St) (H : Hp) (Qd : List (Key × D) → Prop) (Ed : Str → Prop) (Q : List (V × V) → Hp → Prop),
  Dom H P → Rs O X.K P ρ σ H → f ρ Qd Ed → (∀ l ds H', Same H H' → Kds O X.K H' P l ds → ds.length = vs.length → Qd ds → Q (l.map fun kv => (kV kv.1, kv.2)) H') → XOk X E H Ed → tPairs t σ H Q
def pNil : Rho → WD (List (Key × D)) := fun _ Q _ => Q []
def pCons (f g : Rho → WD D) (r : Rho → WD (List (Key × D))) : Rho → WD (List (Key × D)) := fun ρ Q Ed => f ρ (fun k => orStuck (keyOf k) fun k => g ρ (fun d => r ρ (fun ds => Q ((k, d) :: ds)) Ed) Ed) Ed
theorem dps_nil {pos : Pos} : DPs O X E pos [] [] pNil := ⟨_, pps_nil, fun P ρ σ H Qd Ed Q hd hr hf hQ hE => hQ [] [] H (Same.refl H) .nil rfl hf⟩
theorem dps_cons {pos : Pos} {k v : Expr} {ks : List (Option Expr)} {vs : List Expr} {f g : Rho → WD D} {r : Rho → WD (List (Key × D))} (hk : DE O X E k f) (hv : DE O X E v g) (hr : DPs O X E pos ks vs r) : DPs O X E pos (some k :: ks) (v :: vs) (pCons f g r) := by
  obtain ⟨tk, k1, k2⟩ := hk
  obtain ⟨tv, v1, v2⟩ := hv
  obtain ⟨t, t1, t2⟩ := hr
  refine ⟨_, pps_cons k1 v1 t1, fun P ρ σ H Qd Ed Q hd hr hf hQ hE => k2 P ρ σ H _ Ed _ hd hr hf (fun x d H1 s1 h1 q1 => ?_) hE⟩
  obtain ⟨kk, ek, q1⟩ := of_orStuck q1
  have := keyOf_ok h1 ek
  subst this
  refine v2 P ρ σ H1 _ Ed _ (hd.same s1) (hr.same s1) q1 (fun y e H2 s2 h2 q2 => t2 P ρ σ H2 _ Ed _ ((hd.same s1).same s2) ((hr.same s1).same s2) q2 (fun l ds H3 s3 h3 l3 q3 => ?_) ((hE.same s1).same s2)) (hE.same s1)
  exact hQ ((kk, y) :: l) _ H3 ((s1.trans s2).trans s3) (.cons (h2.same s3) h3) (congrArg (· + 1) l3) q3
/-- a new dict -/
def DD (O : Ob) (X : Cx) (E : XK) (e : Expr) (f : Rho → WD (List (Key × D))) : Prop := ∃ t, PE X e t ∧ ∀ (P : Addr → Prop) (ρ : Rho) (σ : L2.St) (H : Hp) (Qd : List (Key × D) → Prop) (Ed : Str → Prop) (Q : VK),
  Dom H P → Rs O X.K P ρ σ H → f ρ Qd Ed → (∀ p l ds H', Same H H' → H p = none → H' p = some (.dK l) → Kds O X.K H' (fun a => P a ∨ a = p) l ds → Qd ds → Q (.ref p) H') → XOk X E H Ed → t σ H Q
def eOfD (f : Rho → WD (List (Key × D))) : Rho → WD D := fun ρ Q Ed => f ρ (fun ds => Q (dictE ds)) Ed
theorem DD.de {e : Expr} {f : Rho → WD (List (Key × D))} (h : DD O X E e f) : DE O X E e (eOfD f) := by
  obtain ⟨t, h1, h2⟩ := h
  exact ⟨t, h1, fun P ρ σ H Qd Ed Q hd hr hf hQ hE => h2 P ρ σ H _ Ed Q hd hr hf (fun p l ds H' s n e r q => hQ _ _ H' s (.dct e (hd.new n) r.to.1 ((r.mapD fun h => h.less fun _ z => .inl z).to.2)) q) hE⟩
def dDisp (f : Rho → WD (List (Key × D))) : Rho → WD (List (Key × D)) := fun ρ Q Ed => f ρ (fun ds => Q (mergeG [] ds)) Ed
theorem dd_disp {pos : Pos} {ks : List (Option Expr)} {vs : List Expr} {f : Rho → WD (List (Key × D))} (h : DPs O X E pos ks vs f) (hall : ks.all (·.isSome) = true := by rfl) (hl : ks.length = vs.length := by rfl) (h0 : ks ≠ [] := by exact fun z => nomatch z) (h15 : ks.length ≤ 15 := by decide) : DD O X E (.Dict ks vs pos) (dDisp f) := by
  obtain ⟨t, t1, t2⟩ := h
  refine ⟨_, pe_disp t1 hall hl h0 h15, fun P ρ σ H Qd Ed Q hd hr hf hQ hE => fun p np => ?_⟩
  have s0 : Same H (upd H p (.dK [])) := same_new np
  have hd0 : Dom (upd H p (.dK [])) (fun a => P a ∨ a = p) := fun a z => by
    rcases z with z | z
    · exact hd.same s0 a z
    · exact ⟨_, by rw [z]; exact upd_same, .inr ⟨_, rfl⟩⟩
  have hp : ∀ a, (P a ∨ a = p) → P a ∨ H a = none := fun a z => z.imp id fun e => by rw [e]; exact np
  refine t2 (fun a => P a ∨ a = p) ρ σ _ _ Ed _ hd0 (hr.kf hp (.of s0) hd) hf (fun l ds H2 s2 h2 l2 q2 => ?_) (hE.same s0)
  have e2 : H2 p = some (.dK []) := s2 _ _ upd_same
  refine ⟨e2, l, rfl, by rw [h2.length, l2, ← hl]; exact h15, ?_⟩
  have s02 : Same H (upd H2 p (.dK (mergeK [] l))) := fun a o e => by
    rw [upd_ne (ne_of_none e np)]
    exact s2 _ _ (s0 _ _ e)
  refine hQ p _ (mergeG [] ds) _ s02 np upd_same ?_ q2
  have h3 := Kds.merge h2 (a := []) (b := []) .nil
  refine h3.mapD fun h => h.keep (fun a o e m => ?_) (fun a o e m n => ?_) fun _ _ _ q => q
  · have : a ≠ p := fun z => by
      subst z
      rw [e2] at e
      cases e
      exact m (.inr ⟨_, rfl⟩)
    rw [upd_ne this]
    exact e
  · have : a ≠ p := fun z => n (.inr z)
    rw [upd_ne this]
    exact e
def dNew : Rho → WD (List (Key × D)) := fun _ Q _ => Q []
theorem dd_new {pos : Pos} : DD O X E (.Dict [] [] pos) dNew := ⟨_, pe_dnewK, fun P ρ σ H Qd Ed Q hd hr hf hQ hE => fun p np => hQ p [] [] _ (same_new np) np upd_same .nil hf⟩
/-! ### a dict of one's own -/
variable {pos : Pos} {e : Expr}
def sSetD (i : Nat) (f : Rho → WD (List (Key × D))) : FS := fun Γ k => f (clean Γ) (fun ds => k.nx (Γ.set i (some (.own (.dct ds))))) k.ex
theorem ds_setD (i : Nat) {x : Str} {pos' : Pos} {f : Rho → WD (List (Key × D))} (hN : X.N.Nodup) (h : DD O X E e f) (hi : X.N[i]? = some x := by rfl) (hx : Loc X.env.scope x := by first | exact Or.inl rfl | exact Or.inr rfl) (hs : swapsWith e (some (.Name x pos')) pos.line X.env = pure false := by rfl)
    (hf : X.fn x = true ∨ X.env.scope.names.lookup x = some .local := by first | exact .inl rfl | exact .inr rfl | assumption) : DS O X E (.Assign [.Name x pos'] e pos) (sSetD i f) := by
  obtain ⟨t, h1, h2⟩ := h
  exact ⟨_, ps_set (i := i) hN hi hx h1 hs hf, fun H0 P0 Γ σ H own k D hd r hf l => h2 _ _ σ H _ _ _ (r.dom hd) r.rs hf (fun p vs ds H' s n e h q => l.nx _ _ _ _ (own_new (c := .dct ds) r hd s n ⟨vs, e, h.to.1, h.to.2⟩) q) (l.exH r)⟩
def ownDAt (Γ : Env) (i : Nat) (Q : List (Key × D) → Prop) : Prop := match Γ[i]? with
  | some (some (.own (.dct ds))) => Q ds
  | _ => False
theorem of_ownDAt {Γ : Env} {i : Nat} {Q : List (Key × D) → Prop} (h : ownDAt Γ i Q) : ∃ ds, Γ[i]? = some (some (.own (.dct ds))) ∧ Q ds := by
  unfold ownDAt at h
  split at h
  · exact ⟨_, by assumption, h⟩
  · exact h.elim
/-- d.update(e), e a new dict -/
def rUpd : V → List V → Hp → VK → Prop := fun x vs H Q => ∃ d b kvs more, x = .ref d ∧ vs = [.ref b] ∧ H d = some (.dK kvs) ∧ H b = some (.dK more) ∧ d ≠ b ∧ kvs.length + more.length ≤ sizeLine ∧ Q .non (upd H d (.dK (mergeK kvs more)))
theorem length_merge : ∀ (more kvs : List (Key × V)), (mergeK kvs more).length ≤ kvs.length + more.length
  | [], kvs => Nat.le_refl _
  | (k, v) :: r, kvs => by
    have h1 := length_merge r (putK kvs k v)
    have h2 := length_putK kvs k v
    show (mergeK (putK kvs k v) r).length ≤ _
    rw [List.length_cons]
    omega
theorem mt_update : MtR X "dict.update" rUpd := by
  intro pins s σ H x xs v us Q I rx rxs h
  obtain ⟨d, b, kvs, more, rfl, rfl, e1, e2, ne, hl, q⟩ := h
  cases rx
  cases rxs with
  | cons ry rt =>
    cases rt
    cases ry
    obtain ⟨z, hd, vs, rel, dd⟩ := dk_of I.hok e1
    obtain ⟨z2, hd2, ws, rel2, dd2⟩ := dk_of I.hok e2
    refine call_meetsIn PySem.F.slot_dict_update dd.typeIs PySem.F.entry_dict_update (PySem.F.args_dict_update_2 _ _) (meets_dict_update (mixKind X.prog X.w) d b ne hd2) ⟨vs, ws, dd, dd2, by rw [← rel.length, ← rel2.length]; exact hl, fun h' hmm _ hs => ?_⟩
    have he : ∃ q, h'.get? d = some q := let ⟨q, _, _, hq, _⟩ := hmm; ⟨q, hq⟩
    refine ⟨.non, upd H d (.dK (mergeK kvs more)), d_write I (by rw [e1]; exact True.intro) hs he (dk_new (Nat.le_trans (length_merge more kvs) hl) hd (KV.merge rel2 rel) hmm), rfl, q⟩
def sUpd (i : Nat) (f : Rho → WD (List (Key × D))) : FS := fun Γ k => ownDAt Γ i fun ds => f (clean Γ) (fun es => ds.length + es.length ≤ 1000000 ∧ k.nx (Γ.set i (some (.own (.dct (mergeG ds es)))))) k.ex
theorem ds_upd (i : Nat) {x : Str} {apos cpos npos : Pos} {f : Rho → WD (List (Key × D))} (h : DD O X E e f) (hN : X.N[i]? = some x := by rfl) (hv : Vis X.env.scope x := by first | exact Or.inl rfl | exact Or.inr (Or.inl rfl) | exact Or.inr (Or.inr rfl)) (hdd : (x == ("__debug__" : Str)) = false := by decide) (hcd : (x == ("__classdict__" : Str)) = false := by decide)
    (hse : starEach [e] X.env = (false, eval e X.env) :: starEach [] X.env := by rfl)
    (hbase : attributeBase (.Name x npos) "update" X.env (eval (.Name x npos) X.env) = eval (.Name x npos) X.env := by rfl)
    (hfew : ((backTo cpos (starEach [e] X.env)).all (fun x => !x.1) && (backToKw cpos (keywordEach [] X.env)).all (fun x => x.1.isSome) && decide ([e].length + ([] : List Keyword).length + (if ([] : List Keyword).isEmpty then 0 else 1) < 30)) = true := by rfl)
    (hline : (apos.endLine == cpos.line) = true := by rfl) (hs : swapsWith (.Call (.Attribute (.Name x npos) "update" apos) [e] [] cpos) none pos.line X.env = pure false := by rfl) :
    DS O X E (.Expr (.Call (.Attribute (.Name x npos) "update" apos) [e] [] cpos) pos) (sUpd i f) := by
  obtain ⟨t, h1, h2⟩ := h
  have pA : PA X [e] (tCons t tNil) := pa_cons h1 pa_nil hse
  refine ⟨_, ps_expr (pe_bm PySem.F.plainAttrs_dict PySem.F.slot_dict_update PySem.F.type_dict_update mt_update (pe_var hN hv hdd hcd) pA hbase hfew hline hse) hs, fun H0 P0 Γ σ H own k D hd r hf l => ?_⟩
  obtain ⟨ds, eg, hf⟩ := of_ownDAt hf
  obtain ⟨p, eo, es, kvs, ep, ek, hv⟩ := r.ow i (.dct ds) eg
  refine ⟨.ref p, es, .inr (.inr (.inl ⟨rfl, .inl ⟨_, ep⟩⟩)), h2 _ _ σ H _ _ _ (r.dom hd) r.rs hf (fun b vs ds' H' s n e h q => ?_) (l.exH r)⟩
  have K1 := (Kds.of ek hv).same s
  have K2 := h.mapD fun h => h.less (P' := Pw P0 own) fun _ z => .inl z
  refine ⟨p, b, kvs, vs, rfl, rfl, s _ _ ep, e, fun z => ?_, ?_, l.nx _ _ _ _ ((r.step s).grow (c' := .dct _) eg eo es (.inr ⟨_, rfl⟩) fun f => ⟨_, upd_same, ?_, f ?_⟩) q.2⟩
  · subst z
    rw [n] at ep
    cases ep
  · rw [K1.length, K2.length]
    exact Nat.le_trans q.1 (by decide)
  · exact (Kds.merge K2 K1).to.1
  · exact (Kds.merge K2 K1).to.2
end
end DL

namespace DL
open PySem PySem.Spec L2
/-! ### sorted, of a list or a tuple of data -/
def leD1 (a b : D) : Bool := PySem.W.dataLe false (fun d : D => d) a b
def sortL (ds : List D) : List D := ds.mergeSort leD1
section
variable {prog : Program} {w : World} {A : Around} {E : Value → Shared → Prop} {s : Shared}
open PySem.W PyProof.Rows in
/-- sorted of any sequence: its items are collected, the new list is sorted -/
theorem sorted_any {T : String} {l : Addr} {o : Obj} {n : Nat} {vs : List Value} {R : Value → PyData → Prop} {ds : List PyData} {Q : Value → Shared → Prop} (hT : T = "list" ∨ T = "tuple") (ho : s.heap.get? l = some o) (hc : o.cls = .type T) (hd : o.data = .seq vs.toArray n)
    (e : EachIs R vs ds) (er : EachIs (fun v d => ∃ as, Reads s.heap v d as) vs ds) (hal : AllAlike ds) (hk : Sortable ds) (hL : ds.length ≤ sizeLine) (hu : ∀ d, d ∈ ds → A.units + 2 + d.depth < cLine)
    (h : ∀ (a : Addr) (out : List Value) (c : Nat) (h1 h' : Heap), (∀ b o, s.heap.get? b = some o → h1.get? b = some o) → (∀ b o, h1.get? b = some o → h'.get? b = some o) → h1.objs.size ≤ a → h'.get? a = some (seqObj "list" (List.toArray out) c) → out.length = ds.length → EachIs R out (ds.mergeSort (dataLe false fun d => d)) → Q (.ref a) { s with heap := h' }) :
    wpAny (model prog w) A (call (.builtin "sorted") [.ref l]) Q E s := by
  have hvl : vs.length = ds.length := e.length
  have hLv : vs.length ≤ sizeLine := by rw [hvl]; exact hL
  refine call_function_entry_kw kind_sorted plain_sorted entry_sorted (args_sorted1 _) ?_
  unfold Builtin.«sorted»
  refine wpAny_bind (m := checkCount "sorted" 1 1 _) (wpAny_pure ?_)
  refine wpAny_bind (wpAny_collect_seq l hT ho hc hd (fun h1 k1 => ?_) (by simpa using hLv))
  rw [List.toList_toArray]
  refine wpAny_bind (wpAny_newList ?_ hLv)
  have hat : (h1.push { cls := .type "list", data := .seq vs.toArray }).get? h1.objs.size = some (seqObj "list" vs.toArray 0) := Heap.get?_push_size _ rfl
  have old : ∀ b o, s.heap.get? b = some o → (h1.push { cls := .type "list", data := .seq vs.toArray }).get? b = some o := fun b o q => Heap.get?_push_of_some _ (k1 b o q)
  have nb : ∀ b o, s.heap.get? b = some o → b ≠ h1.objs.size := fun b o q => Nat.ne_of_lt (Heap.lt_size (k1 b o q))
  have er' : EachIs (fun v d => ∃ as, Reads (sortingHeap (h1.push { cls := .type "list", data := .seq vs.toArray }) h1.objs.size vs) v d as) vs ds := er.mono fun _ _ ⟨as, r⟩ => ⟨as, PyProof.Rows.Reads.keeps (fun b o q => sortingHeap_old (nb b o q) (old b o q)) r⟩
  refine wpAny_bind (wpAny_holding (wpAny_call_entry_kw slot_list_sort ⟨_, hat, rfl⟩ entry_list_sort ?body (args_list_sort _)))
  case body =>
    show wpAny (model prog w) A.in1.in1 (Builtin.«list.sort» ⟨[.ref h1.objs.size], []⟩) _ _ _
    refine wpAny_mono (list_sort_vals (s := { s with heap := h1.push { cls := .type "list", data := .seq vs.toArray } }) (P := fun f s' => f = .done (.ret .none) ∧ Q (.ref h1.objs.size) s') (E := fun _ _ => False) hat
      (SortsAt.data (s := { s with heap := sortingHeap (h1.push { cls := .type "list", data := .seq vs.toArray }) h1.objs.size vs }) er' hal hk (fun d hd => hu d hd)) hLv ⟨rfl, ?_⟩) (fun f s' hf => ?_) fun _ _ z => z.elim
    · obtain ⟨c, hc⟩ := sortedHeap_at (out := (sortVals (dataKind (sortingHeap (h1.push { cls := .type "list", data := .seq vs.toArray }) h1.objs.size vs) ds) false vs vs).toArray) hat
      have ed : EachIs R (sortVals (dataKind (sortingHeap (h1.push { cls := .type "list", data := .seq vs.toArray }) h1.objs.size vs) ds) false vs vs) (ds.mergeSort (dataLe false fun d => d)) := by
        have := sortVals_data (enc := fun d : PyData => d) false e er' (by rw [List.map_id']; exact hal)
        rw [List.map_id'] at this
        exact this
      refine h h1.objs.size _ c h1 _ k1 (fun b o q => ?_) (Nat.le_refl _) hc (by rw [sortVals_length false rfl]; exact hvl) ed
      rw [sortedHeap_old (Nat.ne_of_lt (Heap.lt_size q)) (Heap.lt_size (Heap.get?_push_of_some _ q))]
      exact Heap.get?_push_of_some _ q
    · obtain ⟨rfl, hq⟩ := hf
      exact ⟨_, rfl, wpAny_pure ⟨_, rfl, hq⟩⟩
end

section
variable {O : Ob} {X : Cx}
def rSortA (K : PySem.W.Frag) : List V → Hp → VK → Prop := fun vs H Q => ∃ (a : Addr) (xs : List V) (ds : List D) (RR : V → D → Prop), vs = [.ref a] ∧ (SqL K H a xs ∨ SqT K H a xs) ∧ PySem.W.EachIs RR xs ds ∧ DpAll K H xs ds ∧ PySem.W.AllAlike ds ∧ PySem.W.Sortable ds ∧ (∀ d, d ∈ ds → d.depth ≤ 60) ∧
  ∀ ys p, PySem.W.EachIs RR ys (sortL ds) → H p = none → Q (.ref p) (upd H p (.lst ys))
theorem each_vals {RR : V → D → Prop} : ∀ {xs : List V} {us : List Value} {ds : List D}, Vals xs us → PySem.W.EachIs RR xs ds → PySem.W.EachIs (fun u d => ∃ x, RelV x u ∧ RR x d) us ds
  | _, _, _, .nil, .nil => .nil
  | _, _, _, .cons r t, .cons h q => .cons ⟨_, r, h⟩ (each_vals t q)
theorem vals_each {RR : V → D → Prop} : ∀ {us : List Value} {ds : List D}, PySem.W.EachIs (fun u d => ∃ x, RelV x u ∧ RR x d) us ds → ∃ ys, Vals ys us ∧ PySem.W.EachIs RR ys ds
  | _, _, .nil => ⟨[], .nil, .nil⟩
  | _, _, .cons ⟨x, r, h⟩ q => by
    obtain ⟨ys, a, b⟩ := vals_each q
    exact ⟨x :: ys, .cons r a, .cons h b⟩
theorem each_reads {pins : List (Addr × Obj)} {σ : L2.St} {H : Hp} {s : Shared} (I : Inv X pins σ H s) : ∀ {xs : List V} {us : List Value} {ds : List D}, Vals xs us → DpAll X.K H xs ds → PySem.W.EachIs (fun v d => ∃ as, Reads s.heap v d as) us ds
  | _, _, _, .nil, .nil => .nil
  | _, _, _, .cons r t, .cons h q => .cons (Dp.reads I _ _ _ h r) (each_reads I t q)
theorem each_len {α β : Type} {R : α → β → Prop} : ∀ {as : List α} {bs : List β}, PySem.W.EachIs R as bs → as.length = bs.length
  | _, _, .nil => rfl
  | _, _, .cons _ q => congrArg (· + 1) (each_len q)
theorem cr_sortA (hu : X.A.units + 65 < cLine) : CallR X (.builtin "sorted") (rSortA X.K) := by
  intro pins s σ H vs us Q I r h
  obtain ⟨a, xs, ds, RR, rfl, hs, he, hd, hal, hso, hdp, q⟩ := h
  obtain ⟨u, rfl, ru⟩ := vals1 r
  obtain rfl : u = Value.ref a := ru
  have fin : ∀ (its : List Value), Vals xs its → xs.length ≤ sizeLine → ∀ (T : String) (o : Obj) (n : Nat), (T = "list" ∨ T = "tuple") → s.heap.get? a = some o → o.cls = .type T → o.data = .seq its.toArray n → wpAny (model X.prog X.w) X.A (call (.builtin "sorted") [.ref a]) (EP X pins σ Q) X.xe s := fun its rv hz T o n hT ho hc hdt => by
    refine sorted_any hT ho hc hdt (each_vals rv he) (each_reads I rv hd) hal hso (by rw [← each_len he]; exact hz) (fun d hm => ?_) fun p out c h1 h' k1 kp np ep el ee => ?_
    · have := hdp d hm
      omega
    · obtain ⟨ys, y1, y2⟩ := vals_each ee
      have I1 : Inv X pins σ H { s with heap := h1 } := I.kept (t' := s.toks) k1
      exact ⟨.ref p, upd H p (.lst ys), I1.laid (t' := s.toks) kp np (show ObjOk X.prog X.w _ h' _ (.lst ys) from ⟨by rw [y1.length, el, ← each_len he]; exact hz, out, c, y1, ep⟩), rfl, q ys p y2 (I1.hok.fresh np)⟩
  rcases hs with hs | hs
  · obtain ⟨its, rv, hl, hz⟩ := I.list hs
    obtain ⟨o, ho, hc, n, hd⟩ := hl.isList
    exact fin its rv hz "list" o n (.inl rfl) ho hc hd
  · obtain ⟨its, rv, hl, hz⟩ := I.tuple hs
    obtain ⟨o, ho, hc, n, hd⟩ := hl
    exact fin its rv hz "tuple" o n (.inr rfl) ho hc hd
/-- what sorted takes -/
def srtOk (ds : List D) : Prop := PySem.W.AllAlike ds ∧ PySem.W.Sortable ds ∧ ∀ d, d ∈ ds → d.canLay0 = true ∧ d.depth ≤ 60
def sortD : D → WD (List D)
  | .list ds => fun Q _ => srtOk ds ∧ Q (sortL ds)
  | .tuple ds => fun Q _ => srtOk ds ∧ Q (sortL ds)
  | _ => fun _ _ => False
theorem canAll_of : ∀ {ds : List D}, (∀ d, d ∈ ds → d.canLay0 = true) → PyData.canLayAll0 ds = true
  | [], _ => by simp [PyData.canLayAll0]
  | d :: ds, h => by
    simp only [PyData.canLayAll0, Bool.and_eq_true]
    exact ⟨h d List.mem_cons_self, canAll_of fun e he => h e (List.mem_cons_of_mem _ he)⟩
theorem each_dv {K : PySem.W.Frag} {H : Hp} {P : Addr → Prop} : ∀ {vs : List V} {ds : List D}, DvAll O K H P vs ds → PySem.W.EachIs (Dv O K H P) vs ds
  | _, _, .nil => .nil
  | _, _, .cons h r => .cons h (each_dv r)
theorem dv_each {K : PySem.W.Frag} {H : Hp} {P : Addr → Prop} : ∀ {vs : List V} {ds : List D}, PySem.W.EachIs (Dv O K H P) vs ds → DvAll O K H P vs ds
  | _, _, .nil => .nil
  | _, _, .cons h r => .cons h (dv_each r)
theorem cbf_sort : CbF O X (rSortA X.K) (one1F sortD) := fun P H xs ds Qd Ed Q hd hx hg hQ => by
  cases hx with
  | nil => exact hg.elim
  | cons h r =>
    cases r with
    | cons _ _ => exact hg.elim
    | nil =>
      cases h with
      | lst e n r => exact ⟨_, _, _, _, rfl, .inl (.inl (.inl e)), each_dv r, r.dp (canAll_of fun d m => (hg.1.2.2 d m).1), hg.1.1, hg.1.2.1, fun d m => (hg.1.2.2 d m).2, fun ys l y nl => hQ _ _ _ _ (same_new nl) nl upd_same ((dv_each y).fresh nl (same_new nl)) hg.2⟩
      | tup e r => exact ⟨_, _, _, _, rfl, .inr e.sq, each_dv r, r.dp (canAll_of fun d m => (hg.1.2.2 d m).1), hg.1.1, hg.1.2.1, fun d m => (hg.1.2.2 d m).2, fun ys l y nl => hQ _ _ _ _ (same_new nl) nl upd_same ((dv_each y).fresh nl (same_new nl)) hg.2⟩
      | _ => exact hg.elim
end
end DL

namespace DL
open PySem PySem.Spec L2
/-! ### the draws: a town of counts and rests, told by what holds of it at all times -/
/-- a list that is never written -/
def SqS (K : PySem.W.Frag) (H : Hp) (a : Addr) (xs : List V) : Prop := (∃ o, H a = some (.frz o (.lst xs))) ∨
  ∃ (o : Obj) (its : Array Value) (n : Nat), K.lookup a = some o ∧ o.cls = .type "list" ∧ o.dict = none ∧ o.data = .seq its n ∧ its.size ≤ sizeLine ∧ Vals xs its.toList
theorem SqS.sq {K : PySem.W.Frag} {H : Hp} {a : Addr} {xs : List V} (h : SqS K H a xs) : SqL K H a xs := by
  rcases h with ⟨o, h⟩ | h
  · exact .inl (.inr ⟨o, h⟩)
  · exact .inr h
theorem SqS.of {K : PySem.W.Frag} {H : Hp} {a : Addr} {xs : List V} (hO : Only H) (h : SqL K H a xs) : SqS K H a xs := by
  rcases h with (h | ⟨o, h⟩) | h
  · rcases hO a with e | ⟨o, ys, e⟩
    · rw [h] at e
      cases e
    · rw [h] at e
      cases e
  · exact .inl ⟨o, h⟩
  · exact .inr h
theorem SqS.nl {K : PySem.W.Frag} {H H' : Hp} {a : Addr} {xs : List V} (h : SqS K H a xs) (n : Nl H H') : SqS K H' a xs := by
  rcases h with ⟨o, h⟩ | h
  · exact .inl ⟨o, n _ _ h not_mb_frz⟩
  · exact .inr h
def goodRest (vs : List (Key × V)) : Prop := (vs.map (·.1)).Nodup ∧ ∀ kv ∈ vs, (∃ i : Int, kv.1 = .inl i ∧ 0 ≤ i ∧ i < 64) ∧ ∃ n, kv.2 = .int n
def townKvs (c : Int) (r : Addr) : List (Key × V) := [(.inr "count", .int c), (.inr "rests", .ref r)]
/-- what holds of a town; of its rests -/
def townP (P : Program) (w : World) (t r : Addr) : Heap → Prop := fun h => ∃ c : Int, 0 ≤ c ∧ ObjOk P w (fun _ => none) h t (.dK (townKvs c r))
def restP (P : Program) (w : World) (r : Addr) : Heap → Prop := fun h => ∃ vs, goodRest vs ∧ ObjOk P w (fun _ => none) h r (.dK vs)
theorem dk_any {P : Program} {w : World} {H H' : Hp} {h : Heap} {a : Addr} {kvs : List (Key × V)} (x : ObjOk P w H h a (.dK kvs)) : ObjOk P w H' h a (.dK kvs) := x
theorem dk_stay {P : Program} {w : World} {H : Hp} {h1 h2 : Heap} {a : Addr} {kvs : List (Key × V)} (x : ObjOk P w H h1 a (.dK kvs)) (e : ∀ o, h1.get? a = some o → h2.get? a = some o) : ObjOk P w H h2 a (.dK kvs) := by
  obtain ⟨z, y, vs, r, ob, es, ep, q, c⟩ := x
  exact ⟨z, y, vs, r, ob, es, ep, e _ q, c⟩
def sD : D := .dict [(.none, .int 0)]
def tD : D := .dict [(.none, .int 1)]
def scriptP (K : PySem.W.Frag) (H : Hp) (v : V) : Prop := ∃ (a : Addr) (ns : List Int), v = .ref a ∧ SqS K H a (ns.map V.int) ∧ ns.length ≤ 63
def townIs (P : Program) (w : World) (H : Hp) (v : V) : Prop := ∃ t r, v = .ref t ∧ t ≠ r ∧ H t = some (.ext (townP P w t r)) ∧ H r = some (.ext (restP P w r))
def obT (P : Program) (w : World) : Ob where
  ro := fun K H v k => match k with
    | [(.none, .int 0)] => scriptP K H v
    | [(.none, .int 1)] => townIs P w H v
    | _ => False
  keep := fun {K H H' v k} n h => by
    split at h
    · obtain ⟨a, ns, e, q, l⟩ := h
      exact ⟨a, ns, e, q.nl n, l⟩
    · obtain ⟨t, r, e, ne, e1, e2⟩ := h
      exact ⟨t, r, e, ne, n _ _ e1 not_mb_ext, n _ _ e2 not_mb_ext⟩
    · exact h.elim
theorem obT_no (P : Program) (w : World) : NoObj (obT P w) := ⟨fun {K H v ds} h p hp => by
  unfold obT at h
  simp only at h
  split at h
  · simp at hp
    subst hp
    rfl
  · simp at hp
    subst hp
    rfl
  · exact h.elim, fun {K H v ds} h => by
  unfold obT at h
  simp only at h⟩
theorem dv_script {P : Program} {w : World} {K : PySem.W.Frag} {H : Hp} {Pr : Addr → Prop} {v : V} (h : scriptP K H v) : Dv (obT P w) K H Pr v sD := .obj h
theorem dv_town {P : Program} {w : World} {K : PySem.W.Frag} {H : Hp} {Pr : Addr → Prop} {v : V} (h : townIs P w H v) : Dv (obT P w) K H Pr v tD := .obj h
theorem of_script {P : Program} {w : World} {K : PySem.W.Frag} {H : Hp} {Pr : Addr → Prop} {v : V} (h : Dv (obT P w) K H Pr v sD) : scriptP K H v := by
  unfold sD at h
  generalize e : (PyData.dict [(.none, .int 0)]) = d at h
  cases h with
  | @dct a kvs ds e1 e2 e3 e4 =>
    unfold dictE at e
    injection e with e
    cases ds with
    | nil => cases e
    | cons p r =>
      injection e with e _
      injection e with e _
      obtain ⟨k, x⟩ := p
      cases k <;> cases e
  | obj h =>
    injection e with e
    subst e
    exact h
  | _ => cases e
theorem of_town {P : Program} {w : World} {K : PySem.W.Frag} {H : Hp} {Pr : Addr → Prop} {v : V} (h : Dv (obT P w) K H Pr v tD) : townIs P w H v := by
  unfold tD at h
  generalize e : (PyData.dict [(.none, .int 1)]) = d at h
  cases h with
  | @dct a kvs ds e1 e2 e3 e4 =>
    unfold dictE at e
    injection e with e
    cases ds with
    | nil => cases e
    | cons p r =>
      injection e with e _
      injection e with e _
      obtain ⟨k, x⟩ := p
      cases k <;> cases e
  | obj h =>
    injection e with e
    subst e
    exact h
  | _ => cases e
/-! ### one object, looked at in another way -/
section
variable {X : Cx}
theorem Inv.view {pins : List (Addr × Obj)} {σ : L2.St} {H : Hp} {s : Shared} {a : Addr} {o : HO} (I : Inv X pins σ H s) (mu : Mut (H a)) (h : ∃ u, s.heap.get? a = some u) (new : ObjOk X.prog X.w (upd H a o) s.heap a o) : Inv X pins σ (upd H a o) s := by
  have := I.write (x := a) (e := a) (h' := s.heap) (t' := s.toks) mu (.inl rfl) (fun b u _ q => q) h new
  exact this
/-- the town and its rests are dicts -/
def tOpen (P : Program) (w : World) (t : TS) : TS := fun D σ H => ∃ a r, a ≠ r ∧ H a = some (.ext (townP P w a r)) ∧ H r = some (.ext (restP P w r)) ∧ ∀ (c : Int) (vs : List (Key × V)), 0 ≤ c → goodRest vs → t D σ (upd (upd H a (.dK (townKvs c r))) r (.dK vs))
theorem pss_open {sts : List Stmt} {t : TS} (h : PSs X sts t) : PSs X sts (tOpen X.prog X.w t) := by
  refine ⟨fun pins s σ H D I hw => ?_⟩
  obtain ⟨a, r, ne, e1, e2, q⟩ := hw
  obtain ⟨⟨c, hc, o1⟩, ⟨u1, g1⟩, _⟩ := I.hok a _ e1
  obtain ⟨⟨vs, hv, o2⟩, ⟨u2, g2⟩, _⟩ := I.hok r _ e2
  have I1 := Inv.view (o := .dK (townKvs c r)) I (by rw [e1]; exact True.intro) ⟨u1, g1⟩ (dk_any o1)
  have e2' : upd H a (.dK (townKvs c r)) r = some (.ext (restP X.prog X.w r)) := by rw [upd_ne (Ne.symm ne)]; exact e2
  have I2 := Inv.view (o := .dK vs) I1 (by rw [e2']; exact True.intro) ⟨u2, g2⟩ (dk_any o2)
  exact h.run pins s σ _ D I2 (q c vs hc hv)
/-- .. and are told by what holds of them again -/
def shut (P : Program) (w : World) (Q : Hp → Prop) : Hp → Prop := fun H => ∃ a r, a ≠ r ∧ (∃ c : Int, 0 ≤ c ∧ H a = some (.dK (townKvs c r))) ∧ (∃ vs, goodRest vs ∧ H r = some (.dK vs)) ∧ Q (upd (upd H a (.ext (townP P w a r))) r (.ext (restP P w r)))
theorem inv_shut {pins : List (Addr × Obj)} {σ : L2.St} {H : Hp} {s : Shared} {Q : Hp → Prop} (I : Inv X pins σ H s) (h : shut X.prog X.w Q H) : ∃ H', Inv X pins σ H' s ∧ Q H' := by
  obtain ⟨a, r, ne, ⟨c, hc, e1⟩, ⟨vs, hv, e2⟩, q⟩ := h
  have o1 := I.hok a _ e1
  have o2 := I.hok r _ e2
  have g1 : ∃ u, s.heap.get? a = some u := let ⟨_, _, _, _, ob, _, _, g, _⟩ := o1; ⟨ob, g⟩
  have g2 : ∃ u, s.heap.get? r = some u := let ⟨_, _, _, _, ob, _, _, g, _⟩ := o2; ⟨ob, g⟩
  have I1 := Inv.view (o := .ext (townP X.prog X.w a r)) I (by rw [e1]; exact True.intro) g1 ⟨⟨c, hc, dk_any o1⟩, g1, fun h1 h2 ⟨c', hc', x⟩ k => ⟨c', hc', dk_stay x k⟩⟩
  have e2' : upd H a (.ext (townP X.prog X.w a r)) r = some (.dK vs) := by rw [upd_ne (Ne.symm ne)]; exact e2
  have I2 := Inv.view (o := .ext (restP X.prog X.w r)) I1 (by rw [e2']; exact True.intro) g2 ⟨⟨vs, hv, dk_any o2⟩, g2, fun h1 h2 ⟨v', hv', x⟩ k => ⟨v', hv', dk_stay x k⟩⟩
  exact ⟨_, I2, q⟩
def tShut (P : Program) (w : World) (t : TS) : TS := fun D σ H => t ⟨fun σ' => shut P w (D.nx σ'), fun v => shut P w (D.rt v), fun σ' => shut P w (D.bk σ'), fun σ' => shut P w (D.ct σ')⟩ σ H
theorem pss_shut {sts : List Stmt} {t : TS} (h : PSs X sts t) : PSs X sts (tShut X.prog X.w t) := by
  refine ⟨fun pins s σ H D I hw => ?_⟩
  refine thn (h.run pins s σ H _ I hw) fun f s1 q => ?_
  cases f with
  | next =>
    obtain ⟨σ', H', I', q⟩ := q
    obtain ⟨H2, I2, q2⟩ := inv_shut I' q
    exact ⟨σ', H2, I2, q2⟩
  | brk =>
    obtain ⟨σ', H', I', q⟩ := q
    obtain ⟨H2, I2, q2⟩ := inv_shut I' q
    exact ⟨σ', H2, I2, q2⟩
  | cont =>
    obtain ⟨σ', H', I', q⟩ := q
    obtain ⟨H2, I2, q2⟩ := inv_shut I' q
    exact ⟨σ', H2, I2, q2⟩
  | ret u =>
    obtain ⟨v, σ', H', I', rv, q⟩ := q
    obtain ⟨H2, I2, q2⟩ := inv_shut I' q
    exact ⟨v, σ', H2, I2, rv, q2⟩
end
/-! ### the town is made -/
/-- {"count": 0, "rests": {}} -/
def m__law_begun : List D → WD D := fun ds Q _ => ds = [] ∧ Q tD
/-- the next draw -/
def m__law_draw : List D → WD D
  | [s, t, .int m] => fun Q _ => s = sD ∧ t = tD ∧ 0 < m ∧ m < 1073741824 ∧ ∀ r : Int, 0 ≤ r → r < m → Q (.int r)
  | _ => fun _ _ => False
abbrev tInt (i : Int) : TE := tC (.int i)
abbrev tStr (x : Str) : TE := tC (.str x)
abbrev tTr (K : PySem.W.Frag) (ta : TE) : TT := fun σ H Q => ta σ H fun x H' => ∃ k, TruV K x H' k ∧ Q k H'
abbrev rAddI : R2 := rI0 fun i j => .int (i + j)
abbrev rMulI : R2 := rI CMul fun i j => .int (i * j)
abbrev rDivI : R2 := rI CDiv fun i j => .int (i / j)
abbrev rModI : R2 := rI (fun _ j => 0 < j) fun i j => .int (i % j)
abbrev rPowI : R2 := rI CPow fun i j => .int (i ^ j.toNat)
abbrev rGeI : R2 := rI0 fun i j => .bl (decide (j ≤ i))
abbrev rLenA (K : PySem.W.Frag) : List V → Hp → VK → Prop := fun xs H Q => ∃ x n, xs = [x] ∧ LenV K x H n ∧ Q (.int n) H
abbrev tCount : TE := tDGet (tVar 1) (tStr "count")
abbrev tDrawB : TS :=
  tSeq (tIfS (tTest (tOp rGeI (tVar 4) (tOp rPowI (tInt 10) (tInt 18)))) (tSeq (sDPut (tDGet (tVar 1) (tStr "rests")) (tVar 3) (tOp rDivI (tVar 4) (tVar 2))) (tRet (tOp rModI (tVar 4) (tVar 2)))) tNext)
  (tSeq (tAsg (tOp rModI (tOp rAddI (tVar 4) (tOp rMulI (tInt 104729) tCount)) (tInt 4294967291)) (gName 5))
  (tSeq (tAsg (tOp rModI (tOp rPowI (tVar 5) (tInt 5)) (tInt 4294967279)) (gName 5))
  (tRet (tOp rModI (tOp rDivI (tOp rModI (tOp rAddI (tOp rMulI (tOp rDivI (tVar 5) (tInt 64)) (tInt 69621)) (tVar 5)) (tInt 4294967231)) (tInt 8)) (tVar 2)))))
abbrev tDrawA (K : PySem.W.Frag) : TS :=
  tSeq (tAsg (tDGet2 (tDGet (tVar 1) (tStr "rests")) (tVar 3) (tIf (tTr K (tVar 0)) (tOp (rIxL K) (tVar 0) (tVar 3)) (tInt 0))) (gName 4)) tDrawB
abbrev tDraw (K : PySem.W.Frag) : TS :=
  tSeq (sDPut (tVar 1) (tStr "count") (tOp rAddI tCount (tInt 1)))
  (tSeq (tAsg (tIf (tTr K (tVar 0)) (tOp rModI tCount (tCB (rLenA K) (tCons (tVar 0) tNil))) (tInt 0)) (gName 3)) (tDrawA K))
theorem nc : ¬ (("count" : Str) = "rests") := by decide +kernel
theorem nc' : ¬ (("rests" : Str) = "count") := by decide +kernel
theorem town_count (c : Int) (r : Addr) : valV (townKvs c r) (.inr "count" : Key) = some (.int c) := valV_pos rfl
theorem town_rests (c : Int) (r : Addr) : valV (townKvs c r) (.inr "rests" : Key) = some (.ref r) := by
  unfold townKvs
  rw [valV_neg (p := ((.inr "count" : Key), V.int c)) (fun e => nc (by injection e)), valV_pos rfl]
theorem town_put (c y : Int) (r : Addr) : putK (townKvs c r) (.inr "count" : Key) (.int y) = townKvs y r := by
  unfold putK townKvs
  have h : ¬ ((Sum.inr ("rests" : Str) : Key) = Sum.inr ("count" : Str)) := fun e => nc' (by injection e)
  simp [h]
theorem good_nil : goodRest [] := ⟨List.nodup_nil, fun _ h => (nomatch h)⟩
theorem good_put {vs : List (Key × V)} {i n : Int} (h : goodRest vs) (h0 : 0 ≤ i) (h1 : i < 64) : goodRest (putK vs (.inl i : Key) (.int n)) := by
  have key : ∀ kv ∈ putK vs (.inl i : Key) (.int n), (∃ i : Int, kv.1 = .inl i ∧ 0 ≤ i ∧ i < 64) ∧ ∃ n, kv.2 = .int n := fun kv hk => by
    unfold putK at hk
    split at hk
    · obtain ⟨q, hq, rfl⟩ := List.mem_map.mp hk
      by_cases e : q.1 = .inl i
      · rw [if_pos e]
        exact ⟨⟨i, e, h0, h1⟩, n, rfl⟩
      · rw [if_neg e]
        exact h.2 q hq
    · rcases List.mem_append.mp hk with hk | hk
      · exact h.2 kv hk
      · simp at hk
        subst hk
        exact ⟨⟨i, rfl, h0, h1⟩, n, rfl⟩
  refine ⟨?_, key⟩
  cases q : valV vs (.inl i : Key) with
  | none => exact nd_putK _ h.1 q
  | some v =>
    unfold putK
    have ha : (vs.any fun kv => decide (kv.1 = (.inl i : Key))) = true := by
      unfold valV at q
      cases q2 : vs.find? fun kv => decide (kv.1 = (.inl i : Key)) with
      | none =>
        rw [q2] at q
        cases q
      | some kv =>
        rw [List.any_eq_true]
        exact ⟨kv, List.mem_of_find?_eq_some q2, by simpa using List.find?_some q2⟩
    rw [if_pos ha, List.map_map]
    have : ((fun x => x.1) ∘ fun kv : Key × V => if kv.1 = (.inl i : Key) then (kv.1, V.int n) else kv) = fun x => x.1 := by
      funext kv
      show (if kv.1 = (.inl i : Key) then (kv.1, V.int n) else kv).1 = kv.1
      split <;> rfl
    rw [this]
    exact h.1
theorem nodup_lt : ∀ (n : Nat) (l : List Nat), l.Nodup → (∀ x ∈ l, x < n) → l.length ≤ n
  | 0, [], _, _ => Nat.le_refl _
  | 0, x :: _, _, h => absurd (h x List.mem_cons_self) (Nat.not_lt_zero _)
  | n + 1, l, nd, h => by
    by_cases hn : n ∈ l
    · have h1 := nodup_lt n (l.erase n) (nd.erase n) fun x hx => by
        have h2 := (List.Nodup.mem_erase_iff nd).mp hx
        have := h x h2.2
        have := h2.1
        omega
      rw [List.length_erase_of_mem hn] at h1
      omega
    · have h1 := nodup_lt n l nd fun x hx => by
        have := h x hx
        have : x ≠ n := fun e => hn (e ▸ hx)
        omega
      omega
theorem good_len {vs : List (Key × V)} (h : goodRest vs) : vs.length ≤ 64 := by
  have h1 := nodup_lt 64 (vs.map fun kv => match kv.1 with | .inl i => i.toNat | .inr _ => 0) ?_ ?_
  · simpa using h1
  · have h2 := h.1
    unfold List.Nodup at *
    rw [List.pairwise_map] at *
    refine h2.imp_of_mem fun {a b} ha hb ne e => ne ?_
    obtain ⟨⟨i, ei, h0, _⟩, _⟩ := h.2 a ha
    obtain ⟨⟨j, ej, j0, _⟩, _⟩ := h.2 b hb
    have e' : i.toNat = j.toNat := by simpa [ei, ej] using e
    rw [ei, ej]
    congr 1
    omega
  · intro x hx
    obtain ⟨kv, hm, rfl⟩ := List.mem_map.mp hx
    obtain ⟨⟨i, e, h0, h64⟩, _⟩ := h.2 kv hm
    rw [e]
    show i.toNat < 64
    omega
theorem good_val {vs : List (Key × V)} {k : Key} {v : V} (h : goodRest vs) (e : valV vs k = some v) : ∃ n, v = .int n := by
  unfold valV at e
  cases q : vs.find? fun kv => decide (kv.1 = k) with
  | none =>
    rw [q] at e
    cases e
  | some kv =>
    rw [q] at e
    cases e
    exact (h.2 kv (List.mem_of_find?_eq_some q)).2
/-- what the whole def asks -/
theorem draw_reads {P : Program} {w : World} {K : PySem.W.Frag} {H : Hp} {a t r : Addr} {ns : List Int} {m : Int} {Q : VK} {nx : L2.St → Hp → Prop} (hs : SqS K H a (ns.map V.int)) (hl : ns.length ≤ 63) (ne : t ≠ r) (e1 : H t = some (.ext (townP P w t r))) (e2 : H r = some (.ext (restP P w r)))
    (m0 : 0 < m) (m1 : m < 1073741824) (hQ : ∀ (y : Int) H', 0 ≤ y → y < m → Same H H' → Q (.int y) H') : tOpen P w (tShut P w (tDraw K)) { nx := nx, rt := Q } [some (.ref a), some (.ref t), some (.int m), none, none, none] H := by
  refine ⟨t, r, ne, e1, e2, fun c vs hc hv => ?_⟩
  obtain ⟨H1, eH1⟩ : ∃ H1, H1 = upd (upd H t (.dK (townKvs c r))) r (.dK vs) := ⟨_, rfl⟩
  rw [← eH1]
  have f1 : H1 t = some (.dK (townKvs c r)) := by rw [eH1, upd_ne ne, upd_same]
  have f2 : H1 r = some (.dK vs) := by rw [eH1, upd_same]
  have f3 : ∀ b, b ≠ t → b ≠ r → H1 b = H b := fun b h1 h2 => by rw [eH1, upd_ne h2, upd_ne h1]
  -- town['count'] = town['count'] + 1
  obtain ⟨H2, eH2⟩ : ∃ H2, H2 = upd H1 t (.dK (townKvs (c + 1) r)) := ⟨_, rfl⟩
  refine ⟨_, rfl, t, _, rfl, .inl ⟨_, .inr "count", .inl f1, rfl, (town_count c r).symm⟩, c, 1, rfl, rfl, _, rfl, t, H2, rfl, .inl ⟨_, .inr "count", f1, rfl, by show 2 < sizeLine; decide, by rw [eH2, town_put]⟩, ?_⟩
  have g1 : H2 t = some (.dK (townKvs (c + 1) r)) := by rw [eH2, upd_same]
  have g2 : H2 r = some (.dK vs) := by rw [eH2, upd_ne (Ne.symm ne)]; exact f2
  have g3 : ∀ b, b ≠ t → b ≠ r → H2 b = H b := fun b h1 h2 => by rw [eH2, upd_ne h1, f3 b h1 h2]
  have hs2 : SqS K H2 a (ns.map V.int) := by
    rcases hs with ⟨o, h⟩ | h
    · refine .inl ⟨o, ?_⟩
      have n1 : a ≠ t := fun z => by rw [z, e1] at h; cases h
      have n2 : a ≠ r := fun z => by rw [z, e2] at h; cases h
      rw [g3 a n1 n2]
      exact h
    · exact .inr h
  have cnt : DGet H2 t (.str "count") (some (.int (c + 1))) := .inl ⟨_, .inr "count", .inl g1, rfl, (town_count _ r).symm⟩
  have rst : DGet H2 t (.str "rests") (some (.ref r)) := .inl ⟨_, .inr "rests", .inl g1, rfl, (town_rests _ r).symm⟩
  have emp : (ns.map V.int).isEmpty = ns.isEmpty := by cases ns <;> rfl
  -- the end of every way
  have fin : ∀ (y : Int) (vs' : List (Key × V)) (H3 : Hp), 0 ≤ y → y < m → goodRest vs' → H3 t = some (.dK (townKvs (c + 1) r)) → H3 r = some (.dK vs') → (∀ b, b ≠ t → b ≠ r → H3 b = H b) → shut P w (Q (.int y)) H3 := fun y vs' H3 y0 y1 gv k1 k2 k3 => by
    refine ⟨t, r, ne, ⟨c + 1, by omega, k1⟩, ⟨vs', gv, k2⟩, hQ y _ y0 y1 fun b o e => ?_⟩
    by_cases h2 : b = r
    · subst h2
      rw [upd_same]
      rw [e2] at e
      exact e
    · by_cases h1 : b = t
      · subst h1
        rw [upd_ne h2, upd_same]
        rw [e1] at e
        exact e
      · rw [upd_ne h2, upd_ne h1, k3 b h1 h2]
        exact e
  -- behind at
  have step : ∀ at_ : Int, 0 ≤ at_ → at_ < 64 → (ns ≠ [] → at_ < ns.length) → tDrawA K
      ⟨fun σ' => shut P w (nx σ'), fun v => shut P w (Q v), fun σ' => shut P w fun _ => False, fun σ' => shut P w fun _ => False⟩ [some (.ref a), some (.ref t), some (.int m), some (.int at_), none, none] H2 := fun at_ a0 a1 a2 => by
    have rest : ∀ rest : Int, tDrawB
      ⟨fun σ' => shut P w (nx σ'), fun v => shut P w (Q v), fun σ' => shut P w fun _ => False, fun σ' => shut P w fun _ => False⟩ [some (.ref a), some (.ref t), some (.int m), some (.int at_), some (.int rest), none] H2 := fun rest => by
      refine ⟨_, rfl, 10, 18, rfl, rfl, ⟨by decide, by decide, by decide⟩, _, _, rfl, rfl, _, rfl, ?_⟩
      refine ite2 (fun hg => ?_) (fun hg => ?_)
      · -- a great cell
        refine ⟨_, rfl, _, rfl, _, _, rfl, rfl, ⟨m0, m1⟩, _, rfl, t, _, rfl, rst, _, rfl, r, _, rfl, .inl ⟨vs, .inl at_, g2, rfl, Nat.lt_of_le_of_lt (good_len hv) (by decide), rfl⟩, ?_⟩
        refine ⟨_, rfl, _, rfl, _, _, rfl, rfl, m0, ?_⟩
        refine fin _ _ _ (Int.emod_nonneg _ (by omega)) (Int.emod_lt_of_pos _ m0) (good_put hv a0 a1) ?_ upd_same ?_
        · rw [upd_ne ne]
          exact g1
        · intro b h1 h2
          rw [upd_ne h2]
          exact g3 b h1 h2
      · refine ⟨_, rfl, _, rfl, t, _, rfl, cnt, 104729, c + 1, rfl, rfl, .inl ⟨by decide, by decide⟩, _, _, rfl, rfl, _, _, rfl, rfl, by show (0 : Int) < 4294967291; decide, ?_⟩
        have x0 : 0 ≤ (rest + 104729 * (c + 1)) % 4294967291 := Int.emod_nonneg _ (by decide)
        have x1 : (rest + 104729 * (c + 1)) % 4294967291 < 4294967291 := Int.emod_lt_of_pos _ (by decide)
        have x2 : ((rest + 104729 * (c + 1)) % 4294967291).natAbs < 2 ^ 64 := by omega
        refine ⟨_, rfl, (rest + 104729 * (c + 1)) % 4294967291, 5, rfl, rfl, ⟨by decide, by decide, x2⟩, _, _, rfl, rfl, by show (0 : Int) < 4294967279; decide, ?_⟩
        refine ⟨_, rfl, _, 64, rfl, rfl, ⟨by decide, by decide⟩, _, _, rfl, rfl, .inr ⟨by decide, by decide⟩, _, rfl, _, _, rfl, rfl, _, _, rfl, rfl, by show (0 : Int) < 4294967231; decide, _, _, rfl, rfl, ⟨by decide, by decide⟩, _, rfl, _, _, rfl, rfl, m0, ?_⟩
        exact fin _ vs H2 (Int.emod_nonneg _ (by omega)) (Int.emod_lt_of_pos _ m0) hv g1 g2 g3
    refine ⟨_, rfl, t, _, rfl, rst, r, rfl, .inl ⟨vs, .inl g2⟩, _, rfl, ?_⟩
    have key : ∀ z : Int, ∃ o, DGet H2 r (.int at_) o ∧ (∃ n, o.getD (V.int z) = .int n) := fun z => by
      refine ⟨valV vs (.inl at_ : Key), .inl ⟨vs, .inl at_, .inl g2, rfl, rfl⟩, ?_⟩
      cases q : valV vs (.inl at_ : Key) with
      | none => exact ⟨z, rfl⟩
      | some v =>
        obtain ⟨n, rfl⟩ := good_val hv q
        exact ⟨n, rfl⟩
    refine ⟨_, rfl, !ns.isEmpty, .inl ⟨_, hs2.sq, by rw [emp]⟩, ?_⟩
    refine ite2 (fun hn => ?_) (fun hn => ?_)
    · have nn : ns ≠ [] := fun z => by rw [z] at hn; cases hn
      have hlt := a2 nn
      obtain ⟨j, ej⟩ : ∃ j : Nat, at_ = (j : Int) := ⟨at_.toNat, by omega⟩
      have hj : j < ns.length := by omega
      have ga : atI (ns.map V.int) at_ = some (.int ns[j]) := by
        rw [ej]
        refine atI_nat ?_
        rw [List.getElem?_map, List.getElem?_eq_getElem hj]
        rfl
      refine ⟨_, rfl, _, rfl, a, _, at_, _, rfl, rfl, hs2.sq, ga, ?_⟩
      obtain ⟨o, d1, n, d2⟩ := key ns[j]
      refine ⟨o, d1, ?_⟩
      show _
      rw [d2]
      exact rest n
    · obtain ⟨o, d1, n, d2⟩ := key 0
      refine ⟨o, d1, ?_⟩
      show _
      rw [d2]
      exact rest n
  -- at = ..
  refine ⟨_, rfl, !ns.isEmpty, .inl ⟨_, hs2.sq, by rw [emp]⟩, ?_⟩
  refine ite2 (fun hn => ?_) (fun hn => ?_)
  · have nn : 0 < ns.length := by
      cases ns with
      | nil => cases hn
      | cons x y => exact Nat.succ_pos _
    refine ⟨_, rfl, t, _, rfl, cnt, _, rfl, _, _, rfl, .inl ⟨_, hs2.sq, rfl⟩, _, _, rfl, rfl, ?_, ?_⟩
    · show (0 : Int) < ((ns.map V.int).length : Int)
      rw [List.length_map]
      omega
    · rw [List.length_map]
      have h0 : 0 ≤ (c + 1) % (ns.length : Int) := Int.emod_nonneg _ (by omega)
      have h1 : (c + 1) % (ns.length : Int) < ns.length := Int.emod_lt_of_pos _ (by omega)
      exact step _ h0 (by omega) fun _ => h1
  · refine step 0 (by decide) (by decide) fun nn => ?_
    have : 0 < ns.length := by
      cases ns with
      | nil => exact absurd rfl nn
      | cons x y => exact Nat.succ_pos _
    omega
section
variable {P : Program} {w : World} {K : PySem.W.Frag} {mg : Str → Option Value} {base : Heap}
theorem cal_draw {st : Stmt} (h : FnT K mg "_law_draw" st) (S : FnScope ["script", "town", "many", "at", "rest", "number"] ["script", "town", "many"] (defScope st)) (hb : Bn "_law_draw" st ["script", "town", "many"])
    (hbody : ∀ (f : Addr) (cdv : Value) (A : Around) (outer : List PySem.Env) (s : Shared) (H : Hp) (E : XK), Room 0 (A.deeper (PyProof.Rows.envOfC "_law_draw" (defScope st) s.heap.objs.size f cdv)) → PSs (cxOf CX0 P w K mg base ["script", "town", "many", "at", "rest", "number"] "_law_draw" (defScope st) f cdv A outer s H E).nox (defBody st) (tDraw K)) :
    Cal (obT P w) P w K mg base "_law_draw" 1 ["script", "town", "many"] m__law_draw := by
  obtain ⟨f, fd, hm, hF⟩ := h
  refine ⟨f, fd, hm, hF.kp, hF.bindsN hb, hF.ok S (fun vs H Q E h => ?_) (fun cdv A outer s H vs Q E hr h => ?_)⟩
  · obtain ⟨P, ds, Qd, Ed, _, h1, h2, _⟩ := h
    rw [h1.length, h2]
  · obtain ⟨P', ds, Qd, Ed, hd, h1, h2, hf, hQ, hE⟩ := h
    refine ⟨_, PSs.nox (pss_open (pss_shut (hbody f cdv A outer s H E hr))), ?_⟩
    cases h1 with
    | nil => cases h2
    | cons a1 h1 =>
      cases h1 with
      | nil => cases h2
      | cons a2 h1 =>
        cases h1 with
        | nil => cases h2
        | cons a3 h1 =>
          cases h1 with
          | cons _ _ => cases h2
          | nil =>
            cases a3 with
            | int m =>
              obtain ⟨rfl, rfl, m0, m1, q⟩ := hf
              obtain ⟨a, ns, rfl, hs, hl⟩ := of_script a1
              obtain ⟨t, r, rfl, ne, e1, e2⟩ := of_town a2
              exact draw_reads hs hl ne e1 e2 m0 m1 fun y H' y0 y1 sm => hQ _ _ H' sm (.int y) (q y y0 y1)
            | _ => exact hf.elim
def tBegun : TS := tRet (tDisp [(tStr "count", tInt 0), (tStr "rests", tDNewK)])
theorem cal_begun {st : Stmt} (h : FnT K mg "_law_begun" st) (S : FnScope [] [] (defScope st)) (hb : Bn "_law_begun" st [])
    (hbody : ∀ (f : Addr) (cdv : Value) (A : Around) (outer : List PySem.Env) (s : Shared) (H : Hp) (E : XK), Room 0 (A.deeper (PyProof.Rows.envOfC "_law_begun" (defScope st) s.heap.objs.size f cdv)) → PSs (cxOf CX0 P w K mg base [] "_law_begun" (defScope st) f cdv A outer s H E).nox (defBody st) tBegun) :
    Cal (obT P w) P w K mg base "_law_begun" 1 [] m__law_begun := by
  obtain ⟨f, fd, hm, hF⟩ := h
  refine ⟨f, fd, hm, hF.kp, hF.bindsN hb, hF.ok S (fun vs H Q E h => ?_) (fun cdv A outer s H vs Q E hr h => ?_)⟩
  · obtain ⟨P, ds, Qd, Ed, _, h1, h2, _⟩ := h
    rw [h1.length, h2]
  · obtain ⟨P', ds, Qd, Ed, hd, h1, h2, hf, hQ, hE⟩ := h
    refine ⟨_, PSs.nox (pss_shut (hbody f cdv A outer s H E hr)), ?_⟩
    intro p np r nr
    have nrp : p ≠ r := fun z => by
      rw [z, upd_same] at nr
      cases nr
    have nr0 : H r = none := by
      rw [upd_ne (Ne.symm nrp)] at nr
      exact nr
    refine ⟨by rw [upd_ne nrp, upd_same], [(.inr "count", .int 0), (.inr "rests", .ref r)], rfl, by show 2 ≤ 15; decide, p, r, nrp, ⟨0, Int.le_refl 0, ?_⟩, ⟨[], good_nil, ?_⟩, ?_⟩
    · rw [upd_same]
      have h : ¬ ((Sum.inr ("count" : Str) : Key) = Sum.inr ("rests" : Str)) := fun e => nc (by injection e)
      have e : mergeK [] [((.inr "count" : Key), V.int 0), ((.inr "rests" : Key), V.ref r)] = townKvs 0 r := by
        show putK (putK [] (.inr "count" : Key) (.int 0)) (.inr "rests" : Key) (.ref r) = townKvs 0 r
        simp [putK, townKvs, h]
      rw [e]
    · rw [upd_ne (Ne.symm nrp), upd_same]
    · refine hQ _ _ _ (fun b o e => ?_) (dv_town ⟨p, r, rfl, nrp, ?_, upd_same⟩) hf.2
      · have h1 : b ≠ p := ne_of_none e np
        have h2 : b ≠ r := ne_of_none e nr0
        rw [upd_ne h2, upd_ne h1, upd_ne h1, upd_ne h2, upd_ne h1]
        exact e
      · rw [upd_ne nrp, upd_same]
        rfl
end
end DL

namespace DL
open PySem PySem.Spec L2
section
variable {O : Ob} {X : Cx} {E : XK}
/-! ### list(range(n)), tuple(range(n)) -/
def rgLD : D → WD (List D)
  | .int n => fun Q _ => (-(2 ^ 62) ≤ n ∧ n ≤ 16777216) ∧ Q (upTo 0 n.toNat)
  | _ => fun _ _ => False
def rgTD : D → WD D := fun d Q Ed => rgLD d (fun l => Q (.tuple l)) Ed
def eUnF (g : D → WD (List D)) (f : Rho → WD D) : Rho → WD (List D) := fun ρ Q Ed => f ρ (fun d => g d Q Ed) Ed
theorem dv_upTo {K : PySem.W.Frag} {H : Hp} {P : Addr → Prop} (n : Int) : DvAll O K H P (rgV 0 n) (upTo 0 n.toNat) := by
  unfold rgV upTo
  rw [Int.sub_zero]
  generalize List.range n.toNat = l
  induction l with
  | nil => exact .nil
  | cons x r ih => exact .cons (.int _) ih
theorem df_listRg {a : Expr} {fa : Rho → WD D} {p p2 pos pos2 : Pos} (hc : X.calm = true) (hg : Gl X "list") (hm : X.mg "list" = none) (hg2 : Gl X "range") (hm2 : X.mg "range" = none) (ha : DE O X E a fa) (na : starEach [a] X.env = (false, eval a X.env) :: starEach [] X.env := by rfl)
    (nb : starEach [.Call (.Name "range" p2) [a] [] pos2] X.env = (false, eval (.Call (.Name "range" p2) [a] [] pos2) X.env) :: starEach [] X.env := by rfl) : DF O X E (.Call (.Name "list" p) [.Call (.Name "range" p2) [a] [] pos2] [] pos) (eUnF rgLD fa) := by
  obtain ⟨ta, a1, a2⟩ := ha
  refine ⟨_, pe_listRg hc hg hm (prg_1 hg2 hm2 a1 na) nb, fun P ρ σ H Qd Ed Q hd hr hf hQ hE => a2 P ρ σ H _ Ed _ hd hr hf (fun v d H1 s1 h q => ?_) hE⟩
  cases h with
  | int n =>
    obtain ⟨⟨q1, q2⟩, q3⟩ := q
    exact ⟨n, rfl, ⟨by omega, by omega, q1, by omega, by omega⟩, fun l nl => hQ _ _ _ _ (s1.trans (same_new nl)) (s1.free nl) upd_same (dv_upTo n) q3⟩
  | _ => exact q.elim
theorem de_tupRg {a : Expr} {fa : Rho → WD D} {p p2 pos pos2 : Pos} (hc : X.calm = true) (hg : Gl X "tuple") (hm : X.mg "tuple" = none) (hg2 : Gl X "range") (hm2 : X.mg "range" = none) (ha : DE O X E a fa) (na : starEach [a] X.env = (false, eval a X.env) :: starEach [] X.env := by rfl)
    (nb : starEach [.Call (.Name "range" p2) [a] [] pos2] X.env = (false, eval (.Call (.Name "range" p2) [a] [] pos2) X.env) :: starEach [] X.env := by rfl) : DE O X E (.Call (.Name "tuple" p) [.Call (.Name "range" p2) [a] [] pos2] [] pos) (eUn1 rgTD fa) := by
  obtain ⟨ta, a1, a2⟩ := ha
  refine ⟨_, pe_tupRgF hc hg hm (prg_1 hg2 hm2 a1 na) nb, fun P ρ σ H Qd Ed Q hd hr hf hQ hE => a2 P ρ σ H _ Ed _ hd hr hf (fun v d H1 s1 h q => ?_) hE⟩
  cases h with
  | int n =>
    obtain ⟨⟨q1, q2⟩, q3⟩ := q
    exact ⟨n, rfl, ⟨by omega, by omega, q1, by omega, by omega⟩, fun l o nl no => hQ _ _ _ (s1.trans (same_new nl)) (.tup (.inl ⟨o, no, upd_same⟩) (dv_upTo n)) q3⟩
  | _ => exact q.elim
end
/-! ### the law's own def -/
theorem fnok_of {O : Ob} {P : Program} {w : World} {K : PySem.W.Frag} {mg : Str → Option Value} {base : Heap} {x : Str} {st : Stmt} {N ps : List Str} {k : Nat} {F : FS} {f : Addr} {fd : FuncData} (hF : FunD K x x (defArgs st) (defBody st) (defScope st) [] [] f fd) (S : FnScope N ps (defScope st))
    (hbody : ∀ (cdv : Value) (A : Around) (outer : List PySem.Env) (s : Shared) (H : Hp) (E : XK), Room k (A.deeper (PyProof.Rows.envOfC x (defScope st) s.heap.objs.size f cdv)) → DSs O (cxOf CX0 P w K mg base N x (defScope st) f cdv A outer s H E).nox E0 (defBody st) F) :
    FnOk P w K mg base CX0 (k + 1) f fd ps (spD O K mg (fn0 N.length F) ps.length) := by
  refine hF.ok S (fun vs H Q E h => ?_) (fun cdv A outer s H vs Q E hr h => ?_)
  · obtain ⟨P, ds, Qd, Ed, _, h1, h2, _⟩ := h
    rw [h1.length, h2]
  · obtain ⟨P', ds, Qd, Ed, hd, h1, h2, hf, hQ, hE⟩ := h
    obtain ⟨t, t1, t2⟩ := hbody cdv A outer s H E hr
    exact ⟨t, PSs.nox t1, t2 H P' _ _ H _ { nx := fun _ => Qd .none, rt := Qd } _ hd (start_rg h1) hf ⟨fun Γ σ H' own r q => hQ _ _ H' r.same .non q, fun v d H' s h q => hQ v d H' s h q, fun _ _ _ _ _ q => q.elim, fun _ _ _ _ _ q => q.elim, fun _ _ _ _ _ z => z.elim⟩⟩
/-- the law says true -/
theorem law_says {P : Program} {w : World} {K : PySem.W.Frag} {mg : Str → Option Value} {F : List D → WD D} (hF : F [sD] (fun d => d = .bool true) (fun _ => False)) {H : Hp} {a : Addr} {ns : List Int} (hl : ns.length ≤ 63) (hs : SqL K H a (ns.map V.int)) (ho : Only H) :
    spD (obT P w) K mg F 1 [.ref a] H (fun v _ => v = .bl true) fun _ _ _ => False := by
  refine ⟨fun _ => False, [sD], _, _, fun _ z => z.elim, .cons (dv_script ?_) .nil, rfl, hF, fun v d H' _ h q => ?_, fun _ _ _ _ _ z => z.elim⟩
  · exact ⟨a, ns, rfl, SqS.of ho hs, hl⟩
  · subst q
    cases h
    rfl
end DL

namespace DL
open PySem PySem.Spec PyProof.Rows L2
/-! ### pairs of zip and enumerate, known to the object -/
section
theorem pair_laid {X : Cx} {pins : List (Addr × Obj)} {σ : L2.St} {H : Hp} {s : Shared} {h2 : Heap} {ch : List Addr} {x y : V} {u v : Value} {tk : Nat} (I : Inv X pins σ H s) (k : ∀ b o, b ∉ ch → s.heap.get? b = some o → h2.get? b = some o) (hf : ∀ b ∈ ch, FpOk X pins H b)
    (hT : h2.get? s.heap.objs.size = some (tupO [u, v] 0)) (ru : RelV x u) (rv : RelV y v) : Inv X pins σ (upd H s.heap.objs.size (.frz (tupO [u, v] 0) (.tup [x, y]))) { s with heap := h2, toks := tk } :=
  I.turnedNew (ch := ch) k hf (Nat.le_refl _) (show ObjOk _ _ _ h2 _ (.frz (tupO [u, v] 0) (.tup [x, y])) from ⟨hT, by show 2 ≤ sizeLine; decide, [u, v], .cons ru (.cons rv .nil), _, hT, rfl, 0, rfl⟩)
def Fz (H : Hp) (T : Addr) (x y : V) (H' : Hp) : Prop := ∃ o : Obj, o.dict = none ∧ H T = none ∧ H' = upd H T (.frz o (.tup [x, y]))
def ItzF (K : PySem.W.Frag) (a b : Addr) : It := ⟨(Itz K a b).go, fun i H v H' => ∃ T x y, v = .ref T ∧ Fz H T x y H' ∧ (∀ xs, SqL K H a xs → xs[i]? = some x) ∧ ∀ ys, SqL K H b ys → ys[i]? = some y, (Itz K a b).stop⟩
theorem turn_zipF {P : Program} {w : World} {K : PySem.W.Frag} {elts : List Expr} {kk : Nat} {tpos : Pos} {a b z TI TO i1 i2 : Addr} (D : ZipApart z TI TO i1 i2 a b) :
    Turn P w K (.Tuple elts kk tpos) (ItzF K a b) [z, TI, TO, i1, i2] z (fun i h => IsZip h z TI TO .none ∧ IsPair h TI (.ref i1) (.ref i2) ∧ (∃ x y, IsPair h TO x y) ∧ h.IsListIter i1 a i ∧ h.IsListIter i2 b i) :=
  { (turn_zip (P := P) (w := w) (K := K) (elts := elts) (kk := kk) (tpos := tpos) D) with
    item := fun X eP ew eK ec i pins s σ H E I hf st hg => by
      subst eP ew eK
      obtain ⟨w1, w2, ⟨x0, y0, w3⟩, w4, w5⟩ := st
      obtain ⟨xs, ys, x, y, qx, qy, ex, ey⟩ := hg
      obtain ⟨as, ra, pa, _⟩ := I.list qx
      obtain ⟨bs, rb, pb, _⟩ := I.list qy
      obtain ⟨u, eu, ru⟩ := ra.get ex
      obtain ⟨v, ev, rv⟩ := rb.get ey
      have zl := Heap.lt_size w1
      refine wpAny_pyNext_zip_item D w1 w2 w3 w4 w5 pa.isList pb.isList (x := u) (y := v) (by simpa using eu) (by simpa using ev) fun h1 z1 t1 l1 m1 n1 sz kp => ?_
      refine ⟨_, rfl, wpAny_letOwnedTupleGo_zip (s := { s with heap := h1 }) z1 fun h2 z2 sb => ?_⟩
      have nT : h2.get? s.heap.objs.size = some (tupO [u, v] 0) := (sb.2 _ (Nat.ne_of_gt zl)).trans n1
      have I1 := pair_laid (tk := s.toks) (ch := [z, TI, TO, i1, i2]) I (fun c o nc e => (sb.2 c (by simp at nc; exact nc.1)).trans (kp c o (by simp at nc; exact nc.1) (by simp at nc; exact nc.2.2.1) (by simp at nc; exact nc.2.2.2.1) (by simp at nc; exact nc.2.2.2.2) e)) hf nT ru rv
      refine ⟨.ref s.heap.objs.size, _, I1, rfl, ⟨_, x, y, rfl, ⟨_, rfl, I.hok.fresh (Nat.le_refl _), rfl⟩, fun l hl => ?_, fun l hl => ?_⟩, ⟨z2, ?_, ⟨u, v, ?_⟩, ?_, ?_⟩, fun c hc => ?_⟩
      · exact I.list_inj hl qx ▸ ex
      · exact I.list_inj hl qy ▸ ey
      · exact (sb.2 TI D.TIz).trans (kp TI _ D.TIz D.TITO D.TIi1 D.TIi2 w2)
      · exact (sb.2 TO D.TOz).trans t1
      · exact l1.at fun o e => (sb.2 i1 D.i1z).trans e
      · exact m1.at fun o e => (sb.2 i2 D.i2z).trans e
      · have lt : c < s.heap.objs.size := by
          simp only [List.mem_cons, List.not_mem_nil, or_false] at hc
          rcases hc with rfl | rfl | rfl | rfl | rfl
          · exact zl
          · exact Heap.lt_size w2
          · exact Heap.lt_size w3
          · exact Heap.lt_size w4.choose_spec.1
          · exact Heap.lt_size w5.choose_spec.1
        exact (upd_ne (Nat.ne_of_lt lt)).trans (hf c hc).1 }
def iZipF (K : PySem.W.Frag) (ta : TA) : TI := fun σ H R => ta σ H fun vs H1 => ∃ a b xs ys, vs = [.ref a, .ref b] ∧ SqL K H1 a xs ∧ SqL K H1 b ys ∧ R (ItzF K a b) H1
theorem pi_zipF {X : Cx} {e e2 : Expr} {ta : TA} {p pos tpos : Pos} {elts : List Expr} {kk : Nat} (hg : Gl X "zip") (hm : X.mg "zip" = none) (ha : PA X [e, e2] ta) (hs : starEach [e, e2] X.env = (false, eval e X.env) :: starEach [e2] X.env) (hpl : (backTo pos (starEach [e2] X.env)).any (·.1) = false) :
    PI X (.Tuple elts kk tpos) (.Call (.Name "zip" p) [e, e2] [] pos) (iZipF X.K ta) := by
  refine ⟨fun pins s σ H R I h => Call_ (ld_blt I hg hm PyProof.Rows.boot_zip (PyProof.Rows.callWith_type1 (thn (ha.run pos pins s σ H _ I h) fun us s1 ⟨vs, H1, I1, r1, a, b, xs, ys, ex, qx, qy, q⟩ => ?_) hs hpl))⟩
  subst ex
  obtain ⟨u, r1', r2'⟩ : ∃ u, us = .ref a :: u ∧ u = [.ref b] := by
    cases r1 with
    | cons r rr =>
      cases rr with
      | cons r' rr =>
        cases rr
        cases r
        cases r'
        exact ⟨_, rfl, rfl⟩
  subst r1' r2'
  obtain ⟨as, ra, pa, _⟩ := I1.list qx
  obtain ⟨bs, rb, pb, _⟩ := I1.list qy
  refine call_zip_2 pa.isList pb.isList fun h1 w1 w2 w3 w4 w5 sz kp => wpAny_pyIter_zip w1 ?_
  refine ⟨s1.heap.objs.size + 4, [s1.heap.objs.size + 4, s1.heap.objs.size + 2, s1.heap.objs.size + 3, s1.heap.objs.size, s1.heap.objs.size + 1], _, _, H1, rfl, I1.kept (t' := s1.toks) kp, turn_zipF (PySem.W.ktu_apart s1.heap.objs.size a b pa.lt pb.lt), ⟨w1, w2, ⟨_, _, w3⟩, w4, w5⟩, fun c hc => ?_, q⟩
  have le : s1.heap.objs.size ≤ c := by
    simp only [List.mem_cons, List.not_mem_nil, or_false] at hc
    rcases hc with rfl | rfl | rfl | rfl | rfl <;> omega
  exact I1.fpOk le (I1.hok.fresh le)
def IteF (K : PySem.W.Frag) (a : Addr) : It := ⟨(Ite K a).go, fun i H v H' => ∃ T x, v = .ref T ∧ Fz H T (.int (i : Nat)) x H' ∧ ∀ xs, SqL K H a xs → xs[i]? = some x, (Ite K a).stop⟩
theorem turn_enumF {P : Program} {w : World} {K : PySem.W.Frag} {elts : List Expr} {kk : Nat} {tpos : Pos} (a e it : Addr) :
    Turn P w K (.Tuple elts kk tpos) (IteF K a) [e, it] e (fun i h => (∃ old, IsEnum h e it ((i : Nat) : Int) old) ∧ h.IsListIter it a i ∧ e ≠ it) :=
  { (turn_enum (P := P) (w := w) (K := K) (elts := elts) (kk := kk) (tpos := tpos) a e it) with
    item := fun X eP ew eK ec i pins s σ H E I hf st hg => by
      subst eP ew eK
      obtain ⟨⟨old, w1⟩, w2, ne⟩ := st
      obtain ⟨xs, x, qx, ex⟩ := hg
      obtain ⟨as, ra, pa, _⟩ := I.list qx
      obtain ⟨u, eu, ru⟩ := ra.get ex
      have zl := Heap.lt_size w1
      refine wpAny_pyNext_enum_item w1 w2 pa.isList (x := u) (by simpa using eu) ne fun h1 ow l1 n1 sz kp => ?_
      refine ⟨_, rfl, wpAny_letOwnedTupleGo_enum (s := { s with heap := h1, toks := s.toks + 1 }) ow fun h2 z2 sb => ?_⟩
      have nT : h2.get? s.heap.objs.size = some (tupO [.int i s.toks, u] 0) := (sb.2 _ (Nat.ne_of_gt zl)).trans n1
      have I1 := pair_laid (tk := s.toks + 1) (x := .int (i : Nat)) (ch := [e, it]) I (fun c o nc q => (sb.2 c (by simp at nc; exact nc.1)).trans (kp c o (by simp at nc; exact nc.1) (by simp at nc; exact nc.2) q)) hf nT ⟨_, rfl⟩ ru
      refine ⟨.ref s.heap.objs.size, _, I1, rfl, ⟨_, x, rfl, ⟨_, rfl, I.hok.fresh (Nat.le_refl _), rfl⟩, fun l hl => I.list_inj hl qx ▸ ex⟩, ⟨⟨u, ?_⟩, l1.at fun o q => (sb.2 it (Ne.symm ne)).trans q, ne⟩, fun c hc => ?_⟩
      · rw [show ((i + 1 : Nat) : Int) = (i : Int) + 1 by omega]
        exact z2
      · have lt : c < s.heap.objs.size := by
          simp only [List.mem_cons, List.not_mem_nil, or_false] at hc
          rcases hc with rfl | rfl
          · exact zl
          · exact Heap.lt_size w2.choose_spec.1
        exact (upd_ne (Nat.ne_of_lt lt)).trans (hf c hc).1 }
end
section
variable {O : Ob} {X : Cx} {E : XK} {a b : Expr} {pos : Pos}
/-! ### x, y = two new lists -/
def sParFF (i j : Nat) (fa fb : Rho → WD (List D)) : FS := fun Γ k => fa (clean Γ) (fun xs => fb (clean Γ) (fun ys => k.nx ((Γ.set i (some (.own (.lst xs)))).set j (some (.own (.lst ys))))) k.ex) k.ex
theorem ds_parFF {i j : Nat} {x y : Str} {fa fb : Rho → WD (List D)} {px py pt : Pos} {kt k2 pt2} (hc : X.calm = true) (hN : X.N.Nodup) (ha : DF O X E a fa) (hb : DF O X E b fb) (hw : swappedStores [.Tuple [.Name x px, .Name y py] kt pt] (.Tuple [a, b] k2 pt2) X.env = pure (some [x, y]))
    (hi : X.N[i]? = some x := by rfl) (hj : X.N[j]? = some y := by rfl) (hij : i ≠ j := by decide)
    (hx : X.env.scope.names.lookup x = some .local := by rfl) (hy : X.env.scope.names.lookup y = some .local := by rfl)
    (hs : swapsWithSole [.Tuple [.Name x px, .Name y py] kt pt] (.Tuple [a, b] k2 pt2) pos.line X.env = pure false := by rfl)
    (h1 : starEach [a, b] X.env = (false, eval a X.env) :: starEach [b] X.env := by rfl) (h2 : starEach [b] X.env = (false, eval b X.env) :: starEach [] X.env := by rfl) :
    DS O X E (.Assign [.Tuple [.Name x px, .Name y py] kt pt] (.Tuple [a, b] k2 pt2) pos) (sParFF i j fa fb) := by
  obtain ⟨ta, a1, a2⟩ := ha
  obtain ⟨tb, b1, b2⟩ := hb
  refine ⟨_, ps_par hc hN hi hj hij hx hy (pa_cons a1 (pa_cons b1 pa_nil h2) h1) hw hs, fun H0 P0 Γ σ H own k D hd r hf l => a2 _ _ σ H _ _ _ (r.dom hd) r.rs hf (fun p vs ds H1 s1 n1 e1 v1 q1 => ?_) (l.exH r)⟩
  have hp : ∀ c, (Pw P0 own c ∨ c = p) → Pw P0 own c ∨ H c = none := fun c z => z.imp id fun q => by rw [q]; exact n1
  have hd1 : Dom H1 (fun c => Pw P0 own c ∨ c = p) := fun c z => by
    rcases z with z | z
    · exact (r.dom hd).same s1 c z
    · rw [z]
      exact ⟨_, e1, .inl ⟨_, rfl⟩⟩
  refine b2 (fun c => Pw P0 own c ∨ c = p) _ σ H1 _ _ _ hd1 (r.rs.kf hp (.of s1) (r.dom hd)) q1 (fun q ws es H2 s2 n2 e2 v2 q2 => ⟨_, _, rfl, ?_⟩) ((l.exH r).same s1)
  have r1 := own_new (i := i) (c := .lst ds) r hd s1 n1 ⟨vs, e1, v1⟩
  have r2 := own_new (i := j) (c := .lst es) r1 hd s2 n2 ⟨ws, e2, ?_⟩
  · exact l.nx _ _ _ _ r2 q2
  · refine v2.less fun c z => ?_
    rcases z with z | z
    · refine .inl ?_
      rcases z with z | ⟨m, z⟩
      · exact .inl (.inl z)
      · unfold ownSet at z
        split at z
        · cases z
          exact .inr rfl
        · exact .inl (.inr ⟨m, z⟩)
    · exact .inr z
/-! ### x, y, z = three values -/
def sPar3 (i j m : Nat) (f : Rho → WD (List D)) : FS := fun Γ k => f (clean Γ) (fun ds => match ds with
  | [d, e, c] => k.nx (((Γ.set i (some (.val d))).set j (some (.val e))).set m (some (.val c)))
  | _ => False) k.ex
theorem ds_par3 {i j m : Nat} {x y z : Str} {c : Expr} {f : Rho → WD (List D)} {px py pz pt : Pos} {kt k2 pt2} (hc : X.calm = true) (hN : X.N.Nodup) (ha : DA O X E [a, b, c] f) (hw : swappedStores [.Tuple [.Name x px, .Name y py, .Name z pz] kt pt] (.Tuple [a, b, c] k2 pt2) X.env = pure (some [x, y, z]))
    (hi : X.N[i]? = some x := by rfl) (hj : X.N[j]? = some y := by rfl) (hm : X.N[m]? = some z := by rfl) (hij : i ≠ j := by decide) (him : i ≠ m := by decide) (hjm : j ≠ m := by decide)
    (hx : X.env.scope.names.lookup x = some .local := by rfl) (hy : X.env.scope.names.lookup y = some .local := by rfl) (hz : X.env.scope.names.lookup z = some .local := by rfl)
    (hs : swapsWithSole [.Tuple [.Name x px, .Name y py, .Name z pz] kt pt] (.Tuple [a, b, c] k2 pt2) pos.line X.env = pure false := by rfl) :
    DS O X E (.Assign [.Tuple [.Name x px, .Name y py, .Name z pz] kt pt] (.Tuple [a, b, c] k2 pt2) pos) (sPar3 i j m f) := by
  obtain ⟨t, a1, a2⟩ := ha
  refine ⟨_, ps_par3 hc hN hi hj hm hij him hjm hx hy hz a1 hw hs, fun H0 P0 Γ σ H own k D hd r hf l => a2 _ _ σ H _ _ _ (r.dom hd) r.rs hf (fun vs ds H' s h _ q => ?_) (l.exH r)⟩
  cases h with
  | nil => exact q.elim
  | cons h1 h =>
    cases h with
    | nil => exact q.elim
    | cons h2 h =>
      cases h with
      | nil => exact q.elim
      | cons h3 h =>
        cases h with
        | nil => exact ⟨_, _, _, rfl, l.nx _ _ _ _ ((((r.step s).set h1).set h2).set h3) q⟩
        | cons _ _ => exact q.elim
/-! ### zip of two lists -/
def zipD : List D → WD (List D)
  | [.list xs, .list ys] => fun Q _ => Q ((xs.zip ys).map fun p => .tuple [p.1, p.2])
  | _ => fun _ _ => False
theorem di_zip {elts : List Expr} {kk : Nat} {tpos p : Pos} {e e2 : Expr} {fa : Rho → WD (List D)} (hg : Gl X "zip") (hm : X.mg "zip" = none) (ha : DA O X E [e, e2] fa)
    (hs : starEach [e, e2] X.env = (false, eval e X.env) :: starEach [e2] X.env := by rfl) (hpl : (backTo pos (starEach [e2] X.env)).any (·.1) = false := by rfl) : DI O X E (.Tuple elts kk tpos) (.Call (.Name "zip" p) [e, e2] [] pos) (eCbF zipD fa) := by
  obtain ⟨ta, a1, a2⟩ := ha
  refine ⟨_, pi_zipF hg hm a1 hs hpl, fun P ρ σ H Qd Ed R hd hr hf hQ hE => a2 P ρ σ H _ Ed _ hd hr hf (fun vs ds H1 s1 h _ q => ?_) hE⟩
  have hm1 := hd.same s1
  cases h with
  | nil => exact q.elim
  | cons h1 h =>
    cases h with
    | nil => cases h1 <;> exact q.elim
    | cons h2 h =>
      cases h with
      | cons _ _ => cases h1 <;> cases h2 <;> exact q.elim
      | nil =>
        cases h1 with
        | @lst a xs ds e1 n1 r1 =>
          cases h2 with
          | @lst b ys es e2 n2 r2 =>
            refine ⟨a, b, _, _, rfl, .inl (.inl e1), .inl (.inl e2), hQ _ _ H1 s1 (fun P2 H2 pp hp k2 => ?_) q⟩
            have f1 := k2 _ _ e1 (out_of hp e1 n1)
            have f2 := k2 _ _ e2 (out_of hp e2 n2)
            have q1 : SqL X.K H2 a xs := .inl (.inl f1)
            have q2 : SqL X.K H2 b ys := .inl (.inl f2)
            have l1 := r1.length
            have l2 := r2.length
            refine ⟨fun i hi => ?_, fun i x H' d y e3 => ?_, fun i hi => ⟨xs, ys, q1, q2, ?_⟩⟩
            · rw [List.length_map, List.length_zip] at hi
              obtain ⟨x, ex⟩ := get_lt (show i < xs.length by omega)
              obtain ⟨y, ey⟩ := get_lt (show i < ys.length by omega)
              exact ⟨xs, ys, x, y, q1, q2, ex, ey⟩
            · obtain ⟨T, u, v, rfl, ⟨o, no, nT, rfl⟩, y1, y2⟩ := y
              refine ⟨same_new nT, ?_⟩
              rw [List.getElem?_map] at e3
              cases ez : (ds.zip es)[i]? with
              | none =>
                rw [ez] at e3
                cases e3
              | some pr =>
                rw [ez] at e3
                cases e3
                rw [List.getElem?_zip_eq_some] at ez
                obtain ⟨u', eu, hu⟩ := r1.get ez.1
                obtain ⟨v', ev, hv⟩ := r2.get ez.2
                have z1 := y1 xs q1
                rw [eu] at z1
                cases z1
                have z2 := y2 ys q2
                rw [ev] at z2
                cases z2
                exact .tup (.inl ⟨o, no, upd_same⟩) (.cons ((hu.kf hp k2 hm1).same (same_new nT)) (.cons ((hv.kf hp k2 hm1).same (same_new nT)) .nil))
            · rw [List.length_map, List.length_zip] at hi
              omega
          | _ => exact q.elim
        | _ => cases h2 <;> exact q.elim
/-! ### enumerate of a list or a tuple -/
def enumerateD : List D → WD (List D)
  | [.list xs] => fun Q _ => Q ((upTo 0 xs.length).zip xs |>.map fun p => .tuple [p.1, p.2])
  | [.tuple xs] => fun Q _ => Q ((upTo 0 xs.length).zip xs |>.map fun p => .tuple [p.1, p.2])
  | _ => fun _ _ => False
end
section
theorem meets_enumerate_newT (l : Addr) (items : Array Value) (n : Nat) (dct : Option Addr) (sl : Array (Option Value)) :
    Meets (Builtin.«enumerate.__new__» ⟨[.type "enumerate", .ref l], []⟩) (fun _ R s => s.heap.get? l = some { cls := .type "tuple", dict := dct, data := .seq items n, slots := sl } ∧
      R (.ok (.ret (.ref (s.heap.push { cls := .type "tuple_iterator", data := .fields #[.ref l, .int 0 0] }).objs.size)))
        { s with heap := (s.heap.push { cls := .type "tuple_iterator", data := .fields #[.ref l, .int 0 0] }).push { cls := .type "enumerate", data := .fields #[.none, .bool false, .ref s.heap.objs.size, rawInt 0, .none, .none] } }) :=
  .of_wp fun prog w A R s h => by
    obtain ⟨hp, g, d, tk, os⟩ := s
    obtain ⟨hl, h⟩ := h
    have hsub := sub_enumerate
    have hL : Heap.IsTuple (Shared.heap ⟨hp, g, d, tk, os⟩) l items := ⟨_, hl, rfl, n, rfl⟩
    wp_walk using AutoSeq1.wpAny_loadPart' hl
    refine wpAny_stack_any fun st => wpAny_pure ?_
    split
    · rename_i c _ _ _ _ _
      cases (c == Value.type "enumerate")
      · wp_walk using AutoSeq1.wpAny_loadPart' hl, wpAny_pyIter_tuple hL
        exact ⟨_, rfl, h⟩
      · wp_walk using AutoSeq1.wpAny_loadPart' hl, wpAny_pyIter_tuple hL
        exact ⟨_, rfl, h⟩
    · wp_walk using AutoSeq1.wpAny_loadPart' hl, wpAny_pyIter_tuple hL
      exact ⟨_, rfl, h⟩
theorem draws_tuple {prog : Program} {w : World} {A : Around} (hh : A.handled = none) (it l : Addr) (hne : l ≠ it) (items : Array Value) :
    Draws prog w A it [it, l] items.size (fun i v => items[i]? = some v) (fun i h => h.IsTupleIter it l i ∧ h.IsTuple l items) where
  live := fun _ _ st => let ⟨o, ho, _⟩ := st.1; ⟨o, ho⟩
  frame := fun _ _ _ st hk => ⟨let ⟨o, ho, hc, hd⟩ := st.1; ⟨o, hk it (by simp) o ho, hc, hd⟩, let ⟨o, ho, hc, n, hd⟩ := st.2; ⟨o, hk l (by simp) o ho, hc, n, hd⟩⟩
  item := fun i s Q E hi st hQ => by
    refine wpAny_nextOf_tuple_item st.1 st.2 (x := items[i]) (by simp [hi]) fun h' hit' hs' => ?_
    exact hQ _ h' s.toks (by simp [hi]) ⟨hit', st.2.extBut hs'.extBut hne⟩ hs'
  done := fun s Q E st hE => wpAny_nextOf_tuple_end hh st.1 st.2 (by simp) hE
/-- the tuple at a, its items in new pairs -/
def IteT (K : PySem.W.Frag) (a : Addr) : It :=
  ⟨fun i H => ∃ (xs : List V) (x : V), SqT K H a xs ∧ xs[i]? = some x, fun i H v H' => ∃ T x, v = .ref T ∧ Fz H T (.int (i : Nat)) x H' ∧ ∀ xs, SqT K H a xs → xs[i]? = some x, fun i H => ∃ xs : List V, SqT K H a xs ∧ xs.length ≤ i⟩
theorem turn_enumT {P : Program} {w : World} {K : PySem.W.Frag} {elts : List Expr} {kk : Nat} {tpos : Pos} (a e it : Addr) :
    Turn P w K (.Tuple elts kk tpos) (IteT K a) [e, it] e (fun i h => (∃ old, IsEnum h e it ((i : Nat) : Int) old) ∧ h.IsTupleIter it a i ∧ e ≠ it ∧ a ≠ it ∧ e ≠ a) where
  mem := by simp
  obj := fun i h st b hb => by
    obtain ⟨⟨old, he⟩, ⟨o, ho, hc, hd⟩, _⟩ := st
    have e' : b = e ∨ b = it := by simpa using hb
    rcases e' with z | z
    · rw [z]
      exact ⟨_, he, fun v q => nomatch q⟩
    · rw [z]
      exact ⟨o, ho, fun v q => by rw [hd] at q; cases q⟩
  keep := fun i h h' st k => let ⟨⟨old, he⟩, ⟨o, ho, hc, hd⟩, hne⟩ := st; ⟨⟨old, k e (by simp) _ he⟩, ⟨o, k it (by simp) o ho, hc, hd⟩, hne⟩
  item := by
    intro X hP hw hK hc i pins s σ H E I hf st hg
    subst hP hw hK
    obtain ⟨⟨old, he⟩, hit, hne, hai, hea⟩ := st
    obtain ⟨xs, x, hq, hx⟩ := hg
    obtain ⟨its, rv, p, hz⟩ := I.tuple hq
    obtain ⟨u, hu, ru⟩ := rv.get hx
    have hel : e < s.heap.objs.size := Heap.lt_size he
    have hil : it < s.heap.objs.size := by
      obtain ⟨_, q, _⟩ := hit
      exact Heap.lt_size q
    have hlen : i < its.toArray.size := by
      rw [List.size_toArray]
      exact (List.getElem?_eq_some_iff.mp hu).1
    refine wpAny_pyNext_enum_itemD (draws_tuple (A := X.A.in1) (I.ok.hd hc) it a hai its.toArray) he ⟨hit, p⟩ hlen hne (by simp [hne, hea]) fun x' h' tk px ho hst' hT hsz hk => ?_
    have ex : x' = u := by
      have px' : its[i]? = some x' := by simpa using px
      rw [hu] at px'
      exact (Option.some.inj px').symm
    subst ex
    refine ⟨_, rfl, wpAny_letOwnedTupleGo_enum (s := { s with heap := h', toks := tk + 1 }) ho fun h'' he' sb => ?_⟩
    have nT : h''.get? s.heap.objs.size = some (tupO [.int i tk, x'] 0) := (sb.2 _ (Nat.ne_of_gt hel)).trans hT
    have I1 := pair_laid (tk := tk + 1) (x := .int (i : Nat)) (ch := [e, it]) I (fun c o nc q => (sb.2 c (by simp at nc; exact nc.1)).trans (hk c o (by simp at nc; exact nc.1) (by simp at nc; exact nc.2) q)) hf nT ⟨_, rfl⟩ ru
    refine ⟨.ref s.heap.objs.size, _, I1, rfl, ⟨_, x, rfl, ⟨_, rfl, I.hok.fresh (Nat.le_refl _), rfl⟩, fun ys hy => ?_⟩, ⟨⟨x', ?_⟩, ?_, hne, hai, hea⟩, fun b hb => ?_⟩
    · obtain ⟨its', rv', p', _⟩ := I.tuple hy
      have e1 : its' = its := by
        obtain ⟨o, ho, hc, n, hd⟩ := p
        obtain ⟨o', ho', hc', n', hd'⟩ := p'
        rw [ho] at ho'
        cases ho'
        rw [hd] at hd'
        injection hd' with hd' _
        have := congrArg Array.toList hd'
        simpa using this.symm
      subst e1
      rw [Vals.inj rv' rv]
      exact hx
    · have e1 : ((i + 1 : Nat) : Int) = (i : Int) + 1 := by omega
      rw [e1]
      exact he'
    · obtain ⟨o, h1, h2, h3⟩ := hst'.1
      exact ⟨o, (sb.2 it (Ne.symm hne)).trans h1, h2, h3⟩
    · have hb' : b < s.heap.objs.size := by
        have e' : b = e ∨ b = it := by simpa using hb
        rcases e' with z | z
        · rw [z]
          exact hel
        · rw [z]
          exact hil
      rw [upd_ne (Nat.ne_of_lt hb')]
      exact (hf b hb).1
  done := by
    intro X hP hw hK hc i pins s σ H E I hf st hg
    subst hP hw hK
    obtain ⟨⟨old, he⟩, hit, hne, hai, hea⟩ := st
    obtain ⟨xs, hq, hx⟩ := hg
    obtain ⟨its, rv, p, hz⟩ := I.tuple hq
    obtain ⟨f0, f1, f2, f3, f4, f5⟩ := hf it (by simp)
    have hl := rv.length
    have D : Draws X.prog X.w X.A.in1 it [it, a] i (fun _ _ => True) (fun j h => j = i ∧ h.IsTupleIter it a i ∧ h.IsTuple a its.toArray) :=
      { live := fun _ _ st => let ⟨o, ho, _⟩ := st.2.1; ⟨o, ho⟩
        frame := fun _ _ _ st hk => ⟨st.1, let ⟨o, ho, hc, hd⟩ := st.2.1; ⟨o, hk it (by simp) o ho, hc, hd⟩, let ⟨o, ho, hc, n, hd⟩ := st.2.2; ⟨o, hk a (by simp) o ho, hc, n, hd⟩⟩
        item := fun j s Q E hi st hQ => absurd hi (by rw [st.1]; exact Nat.lt_irrefl _)
        done := fun s Q E st hE => wpAny_nextOf_tuple_end (I.ok.hd hc) st.2.1 st.2.2 (by simp; omega) hE }
    exact wpAny_pyNext_enum_endD D he ⟨rfl, hit, p⟩ fun h' eb => ⟨rfl, I.turned (t' := s.toks) (fun b o hb q => eb b o hb q) f0 f1 f3 f4 f5⟩
  self := fun A i s Q E st h => let ⟨⟨_, he⟩, _⟩ := st; wpAny_pyIter_enum he h
theorem call_enumerate_tuple {prog : Program} {w : World} {A : Around} {E : Value → Shared → Prop} {s : Shared} {l : Addr} {items : Array Value} {Q : Value → Shared → Prop} (hL : s.heap.IsTuple l items)
    (h : ∀ h', IsEnum h' (s.heap.objs.size + 1) s.heap.objs.size 0 .none → h'.IsTupleIter s.heap.objs.size l 0 → h'.objs.size = s.heap.objs.size + 2 →
      (∀ b o, s.heap.get? b = some o → h'.get? b = some o) → Q (.ref (s.heap.objs.size + 1)) { s with heap := h' }) :
    wpAny (model prog w) A (call (.type "enumerate") [.ref l]) Q E s := by
  obtain ⟨⟨c, dct, dt, sl⟩, hl, hc, n, hd⟩ := hL
  replace hc : c = .type "tuple" := hc
  replace hd : dt = .seq items n := hd
  subst hc hd
  refine callType_new F.called_enumerate (by decide) (F.typeCall_enumerate_1 _) (F.newCall_enumerate_1 _) (fun obj => F.args_object_init_2 obj _) F.entry_enumerate_new
    (meets_enumerate_newT l items n dct sl) ⟨hl, ?_⟩
  have hz : (s.heap.push { cls := .type "tuple_iterator", data := .fields #[.ref l, .int 0 0] }).objs.size = s.heap.objs.size + 1 := Heap.size_push ..
  show _ ∧ _
  rw [hz]
  have he : IsEnum ((s.heap.push { cls := .type "tuple_iterator", data := .fields #[.ref l, .int 0 0] }).push
      { cls := .type "enumerate", data := .fields #[.none, .bool false, .ref s.heap.objs.size, rawInt 0, .none, .none] }) (s.heap.objs.size + 1) s.heap.objs.size 0 .none := by
    have := Heap.get?_push_size (s.heap.push { cls := .type "tuple_iterator", data := .fields #[.ref l, .int 0 0] })
      (o := { cls := .type "enumerate", data := .fields #[.none, .bool false, .ref s.heap.objs.size, rawInt 0, .none, .none] }) rfl
    rw [hz] at this
    exact this
  refine ⟨⟨_, he, rfl⟩, h _ he ⟨_, Heap.get?_push_of_some _ (Heap.get?_push_size _ rfl), rfl, rfl⟩ (by rw [Heap.size_push, hz]) fun b o x => Heap.get?_push_of_some _ (Heap.get?_push_of_some _ x)⟩
def iEnumA (K : PySem.W.Frag) (ta : TA) : TI := fun σ H R => ta σ H fun vs H1 => ∃ a xs, vs = [.ref a] ∧ ((SqL K H1 a xs ∧ R (IteF K a) H1) ∨ (SqT K H1 a xs ∧ R (IteT K a) H1))
theorem pi_enumA {X : Cx} {e : Expr} {ta : TA} {p pos tpos : Pos} {elts : List Expr} {kk : Nat} (hg : Gl X "enumerate") (hm : X.mg "enumerate" = none) (ha : PA X [e] ta) (hs : starEach [e] X.env = [(false, eval e X.env)] := by rfl) :
    PI X (.Tuple elts kk tpos) (.Call (.Name "enumerate" p) [e] [] pos) (iEnumA X.K ta) := by
  refine ⟨fun pins s σ H R I h => ?_⟩
  refine Call_ (ld_blt I hg hm boot_enumerate (PyProof.Rows.callWith_type1 (thn (ha.run pos pins s σ H _ I h) fun us s1 ⟨vs, H1, I1, r1, q1⟩ => ?_) hs rfl))
  obtain ⟨a, xs, ex, q1⟩ := q1
  subst ex
  cases r1 with
  | cons r rr =>
    cases rr
    cases r
    have fin : ∀ h', (∀ b o, s1.heap.get? b = some o → h'.get? b = some o) → Inv X pins σ H1 { s1 with heap := h' } ∧ ∀ b, b ∈ [s1.heap.objs.size + 1, s1.heap.objs.size] → s1.heap.objs.size ≤ b := fun h' hk => ⟨I1.kept (t' := s1.toks) hk, fun b hb => by
      have e' : b = s1.heap.objs.size + 1 ∨ b = s1.heap.objs.size := by simpa using hb
      rcases e' with z | z
      · rw [z]
        exact Nat.le_add_right _ _
      · rw [z]
        exact Nat.le_refl _⟩
    rcases q1 with ⟨hq, q⟩ | ⟨hq, q⟩
    · obtain ⟨its, rv, p', hz⟩ := I1.list hq
      refine call_enumerate_list p'.isList fun h' he hit hsz hk => wpAny_pyIter_enum he ?_
      obtain ⟨I2, le⟩ := fin h' hk
      exact ⟨s1.heap.objs.size + 1, [s1.heap.objs.size + 1, s1.heap.objs.size], _, _, H1, rfl, I2, turn_enumF a (s1.heap.objs.size + 1) s1.heap.objs.size, ⟨⟨.none, he⟩, hit, Nat.succ_ne_self _⟩, fun b hb => I1.fpOk (le b hb) (I1.hok.fresh (le b hb)), q⟩
    · obtain ⟨its, rv, p', hz⟩ := I1.tuple hq
      have la : a < s1.heap.objs.size := by
        obtain ⟨o, ho, _⟩ := p'
        exact Heap.lt_size ho
      refine call_enumerate_tuple p' fun h' he hit hsz hk => wpAny_pyIter_enum he ?_
      obtain ⟨I2, le⟩ := fin h' hk
      exact ⟨s1.heap.objs.size + 1, [s1.heap.objs.size + 1, s1.heap.objs.size], _, _, H1, rfl, I2, turn_enumT a (s1.heap.objs.size + 1) s1.heap.objs.size, ⟨⟨.none, he⟩, hit, Nat.succ_ne_self _, Nat.ne_of_lt la, Nat.ne_of_gt (Nat.lt_succ_of_lt la)⟩, fun b hb => I1.fpOk (le b hb) (I1.hok.fresh (le b hb)), q⟩
variable {O : Ob} {X : Cx} {E : XK}
theorem enum_get {xs : List D} {i : Nat} {d : D} (e : (((upTo 0 xs.length).zip xs).map fun p => PyData.tuple [p.1, p.2])[i]? = some d) : ∃ x, xs[i]? = some x ∧ d = .tuple [.int (i : Nat), x] := by
  rw [List.getElem?_map] at e
  cases ez : ((upTo 0 xs.length).zip xs)[i]? with
  | none =>
    rw [ez] at e
    cases e
  | some pr =>
    rw [ez] at e
    cases e
    rw [List.getElem?_zip_eq_some] at ez
    refine ⟨_, ez.2, ?_⟩
    have := upTo_get ez.1
    show PyData.tuple [pr.1, pr.2] = _
    rw [this]
    simp
theorem di_enumerate {elts : List Expr} {kk : Nat} {tpos p pos : Pos} {e : Expr} {fa : Rho → WD (List D)} (hg : Gl X "enumerate") (hm : X.mg "enumerate" = none) (ha : DA O X E [e] fa)
    (hs : starEach [e] X.env = [(false, eval e X.env)] := by rfl) : DI O X E (.Tuple elts kk tpos) (.Call (.Name "enumerate" p) [e] [] pos) (eCbF enumerateD fa) := by
  obtain ⟨ta, a1, a2⟩ := ha
  refine ⟨_, pi_enumA hg hm a1 hs, fun P ρ σ H Qd Ed R hd hr hf hQ hE => a2 P ρ σ H _ Ed _ hd hr hf (fun vs ds H1 s1 h _ q => ?_) hE⟩
  have hm1 := hd.same s1
  have len : ∀ xs : List D, (((upTo 0 xs.length).zip xs).map fun p => PyData.tuple [p.1, p.2]).length = xs.length := fun xs => by
    rw [List.length_map, List.length_zip, upTo_len]
    omega
  cases h with
  | nil => exact q.elim
  | cons h1 h =>
    cases h with
    | cons _ _ => cases h1 <;> exact q.elim
    | nil =>
      cases h1 with
      | @lst a xs ds e1 n1 r1 =>
        refine ⟨a, xs, rfl, .inl ⟨.inl (.inl e1), hQ _ _ H1 s1 (fun P2 H2 pp hp k2 => ?_) q⟩⟩
        have f1 := k2 _ _ e1 (out_of hp e1 n1)
        have q1 : SqL X.K H2 a xs := .inl (.inl f1)
        have l1 := r1.length
        refine ⟨fun i hi => ?_, fun i x H' d y e3 => ?_, fun i hi => ⟨xs, q1, ?_⟩⟩
        · rw [len] at hi
          obtain ⟨x, ex⟩ := get_lt (show i < xs.length by omega)
          exact ⟨xs, x, q1, ex⟩
        · obtain ⟨T, u, rfl, ⟨o, no, nT, rfl⟩, y1⟩ := y
          refine ⟨same_new nT, ?_⟩
          obtain ⟨z, ez, rfl⟩ := enum_get e3
          obtain ⟨u', eu, hu⟩ := r1.get ez
          have z1 := y1 xs q1
          rw [eu] at z1
          cases z1
          exact .tup (.inl ⟨o, no, upd_same⟩) (.cons (.int _) (.cons ((hu.kf hp k2 hm1).same (same_new nT)) .nil))
        · rw [len] at hi
          omega
      | @tup a xs ds e1 r1 =>
        refine ⟨a, xs, rfl, .inr ⟨e1.sq, hQ _ _ H1 s1 (fun P2 H2 pp hp k2 => ?_) q⟩⟩
        have n2 : Nl H1 H2 := .kf hp k2 hm1
        have q1 : SqT X.K H2 a xs := (n2.tup e1).sq
        have l1 := r1.length
        refine ⟨fun i hi => ?_, fun i x H' d y e3 => ?_, fun i hi => ⟨xs, q1, ?_⟩⟩
        · rw [len] at hi
          obtain ⟨x, ex⟩ := get_lt (show i < xs.length by omega)
          exact ⟨xs, x, q1, ex⟩
        · obtain ⟨T, u, rfl, ⟨o, no, nT, rfl⟩, y1⟩ := y
          refine ⟨same_new nT, ?_⟩
          obtain ⟨z, ez, rfl⟩ := enum_get e3
          obtain ⟨u', eu, hu⟩ := r1.get ez
          have z1 := y1 xs q1
          rw [eu] at z1
          cases z1
          exact .tup (.inl ⟨o, no, upd_same⟩) (.cons (.int _) (.cons ((hu.kf hp k2 hm1).same (same_new nT)) .nil))
        · rw [len] at hi
          omega
      | _ => exact q.elim
/-! ### what is never reached -/
def eStuck : Rho → WD D := fun _ _ _ => False
theorem de_stuck {e : Expr} {t : TE} (h : PE X e t) : DE O X E e eStuck := ⟨t, h, fun P ρ σ H Qd Ed Q hd hr hf hQ hE => hf.elim⟩
theorem pe_never {e : Expr} : PE X e (fun _ _ _ => False) := ⟨fun pins s σ H Q I h => h.elim⟩
end
end DL

namespace DL
open PySem PySem.Spec PyProof.Rows L2
/-! ### o.m(e), o a list or a tuple -/
section
variable {X : Cx}
theorem SqL.ty {pins : List (Addr × Obj)} {σ : L2.St} {H : Hp} {s : Shared} {a : Addr} {xs : List V} (I : Inv X pins σ H s) (h : SqL X.K H a xs) : s.TypeIs (.ref a) "list" ∧ ∀ b, Value.ref a = .ref b → ∃ ob, s.heap.get? b = some ob ∧ ob.dict = none := by
  obtain ⟨its, r, p, hz⟩ := I.list h
  obtain ⟨o, ho, hc, n, hd⟩ := p.isList
  refine ⟨⟨o, ho, hc⟩, fun b z => ?_⟩
  cases z
  obtain ⟨o2, n, e, _, e2, _⟩ := p
  exact ⟨_, e, e2⟩
def tBM2 (K : PySem.W.Frag) (rl rt : V → List V → Hp → VK → Prop) (to : TE) (t : TA) : TE := fun σ H Q => to σ H fun x H1 => ((∃ a xs, x = .ref a ∧ SqL K H1 a xs) ∧ t σ H1 fun ys H2 => rl x ys H2 Q) ∨ ((∃ a xs, x = .ref a ∧ TqT K H1 a xs) ∧ t σ H1 fun ys H2 => rt x ys H2 Q)
theorem pe_bm2 {idl idt : String} {name : Str} {rl rt : V → List V → Hp → VK → Prop} {o e : Expr} {es : List Expr} {to : TE} {t : TA} {apos cpos : Pos} (sl : Slot "list" name idl) (tyl : typeOf (.builtin idl) = pure (.type "method_descriptor")) (st : Slot "tuple" name idt) (tyt : typeOf (.builtin idt) = pure (.type "method_descriptor"))
    (ml : MtR X idl rl) (mt : MtR X idt rt) (ho : PE X o to) (ha : PA X (e :: es) t)
    (hbase : attributeBase o name X.env (eval o X.env) = eval o X.env)
    (hfew : ((backTo cpos (starEach (e :: es) X.env)).all (fun x => !x.1) && (backToKw cpos (keywordEach [] X.env)).all (fun x => x.1.isSome) && decide ((e :: es).length + ([] : List Keyword).length + (if ([] : List Keyword).isEmpty then 0 else 1) < 30)) = true)
    (hline : (apos.endLine == cpos.line) = true) (hs : starEach (e :: es) X.env = (false, eval e X.env) :: starEach es X.env) (hplain : (backTo cpos (starEach es X.env)).any (·.1) = false) :
    PE X (.Call (.Attribute o name apos) (e :: es) [] cpos) (tBM2 X.K rl rt to t) := by
  refine ⟨fun pins s σ H Q I h => wpAny_Call_method_late hbase hfew hline rfl (thn (ho.run pins s σ H _ I h) fun v s1 ⟨x, H1, I1, r1, q0⟩ => ?_)⟩
  rcases q0 with ⟨⟨a, xs, ex, ty⟩, q1⟩ | ⟨⟨a, xs, ex, ty⟩, q1⟩
  · subst ex
    cases r1
    obtain ⟨h1, h2⟩ := SqL.ty I1 ty
    refine ⟨"list", idl, PySem.F.plainAttrs_list, sl, tyl, h1, h2, ?_⟩
    have hA := ha.run cpos pins s1 σ H1 _ I1 q1
    rw [hs] at hA ⊢
    refine Calls.callWith_builtin (by show (false || (backTo cpos (starEach es X.env)).any (·.1)) = false; rw [hplain] <;> rfl) (Calls.evalArgs_plain ?_)
    exact thn hA fun us s2 ⟨vs, H2, I2, r2, q2⟩ => ml pins s2 σ H2 (.ref a) vs (.ref a) us Q I2 (show RelV (.ref a) (.ref a) from rfl) r2 q2
  · subst ex
    cases r1
    obtain ⟨h1, h2⟩ := ty.ty I1
    refine ⟨"tuple", idt, PySem.F.plainAttrs_tuple, st, tyt, h1, h2, ?_⟩
    have hA := ha.run cpos pins s1 σ H1 _ I1 q1
    rw [hs] at hA ⊢
    refine Calls.callWith_builtin (by show (false || (backTo cpos (starEach es X.env)).any (·.1)) = false; rw [hplain] <;> rfl) (Calls.evalArgs_plain ?_)
    exact thn hA fun us s2 ⟨vs, H2, I2, r2, q2⟩ => mt pins s2 σ H2 (.ref a) vs (.ref a) us Q I2 (show RelV (.ref a) (.ref a) from rfl) r2 q2
/-- what is asked of data: where, how often -/
def rPl (S : PySem.W.Frag → Hp → Addr → List V → Prop) (K : PySem.W.Frag) : V → List V → Hp → VK → Prop := fun x ys H Q => ∃ (a : Addr) (vs : List V) (ds : List D) (y : V) (d : D) (j : Nat), x = .ref a ∧ ys = [y] ∧ S K H a vs ∧ DpAll K H vs ds ∧ Dp K H y d ∧ SeqAt.shaped (.list ds) = true ∧ SeqAt.shaped d = true ∧ SeqAt.dataPlace ds d = some j ∧ Q (.int (j : Nat)) H
def rCo (S : PySem.W.Frag → Hp → Addr → List V → Prop) (K : PySem.W.Frag) : V → List V → Hp → VK → Prop := fun x ys H Q => ∃ (a : Addr) (vs : List V) (ds : List D) (y : V) (d : D), x = .ref a ∧ ys = [y] ∧ S K H a vs ∧ DpAll K H vs ds ∧ Dp K H y d ∧ SeqAt.shaped (.list ds) = true ∧ SeqAt.shaped d = true ∧ Q (.int ((ds.countP fun z => PyData.eqv z d : Nat) : Int)) H
theorem plain_of_shaped {ds : List D} (h : SeqAt.shaped (.list ds) = true) : PyData.plainAll ds = true := by
  have := PyData.plain_of_canLay0 _ (SeqAt.canLay_of_shaped h)
  simpa [PyData.plain] using this
theorem room1 {ds : List D} {d : D} (h : SeqAt.shaped d = true) (hu : X.A.units + 65 < cLine) : X.A.units + 1 + min (PyData.depthAll ds) d.depth < cLine := by
  have h1 := SeqAt.depth_of_shaped h
  have h2 : min (PyData.depthAll ds) d.depth ≤ d.depth := Nat.min_le_right _ _
  omega
theorem mt_plL (hu : X.A.units + 65 < cLine) : MtR X "list.index" (rPl SqL X.K) := by
  intro pins s σ H x xs v us Q I rx rxs h
  obtain ⟨a, vs, ds, y, d, j, rfl, rfl, hs, hd, hy, sd, sy, hj, q⟩ := h
  cases rx
  obtain ⟨u, rfl, ru⟩ := vals1 rxs
  obtain ⟨its, rv, hl, hz⟩ := I.list hs
  obtain ⟨as, r1⟩ := Dp.readsAll I ds vs its hd rv
  obtain ⟨bs, r2⟩ := Dp.reads I d y u hy ru
  obtain ⟨⟨cls, dd, data, sl⟩, ho, hc, n, hdt⟩ := hl.isList
  simp only at hc hdt
  subst hc hdt
  have pl := plain_of_shaped sd
  obtain ⟨jl, hit, hno⟩ := SeqAt.hit_at (vs := its.toArray) (by simpa using r1) pl hj
  have hlen := rv.length
  have hsm : (j : Int) < 2 ^ 63 - 1 := by
    rw [sizeLine_eq] at hz
    rw [List.size_toArray] at jl
    omega
  exact call_meets F.slot_list_index ⟨_, ho, rfl⟩ F.entry_list_index (F.args_list_index_2 _ _) (SeqAt.list_indexAt a its.toArray n dd sl u (fun z => PyData.eqv (SeqAt.readOf s.heap z) d) j jl hsm hit hno)
    ⟨ho, SeqAt.items_plain (vs := its.toArray) (by simpa using r1) r2 pl (PyData.plain_of_canLay0 _ (SeqAt.canLay_of_shaped sy)) (room1 sy hu), .int _, H, I.tok _, ⟨_, rfl⟩, q⟩
theorem mt_plT (hu : X.A.units + 65 < cLine) : MtR X "tuple.index" (rPl SqT X.K) := by
  intro pins s σ H x xs v us Q I rx rxs h
  obtain ⟨a, vs, ds, y, d, j, rfl, rfl, hs, hd, hy, sd, sy, hj, q⟩ := h
  cases rx
  obtain ⟨u, rfl, ru⟩ := vals1 rxs
  obtain ⟨its, rv, hl, hz⟩ := I.tuple hs
  obtain ⟨as, r1⟩ := Dp.readsAll I ds vs its hd rv
  obtain ⟨bs, r2⟩ := Dp.reads I d y u hy ru
  obtain ⟨⟨cls, dd, data, sl⟩, ho, hc, n, hdt⟩ := hl
  simp only at hc hdt
  subst hc hdt
  have pl := plain_of_shaped sd
  obtain ⟨jl, hit, hno⟩ := SeqAt.hit_at (vs := its.toArray) (by simpa using r1) pl hj
  have ip := SeqAt.items_plain (A := X.A) (vs := its.toArray) (by simpa using r1) r2 pl (PyData.plain_of_canLay0 _ (SeqAt.canLay_of_shaped sy)) (room1 sy hu)
  refine call_meets F.slot_tuple_index ⟨_, ho, rfl⟩ F.entry_tuple_index (F.args_tuple_index_2 _ _) (SeqAt.tuple_index2_found a its.toArray n dd sl u (fun i => match its.toArray[i]? with | some z => PyData.eqv (SeqAt.readOf s.heap z) d | none => false) j jl (Nat.zero_le _) jl ?_ ?_) ⟨ho, fun i hi => ?_, .int _, H, I.tok _, ⟨_, rfl⟩, q⟩
  · simpa [Array.getElem?_eq_getElem jl] using hit
  · intro m hm _ h2
    simpa [Array.getElem?_eq_getElem hm] using hno m hm h2
  · have := ip its.toArray[i] (Array.getElem_mem hi)
    simpa [Array.getElem?_eq_getElem hi] using this
theorem mt_coL (hu : X.A.units + 65 < cLine) : MtR X "list.count" (rCo SqL X.K) := by
  intro pins s σ H x xs v us Q I rx rxs h
  obtain ⟨a, vs, ds, y, d, rfl, rfl, hs, hd, hy, sd, sy, q⟩ := h
  cases rx
  obtain ⟨u, rfl, ru⟩ := vals1 rxs
  obtain ⟨its, rv, hl, hz⟩ := I.list hs
  obtain ⟨as, r1⟩ := Dp.readsAll I ds vs its hd rv
  obtain ⟨bs, r2⟩ := Dp.reads I d y u hy ru
  exact SeqAt.count_list_data hl.isList (by simpa using r1) r2 (plain_of_shaped sd) (PyData.plain_of_canLay0 _ (SeqAt.canLay_of_shaped sy)) (room1 sy hu) ⟨.int _, H, I.tok _, ⟨_, rfl⟩, q⟩
theorem mt_coT (hu : X.A.units + 65 < cLine) : MtR X "tuple.count" (rCo SqT X.K) := by
  intro pins s σ H x xs v us Q I rx rxs h
  obtain ⟨a, vs, ds, y, d, rfl, rfl, hs, hd, hy, sd, sy, q⟩ := h
  cases rx
  obtain ⟨u, rfl, ru⟩ := vals1 rxs
  obtain ⟨its, rv, hl, hz⟩ := I.tuple hs
  obtain ⟨as, r1⟩ := Dp.readsAll I ds vs its hd rv
  obtain ⟨bs, r2⟩ := Dp.reads I d y u hy ru
  exact SeqAt.count_tuple_data hl (by simpa using r1) r2 (plain_of_shaped sd) (PyData.plain_of_canLay0 _ (SeqAt.canLay_of_shaped sy)) (room1 sy hu) ⟨.int _, H, I.tok _, ⟨_, rfl⟩, q⟩
end
section
variable {O : Ob} {X : Cx} {E : XK}
/-- x.index(y), x.count(y) -/
def plcD (ds : List D) (d : D) : WD D := fun Q _ => SeqAt.shaped (.list ds) = true ∧ SeqAt.shaped d = true ∧ orStuck (SeqAt.dataPlace ds d) fun j => Q (.int (j : Nat))
def seqD : D → (List D → Prop) → Prop
  | .list ds, Q => Q ds
  | .tuple ds, Q => Q ds
  | _, _ => False
def cntD (ds : List D) (d : D) : WD D := fun Q _ => SeqAt.shaped (.list ds) = true ∧ SeqAt.shaped d = true ∧ Q (.int ((ds.countP fun z => PyData.eqv z d : Nat) : Int))
def eMt (h : List D → D → WD D) (f g : Rho → WD D) : Rho → WD D := fun ρ Q Ed => f ρ (fun x => seqD x fun ds => g ρ (fun y => h ds y Q Ed) Ed) Ed
theorem canAll_shaped {ds : List D} (h : SeqAt.shaped (.list ds) = true) : PyData.canLayAll0 ds = true := by
  have := SeqAt.canLay_of_shaped h
  simpa [PyData.canLay0] using this
theorem de_mt {name : Str} {idl idt : String} {rs : (PySem.W.Frag → Hp → Addr → List V → Prop) → PySem.W.Frag → V → List V → Hp → VK → Prop} {h : List D → D → WD D} {o e : Expr} {f g : Rho → WD D} {apos cpos : Pos} (sl : Slot "list" name idl) (tyl : typeOf (.builtin idl) = pure (.type "method_descriptor")) (st : Slot "tuple" name idt) (tyt : typeOf (.builtin idt) = pure (.type "method_descriptor"))
    (ml : MtR X idl (rs SqL X.K)) (mt : MtR X idt (rs SqT X.K))
    (hr : ∀ (S : PySem.W.Frag → Hp → Addr → List V → Prop) (a : Addr) (vs : List V) (ds : List D) (y : V) (d : D) (P : Addr → Prop) (H : Hp) (Qd : D → Prop) (Ed : Str → Prop) (Q : VK), S X.K H a vs → DvAll O X.K H P vs ds → Dv O X.K H P y d → h ds d Qd Ed → VOk O X.K P H Qd Q → rs S X.K (.ref a) [y] H Q)
    (ho : DE O X E o f) (he : DE O X E e g)
    (hbase : attributeBase o name X.env (eval o X.env) = eval o X.env)
    (hfew : ((backTo cpos (starEach [e] X.env)).all (fun x => !x.1) && (backToKw cpos (keywordEach [] X.env)).all (fun x => x.1.isSome) && decide ([e].length + ([] : List Keyword).length + (if ([] : List Keyword).isEmpty then 0 else 1) < 30)) = true)
    (hline : (apos.endLine == cpos.line) = true) (hs : starEach [e] X.env = (false, eval e X.env) :: starEach [] X.env) : DE O X E (.Call (.Attribute o name apos) [e] [] cpos) (eMt h f g) := by
  obtain ⟨ta, a1, a2⟩ := ho
  obtain ⟨tb, b1, b2⟩ := he
  refine ⟨_, pe_bm2 sl tyl st tyt ml mt a1 (pa_cons b1 pa_nil hs) hbase hfew hline hs rfl, fun P ρ σ H Qd Ed Q hd hr' hf hQ hE => a2 P ρ σ H _ Ed _ hd hr' hf (fun x d H1 s1 h1 q1 => ?_) hE⟩
  have key : ∀ (S : PySem.W.Frag → Hp → Addr → List V → Prop) (a : Addr) (vs : List V) (ds : List D) (n : ∀ H2, Same H1 H2 → S X.K H2 a vs), DvAll O X.K H1 P vs ds → g ρ (fun y => h ds y Qd Ed) Ed → tCons tb tNil σ H1 fun ys H2 => rs S X.K (.ref a) ys H2 Q := fun S a vs ds n hv q =>
    b2 P ρ σ H1 _ Ed _ (hd.same s1) (hr'.same s1) q (fun y e H2 s2 h2 q2 => hr S a vs ds y e P H2 Qd Ed Q (n H2 s2) (hv.same s2) h2 q2 fun v d' H3 s3 h3 q3 => hQ v d' H3 ((s1.trans s2).trans s3) h3 q3) (hE.same s1)
  cases h1 with
  | lst e1 n1 r1 => exact .inl ⟨⟨_, _, rfl, .inl (.inl e1)⟩, key SqL _ _ _ (fun H2 s2 => .inl (.inl (s2 _ _ e1))) r1 q1⟩
  | tup e1 r1 => exact .inr ⟨⟨_, _, rfl, e1⟩, key SqT _ _ _ (fun H2 s2 => ((Nl.of s2).tup e1).sq) r1 q1⟩
  | _ => exact q1.elim
theorem de_index {o e : Expr} {f g : Rho → WD D} {apos cpos : Pos} (hu : X.A.units + 65 < cLine) (ho : DE O X E o f) (he : DE O X E e g)
    (hbase : attributeBase o "index" X.env (eval o X.env) = eval o X.env := by rfl)
    (hfew : ((backTo cpos (starEach [e] X.env)).all (fun x => !x.1) && (backToKw cpos (keywordEach [] X.env)).all (fun x => x.1.isSome) && decide ([e].length + ([] : List Keyword).length + (if ([] : List Keyword).isEmpty then 0 else 1) < 30)) = true := by rfl)
    (hline : (apos.endLine == cpos.line) = true := by rfl) (hs : starEach [e] X.env = (false, eval e X.env) :: starEach [] X.env := by rfl) : DE O X E (.Call (.Attribute o "index" apos) [e] [] cpos) (eMt plcD f g) :=
  de_mt (rs := rPl) F.slot_list_index F.type_list_index F.slot_tuple_index F.type_tuple_index (mt_plL hu) (mt_plT hu) (fun S a vs ds y d P H Qd Ed Q hs hv hy q hQ => by
    obtain ⟨z1, z2, z3⟩ := q
    obtain ⟨j, e3, q3⟩ := of_orStuck z3
    exact ⟨a, vs, ds, y, d, j, rfl, rfl, hs, hv.dp (canAll_shaped z1), hy.dpS z2, z1, z2, e3, hQ.here (.int _) q3⟩) ho he hbase hfew hline hs
theorem de_count {o e : Expr} {f g : Rho → WD D} {apos cpos : Pos} (hu : X.A.units + 65 < cLine) (ho : DE O X E o f) (he : DE O X E e g)
    (hbase : attributeBase o "count" X.env (eval o X.env) = eval o X.env := by rfl)
    (hfew : ((backTo cpos (starEach [e] X.env)).all (fun x => !x.1) && (backToKw cpos (keywordEach [] X.env)).all (fun x => x.1.isSome) && decide ([e].length + ([] : List Keyword).length + (if ([] : List Keyword).isEmpty then 0 else 1) < 30)) = true := by rfl)
    (hline : (apos.endLine == cpos.line) = true := by rfl) (hs : starEach [e] X.env = (false, eval e X.env) :: starEach [] X.env := by rfl) : DE O X E (.Call (.Attribute o "count" apos) [e] [] cpos) (eMt cntD f g) :=
  de_mt (rs := rCo) F.slot_list_count F.type_list_count F.slot_tuple_count F.type_tuple_count (mt_coL hu) (mt_coT hu) (fun S a vs ds y d P H Qd Ed Q hs hv hy q hQ => by
    obtain ⟨z1, z2, z3⟩ := q
    exact ⟨a, vs, ds, y, d, rfl, rfl, hs, hv.dp (canAll_shaped z1), hy.dpS z2, z1, z2, hQ.here (.int _) z3⟩) ho he hbase hfew hline hs
/-! ### xs[lo:hi:-k] of a list -/
def pickL {α : Type} (xs : List α) (lo hi st : Option Int) : List α := (sliceRange (sliceBounds lo hi st xs.length).1 (sliceBounds lo hi st xs.length).2.1 (sliceBounds lo hi st xs.length).2.2).filterMap (xs[·]?)
theorem vals_pick {xs : List V} {us : List Value} (h : Vals xs us) : ∀ l : List Nat, Vals (l.filterMap (xs[·]?)) (l.filterMap (us[·]?))
  | [] => .nil
  | i :: l => by
    cases e : xs[i]? with
    | some x =>
      obtain ⟨u, eu, ru⟩ := h.get e
      rw [List.filterMap_cons_some e, List.filterMap_cons_some eu]
      exact .cons ru (vals_pick h l)
    | none =>
      have e2 : us[i]? = none := by
        rw [List.getElem?_eq_none_iff] at e ⊢
        rw [← h.length]
        exact e
      rw [List.filterMap_cons_none e, List.filterMap_cons_none e2]
      exact vals_pick h l
theorem dv_pick {K : PySem.W.Frag} {H : Hp} {P : Addr → Prop} {vs : List V} {ds : List D} (h : DvAll O K H P vs ds) : ∀ l : List Nat, DvAll O K H P (l.filterMap (vs[·]?)) (l.filterMap (ds[·]?))
  | [] => .nil
  | i :: l => by
    cases e : ds[i]? with
    | some x =>
      obtain ⟨u, eu, ru⟩ := h.get e
      rw [List.filterMap_cons_some e, List.filterMap_cons_some eu]
      exact .cons ru (dv_pick h l)
    | none =>
      have e2 : vs[i]? = none := by
        rw [List.getElem?_eq_none_iff] at e ⊢
        rw [h.length]
        exact e
      rw [List.filterMap_cons_none e, List.filterMap_cons_none e2]
      exact dv_pick h l
def tSlK (K : PySem.W.Frag) (k : Int) (te : TE) (tl th : TO) : TE := fun σ H Q => te σ H fun x H1 => tl σ H1 fun l H2 => th σ H2 fun u H3 => ∃ a xs, x = .ref a ∧ SqL K H3 a xs ∧ ∀ p, H3 p = none → Q (.ref p) (upd H3 p (.lst (pickL xs l u (some (-k)))))
theorem pe_slK {e : Expr} {te : TE} {lo hi : Option Expr} {tl th : TO} {j : Int} {k : Nat} {p1 p2 p3 pos : Pos} (hj : j ≠ 0) (he : PE X e te) (hl : PO X lo tl) (hh : PO X hi th) : PE X (.Subscript e (.Slice lo hi (some (.UnaryOp .USub (.Constant (.int j) k p1) p2)) p3) pos) (tSlK X.K j te tl th) := by
  refine ⟨fun pins s σ H Q I h => Subscript_ (thn (he.run pins s σ H _ I h) fun v s1 ⟨x, H1, I1, r1, q1⟩ => ?_)⟩
  have hst : PO X (some (.UnaryOp .USub (.Constant (.int j) k p1) p2)) (tPart (tUn (rU fun i => .int (-i)) (tC (.int j)))) := po_some (pe_un un_neg pe_int)
  refine wpAny_Slice (thn (hl.run pins s1 σ H1 _ I1 q1) fun vl s2 ⟨l, H2, I2, pl, q2⟩ => thn (hh.run pins s2 σ H2 _ I2 q2) fun vu s3 ⟨u, H3, I3, pu, a, xs, ex, hx, q⟩ => ?_)
  subst ex
  cases r1
  refine thn (hst.run pins s3 σ H3 (fun o H4 => o = some (-j) ∧ H4 = H3) I3 ⟨j, rfl, -j, rfl, rfl, rfl⟩) fun vs s4 ⟨o, H4, I4, ps, eo, e4⟩ => ?_
  subst eo e4
  have I5 : Inv X pins σ H4 { s4 with heap := s4.heap.push { cls := .type "slice", data := .fields #[vl, vu, vs] } } := I4.kept (t' := s4.toks) fun b ob q => Heap.get?_push_of_some _ q
  obtain ⟨its, r, ht, hz⟩ := I5.list hx
  have hlen := r.length
  show wpAny (model X.prog X.w) X.A (subscriptTail e (.Slice lo hi (some (.UnaryOp .USub (.Constant (.int j) k p1) p2)) p3) (.ref a) (.ref s4.heap.objs.size)) (EP X pins σ Q) X.xe { s4 with heap := s4.heap.push { cls := .type "slice", data := .fields #[vl, vu, vs] } }
  refine tail_any (ops := [.ref a, .ref s4.heap.objs.size]) ht.isList.typeIs (PySem.slot_list_getitem.lookup) ?_ (by with_unfolding_all rfl)
  refine wpAny_getItem_list_slice ht.isList (Heap.IsSliceOf.new _ vl vu vs) pl pu ps (by simp; omega) ?_ (by rw [List.size_toArray]; omega)
  have ep : slicePick its.toArray l u (some (-j)) = (pickL its l u (some (-j))).toArray := by
    unfold slicePick pickL
    simp
  have hv : Vals (pickL xs l u (some (-j))) (pickL its l u (some (-j))) := by
    unfold pickL
    rw [hlen]
    exact vals_pick r _
  refine ⟨.ref _, _, I5.laid (t' := s4.toks) (o := .lst (pickL xs l u (some (-j)))) (fun b ob q => Heap.get?_push_of_some _ q) (Nat.le_refl _) ?_, rfl, q _ (I5.hok.fresh (Nat.le_refl _))⟩
  refine ⟨?_, _, 0, hv, ?_⟩
  · rw [hv.length]
    have := slicePick_size_le its.toArray l u (some (-j))
    rw [ep] at this
    simp at this
    omega
  · rw [ep]
    exact Heap.get?_push_size _ rfl
def slKD (k : Int) (d : D) (lo hi : Option Int) : WD (List D) := match d with
  | .list xs => fun Q _ => Q (pickL xs lo hi (some (-k)))
  | _ => fun _ _ => False
def eSlK (k : Int) (fa : Rho → WD D) (fl fh : Rho → WD (Option Int)) : Rho → WD (List D) := fun ρ Q Ed => fa ρ (fun d => fl ρ (fun lo => fh ρ (fun hi => slKD k d lo hi Q Ed) Ed) Ed) Ed
theorem df_slK {a : Expr} {lo hi : Option Expr} {fa : Rho → WD D} {fl fh : Rho → WD (Option Int)} {j : Int} {k : Nat} {p1 p2 p3 pos : Pos} (hj : j ≠ 0) (ha : DE O X E a fa) (hl : DO O X E lo fl) (hh : DO O X E hi fh) :
    DF O X E (.Subscript a (.Slice lo hi (some (.UnaryOp .USub (.Constant (.int j) k p1) p2)) p3) pos) (eSlK j fa fl fh) := by
  obtain ⟨ta, a1, a2⟩ := ha
  obtain ⟨tl, l1, l2⟩ := hl
  obtain ⟨th, h1, h2⟩ := hh
  refine ⟨_, pe_slK hj a1 l1 h1, fun P ρ σ H Qd Ed Q hd hr hf hQ hE => a2 P ρ σ H _ Ed _ hd hr hf (fun v d H1 s1 k1 q1 => l2 P ρ σ H1 _ Ed _ (hd.same s1) (hr.same s1) q1 (fun lo H2 s2 q2 =>
    h2 P ρ σ H2 _ Ed _ ((hd.same s1).same s2) ((hr.same s1).same s2) q2 (fun hi H3 s3 q3 => ?_) ((hE.same s1).same s2)) (hE.same s1)) hE⟩
  have s13 : Same H H3 := (s1.trans s2).trans s3
  have k3 := (k1.same s2).same s3
  cases k3 with
  | lst e n r =>
    refine ⟨_, _, rfl, .inl (.inl e), fun p np => hQ _ _ _ _ (s13.trans (same_new np)) (s13.free np) upd_same ?_ q3⟩
    unfold pickL
    rw [r.length]
    exact DvAll.fresh (dv_pick r _) np (same_new np)
  | _ => exact q3.elim
/-! ### a dict that is walked: locked for good -/
theorem pss_lck {sts : List Stmt} {t : TS} (h : PSs X sts t) : PSs X sts (fun D σ H => ∃ d u, H d = some u ∧ Mut (some u) ∧ ∀ od, t D σ (upd H d (.frz od u))) :=
  ⟨fun pins s σ H D I hw => by
    obtain ⟨d, u, hd, mu, hw⟩ := hw
    obtain ⟨od, I1⟩ := I.lock hd mu
    exact h.run pins s σ _ _ I1 (hw od)⟩
def sLck (i : Nat) (F : FS) : FS := fun Γ k => ownDAt Γ i fun ds => F (Γ.set i (some (.val (dictZ ds)))) k
theorem Rg.lck {K : PySem.W.Frag} {H0 H : Hp} {P0 : Addr → Prop} {Γ : Env} {σ : L2.St} {own : Nat → Option Addr} (r : Rg O K H0 P0 Γ σ H own) (hd : Dom H0 P0) {i : Nat} {p : Addr} {ds : List (Key × D)} {kvs : List (Key × V)} {od : Obj} (e : Γ[i]? = some (some (.own (.dct ds)))) (eo : own i = some p) (es : σ[i]? = some (some (.ref p)))
    (ep : H p = some (.dK kvs)) (ek : kvs.map (·.1) = ds.map (·.1)) (hv : DvAll O K H (Pw P0 own) (kvs.map (·.2)) (ds.map (·.2))) : Rg O K H0 P0 (Γ.set i (some (.val (dictZ ds)))) σ (upd H p (.frz od (.dK kvs))) (ownDel own i) := by
  obtain ⟨hn, _⟩ := r.fresh i p eo
  have np : ∀ a, Pw P0 (ownDel own i) a → a ≠ p ∧ Pw P0 own a := fun a z => by
    rcases z with z | ⟨j, z⟩
    · refine ⟨fun w => ?_, .inl z⟩
      obtain ⟨o, eo', _⟩ := hd a z
      rw [w, hn] at eo'
      cases eo'
    · by_cases hj : j = i
      · subst hj
        rw [ownDel_self] at z
        cases z
      · rw [ownDel_ne hj] at z
        exact ⟨fun w => hj (r.inj j i p (w ▸ z) eo), .inr ⟨j, z⟩⟩
  have nl : Nl H (upd H p (.frz od (.dK kvs))) := fun a o ea m => by
    have : a ≠ p := fun z => by
      subst z
      rw [ep] at ea
      cases ea
      exact m (.inr ⟨_, rfl⟩)
    rw [upd_ne this]
    exact ea
  have ls : ∀ a o, H a = some o → Mb o → ¬ Pw P0 own a → upd H p (.frz od (.dK kvs)) a = some o := fun a o ea m n => by
    have : a ≠ p := fun z => n (.inr ⟨i, by rw [z]; exact eo⟩)
    rw [upd_ne this]
    exact ea
  have kp : ∀ {v : V} {d : D}, Dv O K H (Pw P0 own) v d → Dv O K (upd H p (.frz od (.dK kvs))) (Pw P0 (ownDel own i)) v d := fun h => h.keep nl ls fun a _ _ q z => q (np a z).2
  have kpA : ∀ {v : List V} {d : List D}, DvAll O K H (Pw P0 own) v d → DvAll O K (upd H p (.frz od (.dK kvs))) (Pw P0 (ownDel own i)) v d := fun h => h.keep nl ls fun a _ _ q z => q (np a z).2
  have hil : i < Γ.length := (List.getElem?_eq_some_iff.mp e).1
  refine ⟨fun a o ea => ?_, fun j k a e1 e2 => ?_, fun j a e1 => ?_, ⟨by rw [r.rs.len]; simp [clean], fun j d ej => ?_⟩, fun j c ej => ?_⟩
  · have : a ≠ p := fun z => by
      rw [z, hn] at ea
      cases ea
    rw [upd_ne this]
    exact r.same a o ea
  · by_cases hj : j = i
    · subst hj
      rw [ownDel_self] at e1
      cases e1
    · by_cases hk : k = i
      · subst hk
        rw [ownDel_self] at e2
        cases e2
      · rw [ownDel_ne hj] at e1
        rw [ownDel_ne hk] at e2
        exact r.inj j k a e1 e2
  · by_cases hj : j = i
    · subst hj
      rw [ownDel_self] at e1
      cases e1
    · have e1' := e1
      rw [ownDel_ne hj] at e1
      obtain ⟨h1, o, h2, h3⟩ := r.fresh j a e1
      exact ⟨h1, o, by rw [upd_ne (np a (.inr ⟨j, e1'⟩)).1]; exact h2, h3⟩
  · unfold clean at ej
    rw [List.map_set] at ej
    by_cases hj : i = j
    · subst hj
      rw [List.getElem?_set_self (by simpa using hil)] at ej
      cases ej
      exact ⟨.ref p, es, .dcz upd_same ek (kpA hv)⟩
    · rw [List.getElem?_set_ne hj] at ej
      obtain ⟨v, e2, h2⟩ := r.rs.get j d ej
      exact ⟨v, e2, kp h2⟩
  · by_cases hj : i = j
    · subst hj
      rw [List.getElem?_set_self hil] at ej
      cases ej
    · rw [List.getElem?_set_ne hj] at ej
      obtain ⟨q, e2, e3, e4⟩ := r.ow j c ej
      have e2' : ownDel own i j = some q := by rw [ownDel_ne (fun z => hj z.symm)]; exact e2
      have nq := (np q (.inr ⟨j, e2'⟩)).1
      exact ⟨q, e2', e3, e4.to kpA fun o e _ => by rw [upd_ne nq]; exact e⟩
theorem dss_lck (i : Nat) {sts : List Stmt} {F : FS} (h : DSs O X E sts F) : DSs O X E sts (sLck i F) := by
  obtain ⟨t, h1, h2⟩ := h
  refine ⟨_, pss_lck h1, fun H0 P0 Γ σ H own k D hd r hf l => ?_⟩
  obtain ⟨ds, eg, hf⟩ := of_ownDAt hf
  obtain ⟨p, eo, es, kvs, ep, ek, hv⟩ := r.ow i (.dct ds) eg
  exact ⟨p, _, ep, trivial, fun od => h2 H0 P0 _ σ _ _ k D hd (r.lck hd eg eo es ep ek hv) hf l⟩
/-- the keys of a locked dict -/
def keysD : D → WD (List D)
  | .dict ((.bool true, .none) :: l) => fun Q _ => Q (l.map (·.1))
  | _ => fun _ _ => False
def sKeys (f : Rho → WD D) : Rho → WD (List D) := fun ρ Q Ed => f ρ (fun d => keysD d Q Ed) Ed
theorem of_keysD {d : D} {Q : List D → Prop} {Ed : Str → Prop} (h : keysD d Q Ed) : ∃ l, d = .dict ((.bool true, .none) :: l) ∧ Q (l.map (·.1)) := by
  unfold keysD at h
  split at h
  · exact ⟨_, rfl, h⟩
  · exact h.elim
theorem keysD_Z (ds : List (Key × D)) (Q : List D → Prop) (Ed : Str → Prop) : keysD (dictZ ds) Q Ed = Q (ds.map fun p => kD p.1) := by
  show Q ((ds.map fun p => (kD p.1, p.2)).map (·.1)) = _
  rw [List.map_map]
  rfl
theorem dv_key {K : PySem.W.Frag} {H : Hp} {P : Addr → Prop} {k : Key} (h : ∀ x, k = .inr x → PyData.strOk x = true) : Dv O K H P (kV k) (kD k) := by
  cases k with
  | inl i => exact .int i
  | inr x => exact .str x (h x rfl)
def keysOk (ds : List D) : Bool := ds.all fun d => match d with | .str x => PyData.strOk x | _ => true
def keysD2 (d : D) : WD (List D) := fun Q Ed => keysD d (fun l => keysOk l = true ∧ Q l) Ed
def sKeys2 (f : Rho → WD D) : Rho → WD (List D) := fun ρ Q Ed => f ρ (fun d => keysD2 d Q Ed) Ed
theorem di_keys {tg a : Expr} {fa : Rho → WD D} (hO : NoObj O) (ha : DE O X E a fa) : DI O X E tg a (sKeys2 fa) := by
  obtain ⟨ta, a1, a2⟩ := ha
  refine ⟨_, pi_keys a1, fun P ρ σ H Qd Ed R hd hr hf hQ hE => a2 P ρ σ H _ Ed _ hd hr hf (fun v d H1 s1 h1 q1 => ?_) hE⟩
  have hm1 := hd.same s1
  obtain ⟨l, el, ok, q⟩ := of_keysD q1
  generalize ed : d = d' at h1
  cases h1 with
  | @dcz a o kvs ds e1 e2 e3 =>
    rw [el] at ed
    unfold dictZ at ed
    injection ed with ed
    injection ed with _ ed
    subst ed
    refine ⟨a, o, rfl, .inl ⟨kvs, e1, hQ _ _ H1 s1 (fun P2 H2 pp hp k2 => ?_) q⟩⟩
    have f1 : H2 a = some (.frz o (.dK kvs)) := (Nl.kf hp k2 hm1) a _ e1 not_mb_frz
    have len : kvs.length = ds.length := by simpa using congrArg List.length e2
    refine ⟨fun i hi => ⟨f1, by simpa [len] using hi⟩, fun i x H' d y e3 => ?_, fun i hi => ⟨f1, by simpa [len] using hi⟩⟩
    obtain ⟨rfl, k, v, ekv, rfl⟩ := y
    refine ⟨Same.refl _, ?_⟩
    have eD : (ds.map (·.1))[i]? = some k := by
      rw [← e2, List.getElem?_map, ekv]
      rfl
    have e4 : d = kD k := by
      rw [List.map_map, List.getElem?_map] at e3
      rw [List.getElem?_map] at eD
      cases q : ds[i]? with
      | none =>
        rw [q] at eD
        cases eD
      | some z =>
        rw [q] at eD e3
        cases eD
        cases e3
        rfl
    subst e4
    refine dv_key fun x hx => ?_
    subst hx
    have m := List.mem_of_getElem? e3
    unfold keysOk at ok
    rw [List.all_eq_true] at ok
    exact ok _ m
  | @dct a kvs ds e1 e2 e3 e4 =>
    rw [el] at ed
    unfold dictE at ed
    injection ed with ed
    cases ds with
    | nil => cases ed
    | cons p r =>
      injection ed with ed _
      injection ed with ed _
      obtain ⟨k, x⟩ := p
      cases k <;> cases ed
  | obj h =>
    rw [el] at ed
    injection ed with ed
    subst ed
    exact (hO.nz h).elim
  | _ => rw [el] at ed; cases ed
/-! ### a tuple of the module that has no attributes of its own -/
def tupN (K : PySem.W.Frag) (x : Str) (vs : List He.Dv) : Bool := match K.lookup (He.ga K x) with
  | some ⟨.type c, none, .seq its _, _⟩ => decide (c = "tuple") && (decide (its.size ≤ sizeLine) && He.relAll (vs.map (He.Dv.v K)) its.toList)
  | _ => false
theorem tupN_ok {K : PySem.W.Frag} {x : Str} {vs : List He.Dv} (h : tupN K x vs = true) (H : Hp) : TqT K H (He.ga K x) (vs.map (He.Dv.v K)) := by
  unfold tupN at h
  split at h
  · rename_i c its n sl q
    obtain ⟨h1, h2⟩ := Bool.and_eq_true_iff.mp h
    obtain ⟨h3, h4⟩ := Bool.and_eq_true_iff.mp h2
    exact .inr ⟨_, its, n, q, congrArg Value.type (of_decide_eq_true h1), rfl, rfl, of_decide_eq_true h3, He.relAll_ok h4⟩
  · cases h
/-! ### x, y = a value, a new list; x, y, z = two values, a new list -/
def sParVF (i j : Nat) (fa : Rho → WD D) (fb : Rho → WD (List D)) : FS := fun Γ k => fa (clean Γ) (fun d => fb (clean Γ) (fun ys => k.nx ((Γ.set i (some (.val d))).set j (some (.own (.lst ys))))) k.ex) k.ex
theorem ds_parVF {a b : Expr} {pos : Pos} {i j : Nat} {x y : Str} {fa : Rho → WD D} {fb : Rho → WD (List D)} {px py pt : Pos} {kt k2 pt2} (hc : X.calm = true) (hN : X.N.Nodup) (ha : DE O X E a fa) (hb : DF O X E b fb) (hw : swappedStores [.Tuple [.Name x px, .Name y py] kt pt] (.Tuple [a, b] k2 pt2) X.env = pure (some [x, y]))
    (hi : X.N[i]? = some x := by rfl) (hj : X.N[j]? = some y := by rfl) (hij : i ≠ j := by decide)
    (hx : X.env.scope.names.lookup x = some .local := by rfl) (hy : X.env.scope.names.lookup y = some .local := by rfl)
    (hs : swapsWithSole [.Tuple [.Name x px, .Name y py] kt pt] (.Tuple [a, b] k2 pt2) pos.line X.env = pure false := by rfl)
    (h1 : starEach [a, b] X.env = (false, eval a X.env) :: starEach [b] X.env := by rfl) (h2 : starEach [b] X.env = (false, eval b X.env) :: starEach [] X.env := by rfl) :
    DS O X E (.Assign [.Tuple [.Name x px, .Name y py] kt pt] (.Tuple [a, b] k2 pt2) pos) (sParVF i j fa fb) := by
  obtain ⟨ta, a1, a2⟩ := ha
  obtain ⟨tb, b1, b2⟩ := hb
  refine ⟨_, ps_par hc hN hi hj hij hx hy (pa_cons a1 (pa_cons b1 pa_nil h2) h1) hw hs, fun H0 P0 Γ σ H own k D hd r hf l => a2 _ _ σ H _ _ _ (r.dom hd) r.rs hf (fun v d H1 s1 v1 q1 => ?_) (l.exH r)⟩
  refine b2 _ _ σ H1 _ _ _ ((r.dom hd).same s1) (r.rs.same s1) q1 (fun p ws es H2 s2 n2 e2 v2 q2 => ⟨_, _, rfl, ?_⟩) ((l.exH r).same s1)
  exact l.nx _ _ _ _ (own_new (i := j) (c := .lst es) ((r.step s1).set (i := i) v1) hd s2 n2 ⟨ws, e2, v2⟩) q2
def sPar3F (i j m : Nat) (fa fb : Rho → WD D) (fc : Rho → WD (List D)) : FS := fun Γ k => fa (clean Γ) (fun d => fb (clean Γ) (fun e => fc (clean Γ) (fun ys => k.nx (((Γ.set i (some (.val d))).set j (some (.val e))).set m (some (.own (.lst ys))))) k.ex) k.ex) k.ex
theorem ds_par3F {a b c : Expr} {pos : Pos} {i j m : Nat} {x y z : Str} {fa fb : Rho → WD D} {fc : Rho → WD (List D)} {px py pz pt : Pos} {kt k2 pt2} (hc : X.calm = true) (hN : X.N.Nodup) (ha : DE O X E a fa) (hb : DE O X E b fb) (hC : DF O X E c fc) (hw : swappedStores [.Tuple [.Name x px, .Name y py, .Name z pz] kt pt] (.Tuple [a, b, c] k2 pt2) X.env = pure (some [x, y, z]))
    (hi : X.N[i]? = some x := by rfl) (hj : X.N[j]? = some y := by rfl) (hm : X.N[m]? = some z := by rfl) (hij : i ≠ j := by decide) (him : i ≠ m := by decide) (hjm : j ≠ m := by decide)
    (hx : X.env.scope.names.lookup x = some .local := by rfl) (hy : X.env.scope.names.lookup y = some .local := by rfl) (hz : X.env.scope.names.lookup z = some .local := by rfl)
    (hs : swapsWithSole [.Tuple [.Name x px, .Name y py, .Name z pz] kt pt] (.Tuple [a, b, c] k2 pt2) pos.line X.env = pure false := by rfl)
    (h1 : starEach [a, b, c] X.env = (false, eval a X.env) :: starEach [b, c] X.env := by rfl) (h2 : starEach [b, c] X.env = (false, eval b X.env) :: starEach [c] X.env := by rfl) (h3 : starEach [c] X.env = (false, eval c X.env) :: starEach [] X.env := by rfl) :
    DS O X E (.Assign [.Tuple [.Name x px, .Name y py, .Name z pz] kt pt] (.Tuple [a, b, c] k2 pt2) pos) (sPar3F i j m fa fb fc) := by
  obtain ⟨ta, a1, a2⟩ := ha
  obtain ⟨tb, b1, b2⟩ := hb
  obtain ⟨tc, c1, c2⟩ := hC
  refine ⟨_, ps_par3 hc hN hi hj hm hij him hjm hx hy hz (pa_cons a1 (pa_cons b1 (pa_cons c1 pa_nil h3) h2) h1) hw hs, fun H0 P0 Γ σ H own k D hd r hf l => a2 _ _ σ H _ _ _ (r.dom hd) r.rs hf (fun v d H1 s1 v1 q1 => ?_) (l.exH r)⟩
  refine b2 _ _ σ H1 _ _ _ ((r.dom hd).same s1) (r.rs.same s1) q1 (fun u e H2 s2 v2 q2 => ?_) ((l.exH r).same s1)
  refine c2 _ _ σ H2 _ _ _ (((r.dom hd).same s1).same s2) ((r.rs.same s1).same s2) q2 (fun p ws es H3 s3 n3 e3 v3 q3 => ⟨_, _, _, rfl, ?_⟩) (((l.exH r).same s1).same s2)
  exact l.nx _ _ _ _ (own_new (i := m) (c := .lst es) ((((r.step s1).step s2).set (i := i) (v1.same s2)).set (i := j) v2) hd s3 n3 ⟨ws, e3, v3⟩) q3
end
end DL

namespace DL
open PySem PySem.Spec L2
/-! ### the layer's rules, for rewriting -/
theorem strOk_of (s : String) : PyData.strOk (Str.ofString s) = true := by
  unfold PyData.strOk
  rw [Str.ofString_eq_toList]
  simp only [List.all_toArray, List.all_map, List.all_eq_true]
  intro c _
  have := c.valid
  simp only [Function.comp, decide_eq_true_eq]
  unfold UInt32.isValidChar Nat.isValidChar at this
  show c.val.toNat < 1114112
  rcases this with h | h <;> omega
theorem ofString_inj {a b : String} (h : Str.ofString a = Str.ofString b) : a = b := by
  rw [Str.ofString_eq_toList, Str.ofString_eq_toList] at h
  injection h with h
  have h2 : a.toList.map Char.toNat = b.toList.map Char.toNat := by simpa using congrArg Array.toList h
  have h3 : a.toList = b.toList := by
    refine List.map_inj_right (f := Char.toNat) (fun x y e => ?_) |>.mp h2
    exact Char.ext (UInt32.toNat_inj.mp e)
  exact String.toList_inj.mp h3
theorem str_beq (a b : String) : (Str.ofString a == Str.ofString b) = decide (a = b) := by
  by_cases h : a = b
  · subst h
    simp
  · rw [decide_eq_false h]
    exact beq_eq_false_iff_ne.mpr fun e => h (ofString_inj e)
theorem zbJ (i : Int) : SeqAt.shaped (.int i) = true := rfl
theorem zbK (b : Bool) : SeqAt.shaped (.bool b) = true := rfl
theorem zbL : SeqAt.shaped .none = true := rfl
theorem zbM (s : String) : SeqAt.shaped (.str (Str.ofString s)) = true := by
  unfold SeqAt.shaped
  simp [PyData.canLay0, PyData.depth, strOk_of]
theorem zbN (i j : Int) : PyData.eqv (.int i) (.int j) = decide (i = j) := by
  show (i == j) = _
  by_cases h : i = j
  · subst h
    simp
  · simp [h]
theorem zbO (a b : String) : PyData.eqv (.str (Str.ofString a)) (.str (Str.ofString b)) = decide (a = b) := by
  show (Str.ofString a == Str.ofString b) = _
  rw [str_beq]
theorem zbP (a b : Bool) : PyData.eqv (.bool a) (.bool b) = (a == b) := rfl
/-! ### named continuations -/
def andK (A : Prop) (Q : D → Prop) : D → Prop
  | .bool true => A
  | .bool false => Q (.bool false)
  | _ => False
def orK (A : Prop) (Q : D → Prop) : D → Prop
  | .bool true => Q (.bool true)
  | .bool false => A
  | _ => False
def notK (Q : D → Prop) : D → Prop
  | .bool b => Q (.bool (!b))
  | _ => False
def truK (Q : Bool → Prop) (d : D) : Prop := match truD d with
  | some b => Q b
  | none => False
def varK (Q : D → Prop) : Option (Option D) → Prop
  | some (some d) => Q d
  | _ => False
def parK (Q : D → D → Prop) : List D → Prop
  | [d, e] => Q d e
  | _ => False
section
variable {f g : Rho → WD D} {ρ : Rho} {Q : D → Prop} {E : Str → Prop} {QB : Bool → Prop} {QL : List D → Prop}
theorem zay : eAnd f g ρ Q E = f ρ (andK (g ρ Q E) Q) E := propext Iff.rfl
theorem zaA : eOr f g ρ Q E = f ρ (orK (g ρ Q E) Q) E := propext Iff.rfl
theorem zaC : eNot f ρ Q E = f ρ (notK Q) E := propext Iff.rfl
theorem zaM : tTru f ρ QB E = f ρ (truK QB) E := propext Iff.rfl
theorem zaq (i : Nat) : eVar i ρ Q E = varK Q ρ[i]? := by
  unfold eVar varK
  generalize ρ[i]? = o
  match o with
  | none => rfl
  | some none => rfl
  | some (some d) => rfl
theorem zaz (A : Prop) (b : Bool) : andK A Q (.bool b) = (if b = true then A else Q (.bool false)) := by cases b <;> simp [andK]
theorem zaB (A : Prop) (b : Bool) : orK A Q (.bool b) = (if b = true then Q (.bool true) else A) := by cases b <;> simp [orK]
theorem zaD (b : Bool) : notK Q (.bool b) = Q (.bool (!b)) := propext Iff.rfl
theorem zar (d : D) : varK Q (some (some d)) = Q d := propext Iff.rfl
theorem zaL (b : Bool) : isB QB (.bool b) = QB b := propext Iff.rfl
theorem zaN (b : Bool) : truK QB (.bool b) = QB b := propext Iff.rfl
theorem zaO (xs : List D) : truK QB (.tuple xs) = QB (!xs.isEmpty) := propext Iff.rfl
theorem zaP (xs : List D) : truK QB (.list xs) = QB (!xs.isEmpty) := propext Iff.rfl
theorem zam (i j : Nat) (fa : Rho → WD (List D)) (Γ : Env) (k : KS) : sPar i j fa Γ k = fa (clean Γ) (parK fun d e => k.nx ((Γ.set i (some (.val d))).set j (some (.val e)))) k.ex := propext Iff.rfl
theorem zan (Q : D → D → Prop) (d e : D) : parK Q [d, e] = Q d e := propext Iff.rfl
theorem zbo (h : Int → Int → D) (i j : Int) : int0 h (.int i) (.int j) Q E = Q (h i j) := propext Iff.rfl
theorem zbp (C : Int → Int → Prop) (h : Int → Int → D) (i j : Int) : intD C h (.int i) (.int j) Q E = (C i j ∧ Q (h i j)) := propext Iff.rfl
theorem zbb (i j : Int) : addD (.int i) (.int j) Q E = Q (.int (i + j)) := propext Iff.rfl
theorem zbc (xs ys : List D) : addD (.tuple xs) (.tuple ys) Q E = (xs.length + ys.length ≤ 16777216 ∧ Q (.tuple (xs ++ ys))) := propext Iff.rfl
theorem zbd (xs ys : List D) : addD (.list xs) (.list ys) Q E = (xs.length + ys.length ≤ 16777216 ∧ Q (.list (xs ++ ys))) := propext Iff.rfl
theorem zbf (i j : Int) : mulD (.int i) (.int j) Q E = (CMul i j ∧ Q (.int (i * j))) := propext Iff.rfl
theorem zbg (xs : List D) (k : Int) : mulD (.tuple xs) (.int k) Q E = (xs ≠ [] ∧ 2 ≤ k ∧ k ≤ 1000 ∧ xs.length ≤ 1000 ∧ Q (.tuple (List.replicate k.toNat xs).flatten)) := propext Iff.rfl
theorem zbh (i : Int) : negD (.int i) Q E = Q (.int (-i)) := propext Iff.rfl
theorem zaZ (xs : List D) (i : Int) : idxD (.tuple xs) (.int i) Q E = orStuck (atI xs i) Q := propext Iff.rfl
theorem zba (xs : List D) (i : Int) : idxD (.list xs) (.int i) Q E = orStuck (atI xs i) Q := propext Iff.rfl
theorem zaX (neg : Bool) (d : D) (ds : List D) : inD neg d (.tuple ds) Q E = (SeqAt.shaped d = true ∧ SeqAt.shaped (.tuple ds) = true ∧ Q (.bool ((ds.any fun z => PyData.eqv z d) != neg))) := by cases d <;> rfl
theorem zaY (neg : Bool) (d : D) (ds : List D) : inD neg d (.list ds) Q E = (SeqAt.shaped d = true ∧ SeqAt.shaped (.list ds) = true ∧ Q (.bool ((ds.any fun z => PyData.eqv z d) != neg))) := by cases d <;> rfl
theorem zbq (xs : List D) : lenD (.tuple xs) Q E = Q (.int xs.length) := propext Iff.rfl
theorem zbr (xs : List D) : lenD (.list xs) Q E = Q (.int xs.length) := propext Iff.rfl
theorem zbs (xs : List D) : tupleD (.list xs) Q E = Q (.tuple xs) := propext Iff.rfl
theorem zbt (xs : List D) : tupleD (.tuple xs) Q E = Q (.tuple xs) := propext Iff.rfl
theorem zaU (h : D → WD D) (d : D) : one1 h [d] Q E = h d Q E := propext Iff.rfl
theorem zaV (h : D → WD (List D)) (d : D) : one1F h [d] QL E = h d QL E := propext Iff.rfl
theorem zbu {α : Type} (a : α) (R : α → Prop) : orStuck (some a) R = R a := propext Iff.rfl
theorem zbv (xs : List D) : itemsD (.tuple xs) QL E = QL xs := propext Iff.rfl
theorem zbw (xs : List D) : itemsD (.list xs) QL E = QL xs := propext Iff.rfl
theorem zby (n : Int) : rng1 [.int n] QL E = (n < 2 ^ 62 ∧ -(2 ^ 62) ≤ n ∧ QL (upTo 0 n.toNat)) := propext Iff.rfl
theorem zcy (n : Int) : rgLD (.int n) QL E = ((-(2 ^ 62) ≤ n ∧ n ≤ 16777216) ∧ QL (upTo 0 n.toNat)) := propext Iff.rfl
theorem zcz (ds : List D) : sortD (.tuple ds) QL E = (srtOk ds ∧ QL (sortL ds)) := propext Iff.rfl
theorem zcA (ds : List D) : sortD (.list ds) QL E = (srtOk ds ∧ QL (sortL ds)) := propext Iff.rfl
theorem zbz {α : Type} (a : α) (r : List α) : atI (a :: r) 0 = some a := by simp [atI, ixN]
theorem zbA {α : Type} (a b : α) (r : List α) : atI (a :: b :: r) 1 = some b := by
  unfold atI ixN
  rw [if_pos (by omega), if_pos (by simp only [List.length_cons]; omega)]
  rfl
theorem zbB {α : Type} (a b c : α) (r : List α) : atI (a :: b :: c :: r) 2 = some c := by
  unfold atI ixN
  rw [if_pos (by omega), if_pos (by simp only [List.length_cons]; omega)]
  rfl
theorem zbC {α : Type} (a b c d : α) (r : List α) : atI (a :: b :: c :: d :: r) 3 = some d := by
  unfold atI ixN
  rw [if_pos (by omega), if_pos (by simp only [List.length_cons]; omega)]
  rfl
theorem zbD {α : Type} (a b c d e : α) (r : List α) : atI (a :: b :: c :: d :: e :: r) 4 = some e := by
  unfold atI ixN
  rw [if_pos (by omega), if_pos (by simp only [List.length_cons]; omega)]
  rfl
theorem zbE {α : Type} (a b c d e f : α) (r : List α) : atI (a :: b :: c :: d :: e :: f :: r) 5 = some f := by
  unfold atI ixN
  rw [if_pos (by omega), if_pos (by simp only [List.length_cons]; omega)]
  rfl
/-- x[i] by a place -/
theorem atI_nat {α : Type} {xs : List α} {i : Int} (h0 : 0 ≤ i) (h1 : i < xs.length) : atI xs i = some (xs[i.toNat]'(by omega)) := by
  unfold atI ixN
  rw [if_pos h0]
  simp only [h1, if_true, Option.bind_some]
  exact List.getElem?_eq_getElem (by omega)
theorem zbF (i : Int) : isiD "int" (.int i) Q E = Q (.bool true) := propext Iff.rfl
theorem zbG (i : Int) : isiD "bool" (.int i) Q E = Q (.bool false) := propext Iff.rfl
theorem zbH (x : Str) : isiD "str" (.str x) Q E = Q (.bool true) := propext Iff.rfl
theorem zbI (xs : List D) : isiD "tuple" (.tuple xs) Q E = Q (.bool true) := propext Iff.rfl
/-! ### the combinators, as equations of propositions -/
section
variable {F G : FS} {Γ : Env} {k : KS} {fb fc : Rho → WD D} {fa : Rho → WD (List D)} {ga gb : Rho → WD Bool} {i : Nat} {op op' : D → D → WD D} {c : D → WD D} {cF : D → WD (List D)} {cs : List D → WD D} {csF : List D → WD (List D)} {fd : Rho → WD (List (Key × D))} {n : Nat} {ds : List D}
theorem zaa : fn0 n F ds Q E = F (startE n ds) { nx := fun _ => Q .none, rt := Q } := propext Iff.rfl
theorem zab : sSeq F G Γ k = F Γ { k with nx := fun Γ' => G Γ' k } := propext Iff.rfl
theorem zac : sIf ga F G Γ k = ga (full Γ) (fun b => if b = true then F Γ k else G Γ k) k.ex := propext Iff.rfl
theorem zad : sRet f Γ k = f (full Γ) k.rt k.ex := propext Iff.rfl
theorem zae : sRetN Γ k = k.rt .none := propext Iff.rfl
theorem zaf : sSet i f Γ k = f (clean Γ) (fun d => k.nx (Γ.set i (some (.val d)))) k.ex := propext Iff.rfl
theorem zag : sSetP i f Γ k = f (full Γ) (fun d => pureD d = true ∧ k.nx (Γ.set i (some (.val d)))) k.ex := propext Iff.rfl
theorem zah : sSetF i fa Γ k = fa (clean Γ) (fun xs => k.nx (Γ.set i (some (.own (.lst xs))))) k.ex := propext Iff.rfl
theorem zai : sSetFP i fa Γ k = fa (full Γ) (fun xs => pureD.pureAll xs = true ∧ k.nx (Γ.set i (some (.own (.lst xs))))) k.ex := propext Iff.rfl
theorem zaj : sNext Γ k = k.nx Γ := propext Iff.rfl
theorem zak : sNever Γ k = False := propext Iff.rfl
theorem zal : sDrop f Γ k = f (full Γ) (fun _ => k.nx Γ) k.ex := propext Iff.rfl
theorem zao : eCb cs fa ρ Q E = fa ρ (fun ds => cs ds Q E) E := propext Iff.rfl
theorem zap : eCbF csF fa ρ QL E = fa ρ (fun ds => csF ds QL E) E := propext Iff.rfl
theorem zas (d : D) : eC d ρ Q E = Q d := propext Iff.rfl
theorem zat : eOp op f g ρ Q E = f ρ (fun x => g ρ (fun y => op x y Q E) E) E := propext Iff.rfl
theorem zau : eIf ga f g ρ Q E = ga ρ (fun b => if b = true then f ρ Q E else g ρ Q E) E := propext Iff.rfl
theorem zav : eUn c f ρ Q E = f ρ (fun d => c d Q E) E := propext Iff.rfl
theorem zaw : eUn1 c f ρ Q E = f ρ (fun d => c d Q E) E := propext Iff.rfl
theorem zax : eUnF cF f ρ QL E = f ρ (fun d => cF d QL E) E := propext Iff.rfl
theorem zaE : eTup fa ρ Q E = fa ρ (fun ds => ds.length ≤ 16777216 ∧ Q (.tuple ds)) E := propext Iff.rfl
theorem zaF : eLst fa ρ QL E = fa ρ (fun ds => ds.length ≤ 16777216 ∧ QL ds) E := propext Iff.rfl
theorem zaG : eOfF fa ρ Q E = fa ρ (fun ds => Q (.list ds)) E := propext Iff.rfl
theorem zaH : eChain op op' f g fc ρ Q E = f ρ (fun x => g ρ (fun y => op x y (isB fun k => if k = true then fc ρ (fun z => op' y z Q E) E else Q (.bool false)) E) E) E := propext Iff.rfl
theorem zaJ : aNil ρ QL E = QL [] := propext Iff.rfl
theorem zaI : aCons f fa ρ QL E = f ρ (fun d => fa ρ (fun ds => QL (d :: ds)) E) E := propext Iff.rfl
theorem zaK : tB1 f ρ QB E = f ρ (isB QB) E := propext Iff.rfl
theorem zaQ : tAndD ga gb ρ QB E = ga ρ (fun b => if b = true then gb ρ QB E else QB false) E := propext Iff.rfl
theorem zaR : tOrD ga gb ρ QB E = ga ρ (fun b => if b = true then QB true else gb ρ QB E) E := propext Iff.rfl
theorem zaS : tNotD ga ρ QB E = ga ρ (fun b => QB (!b)) E := propext Iff.rfl
theorem zaT : tYesD ρ QB E = QB true := propext Iff.rfl
theorem zaW (neg : Bool) (d e : D) : eqD neg d e Q E = (SeqAt.shaped d = true ∧ SeqAt.shaped e = true ∧ Q (.bool (PyData.eqv d e != neg))) := propext Iff.rfl
theorem zbe (i j : Int) : subD (.int i) (.int j) Q E = Q (.int (i - j)) := propext Iff.rfl
theorem zbi (i j : Int) : fdivD (.int i) (.int j) Q E = (CDiv i j ∧ Q (.int (i / j))) := propext Iff.rfl
theorem zbj (i j : Int) : modD (.int i) (.int j) Q E = (0 < j ∧ Q (.int (i % j))) := propext Iff.rfl
theorem zbk (i j : Int) : ltD (.int i) (.int j) Q E = Q (.bool (decide (i < j))) := propext Iff.rfl
theorem zbl (i j : Int) : leD (.int i) (.int j) Q E = Q (.bool (decide (i ≤ j))) := propext Iff.rfl
theorem zbm (i j : Int) : gtD (.int i) (.int j) Q E = Q (.bool (decide (j < i))) := propext Iff.rfl
theorem zbn (i j : Int) : geD (.int i) (.int j) Q E = Q (.bool (decide (j ≤ i))) := propext Iff.rfl
theorem zbx : sItems f ρ QL E = f ρ (fun d => itemsD d QL E) E := propext Iff.rfl
theorem zbQ : eOfD fd ρ Q E = fd ρ (fun ds => Q (dictE ds)) E := propext Iff.rfl
theorem zbR (QK : List (Key × D) → Prop) : dDisp fd ρ QK E = fd ρ (fun ds => QK (mergeG [] ds)) E := propext Iff.rfl
theorem zbT (QK : List (Key × D) → Prop) : pNil ρ QK E = QK [] := propext Iff.rfl
theorem zbS (QK : List (Key × D) → Prop) : pCons f g fd ρ QK E = f ρ (fun k => orStuck (keyOf k) fun k => g ρ (fun d => fd ρ (fun ds => QK ((k, d) :: ds)) E) E) E := propext Iff.rfl
theorem zbU : sSetD i fd Γ k = fd (clean Γ) (fun ds => k.nx (Γ.set i (some (.own (.dct ds))))) k.ex := propext Iff.rfl
theorem zbV : sUpd i fd Γ k = ownDAt Γ i fun ds => fd (clean Γ) (fun es => ds.length + es.length ≤ 1000000 ∧ k.nx (Γ.set i (some (.own (.dct (mergeG ds es)))))) k.ex := propext Iff.rfl
theorem zco (T : Tg) (vs : List Nat) (x : D) (kk : Option D → Prop) : lcStep T vs ga f ρ x kk = orStuck (bindT T x) fun l => ga (setAll (wipeR ρ vs) l) (fun b => if b = true then f (setAll (wipeR ρ vs) l) (fun y => kk (some y)) (fun _ => False) else kk none) (fun _ => False) := propext Iff.rfl
theorem zcB (T : Tg) (vs : List Nat) : eLc fa T vs ga f ρ QL E = fa ρ (fun xs => xs.length ≤ 1000000 ∧ lcLoop (lcStep T vs ga f ρ) xs [] QL) E := propext Iff.rfl
theorem zcC (T : Tg) : sFor fa T F Γ k = fa (clean Γ) (fun xs => forLoop T F k xs Γ) k.ex := propext Iff.rfl
end
/-! ### comprehensions -/
theorem lcLoop_spec {step : D → (Option D → Prop) → Prop} (h : D → Option D) : ∀ {xs acc : List D} {Q : List D → Prop}, (∀ x ∈ xs, ∀ k : Option D → Prop, k (h x) → step x k) → Q (acc ++ xs.filterMap h) → lcLoop step xs acc Q
  | [], acc, Q, _, q => by simpa [lcLoop] using q
  | x :: xs, acc, Q, hs, q => by
    unfold lcLoop
    refine hs x List.mem_cons_self _ ?_
    refine lcLoop_spec h (fun y hy => hs y (List.mem_cons_of_mem _ hy)) ?_
    cases e : h x with
    | none => simpa [List.filterMap_cons, e] using q
    | some y => simpa [List.filterMap_cons, e] using q
theorem lcLoop_map {step : D → (Option D → Prop) → Prop} (h : D → D) {xs : List D} {Q : List D → Prop} (hs : ∀ x ∈ xs, ∀ k : Option D → Prop, k (some (h x)) → step x k) (q : Q (xs.map h)) : lcLoop step xs [] Q := by
  refine lcLoop_spec (fun x => some (h x)) hs ?_
  simpa using q
/-! ### shapes -/
theorem sh_seq {n : Nat} {ds : List D} (h : ∀ d ∈ ds, d.canLay0 = true ∧ d.depth ≤ n) : PyData.canLayAll0 ds = true ∧ PyData.depthAll ds ≤ n := by
  induction ds with
  | nil => exact ⟨by simp [PyData.canLayAll0], by simp [PyData.depthAll]⟩
  | cons x r ih =>
    obtain ⟨h1, h2⟩ := ih fun d hd => h d (List.mem_cons_of_mem _ hd)
    obtain ⟨h3, h4⟩ := h x List.mem_cons_self
    refine ⟨by simp [PyData.canLayAll0, h1, h3], ?_⟩
    simp only [PyData.depthAll]
    omega
theorem sh_tuple {n : Nat} {ds : List D} (h : ∀ d ∈ ds, d.canLay0 = true ∧ d.depth ≤ n) (hn : n ≤ 63 := by decide) : SeqAt.shaped (.tuple ds) = true := by
  obtain ⟨h1, h2⟩ := sh_seq h
  unfold SeqAt.shaped
  simp [PyData.canLay0, PyData.depth, h1]
  omega
theorem sh_list {n : Nat} {ds : List D} (h : ∀ d ∈ ds, d.canLay0 = true ∧ d.depth ≤ n) (hn : n ≤ 63 := by decide) : SeqAt.shaped (.list ds) = true := by
  obtain ⟨h1, h2⟩ := sh_seq h
  unfold SeqAt.shaped
  simp [PyData.canLay0, PyData.depth, h1]
  omega
def intsD (ns : List Int) : List D := ns.map .int
theorem ints_flat {ns : List Int} : ∀ d ∈ intsD ns, d.canLay0 = true ∧ d.depth ≤ 0 := by
  intro d hd
  obtain ⟨i, _, rfl⟩ := List.mem_map.mp hd
  exact ⟨by simp [PyData.canLay0], by simp [PyData.depth]⟩
theorem sh_ints (ns : List Int) : SeqAt.shaped (.tuple (intsD ns)) = true := sh_tuple ints_flat
theorem sh_intsL (ns : List Int) : SeqAt.shaped (.list (intsD ns)) = true := sh_list ints_flat
theorem eqvAll_ints : ∀ (ns ms : List Int), PyData.eqvAll (intsD ns) (intsD ms) = decide (ns = ms)
  | [], [] => by simp [intsD, PyData.eqvAll]
  | [], _ :: _ => by simp [intsD, PyData.eqvAll]
  | _ :: _, [] => by simp [intsD, PyData.eqvAll]
  | n :: ns, m :: ms => by
    have ih := eqvAll_ints ns ms
    unfold intsD at *
    rw [List.map_cons, List.map_cons, PyData.eqvAll, ih, zbN]
    by_cases h1 : n = m <;> by_cases h2 : ns = ms <;> simp [h1, h2]
theorem eqv_ints (ns ms : List Int) : PyData.eqv (.tuple (intsD ns)) (.tuple (intsD ms)) = decide (ns = ms) := by
  show PyData.eqvAll _ _ = _
  exact eqvAll_ints ns ms
theorem eqv_intsL (ns ms : List Int) : PyData.eqv (.list (intsD ns)) (.list (intsD ms)) = decide (ns = ms) := by
  show PyData.eqvAll _ _ = _
  exact eqvAll_ints ns ms
theorem upTo_ints (n : Nat) : upTo 0 n = intsD ((List.range n).map fun i : Nat => (i : Int)) := by
  unfold upTo intsD
  rw [List.map_map]
  congr 1
  funext i
  simp
end
/-! ### dicts, own things, loops, draws -/
def ownK (Q : List (Key × D) → Prop) : Option (Option Ent) → Prop
  | some (some (.own (.dct ds))) => Q ds
  | _ => False
section
variable {Q : D → Prop} {E : Str → Prop}
theorem zbW (Γ : Env) (i : Nat) (R : List (Key × D) → Prop) : ownDAt Γ i R = ownK R Γ[i]? := by
  unfold ownDAt ownK
  generalize Γ[i]? = o
  match o with
  | none => rfl
  | some none => rfl
  | some (some (.val d)) => rfl
  | some (some (.own (.lst d))) => rfl
  | some (some (.own (.dct d))) => rfl
theorem zbX (R : List (Key × D) → Prop) (ds : List (Key × D)) : ownK R (some (some (.own (.dct ds)))) = R ds := propext Iff.rfl
theorem zbY (ds : List (Key × D)) : dataOf (.dct ds) = dictE ds := rfl
theorem zbZ (ds : List D) : dataOf (.lst ds) = .list ds := rfl
theorem zca (x : Str) : keyOf (.str x) = some (.inr x) := rfl
theorem zcb (i : Int) : keyOf (.int i) = some (.inl i) := rfl
theorem zcc (a b : String) : (Str.ofString a = Str.ofString b) = (a = b) := propext ⟨ofString_inj, fun h => by rw [h]⟩
theorem zcd (a b : Str) : ((Sum.inr a : Key) = Sum.inr b) = (a = b) := propext ⟨fun h => by injection h, fun h => by rw [h]⟩
theorem zce (a b : Int) : ((Sum.inl a : Key) = Sum.inl b) = (a = b) := propext ⟨fun h => by injection h, fun h => by rw [h]⟩
theorem zcf {β : Type} (l : List (Key × β)) : mergeG l [] = l := rfl
theorem zcg {β : Type} (l : List (Key × β)) (k : Key) (v : β) (r : List (Key × β)) : mergeG l ((k, v) :: r) = mergeG (putG l k v) r := rfl
theorem zch {β : Type} (k : Key) (v : β) : putG [] k v = [(k, v)] := rfl
theorem zci {β : Type} (j k : Key) (u v : β) (l : List (Key × β)) (h : ¬ j = k) : putG ((j, u) :: l) k v = (j, u) :: putG l k v := by
  unfold putG
  simp only [List.any_cons, decide_eq_false h, Bool.false_or, List.map_cons, if_neg h]
  split <;> rfl
theorem zcj {β : Type} (j k : Key) (u : β) (l : List (Key × β)) : lookG ((j, u) :: l) k = if j = k then some u else lookG l k := by
  unfold lookG
  rw [List.find?_cons]
  by_cases h : j = k
  · simp [h]
  · simp [h]
theorem zck (ds : List (Key × D)) (d : D) : dgetD (dictE ds) d Q E = orStuck (keyOf d) fun k => orStuck (lookG ds k) Q := by
  show orStuck (keyOf d) (fun k => orStuck (dlook (ds.map fun p => (kD p.1, p.2)) k) Q) = _
  simp only [dlook_E]
theorem zcl (m : Int) : m__law_draw [sD, tD, .int m] Q E = (0 < m ∧ m < 1073741824 ∧ ∀ r : Int, 0 ≤ r → r < m → Q (.int r)) := by
  show (sD = sD ∧ tD = tD ∧ 0 < m ∧ m < 1073741824 ∧ ∀ r : Int, 0 ≤ r → r < m → Q (.int r)) = _
  simp
theorem zcm : m__law_begun [] Q E = Q tD := by
  show (([] : List D) = [] ∧ Q tD) = _
  simp
theorem pickW (ws : List String) {i : Int} {Q : D → Prop} (h0 : 0 ≤ i) (h1 : i < ws.length) (h : ∀ w ∈ ws, Q (.str (Str.ofString w))) : orStuck (atI (ws.map fun w => PyData.str (Str.ofString w)) i) Q := by
  rw [atI_nat h0 (by simpa using h1)]
  show Q _
  rw [List.getElem_map]
  exact h _ (List.getElem_mem _)
theorem pickWn (ws : List String) (n : Nat) {i : Int} {Q : D → Prop} (h0 : 0 ≤ i) (h1 : i < n) (hn : n ≤ ws.length) (h : ∀ w ∈ ws.take n, Q (.str (Str.ofString w))) : orStuck (atI (ws.map fun w => PyData.str (Str.ofString w)) i) Q := by
  rw [atI_nat h0 (by simp; omega)]
  show Q _
  rw [List.getElem_map]
  refine h _ ?_
  rw [List.mem_take_iff_getElem]
  exact ⟨i.toNat, by omega, rfl⟩
theorem pickI (ws : List Int) {i : Int} {Q : D → Prop} (h0 : 0 ≤ i) (h1 : i < ws.length) (h : ∀ w ∈ ws, Q (.int w)) : orStuck (atI (ws.map PyData.int) i) Q := by
  rw [atI_nat h0 (by simpa using h1)]
  show Q _
  rw [List.getElem_map]
  exact h _ (List.getElem_mem _)
theorem zcn (i : Nat) (d : D) : bindT (.name i) d = some [(i, d)] := by unfold bindT; rfl
theorem forLoop_inv {T : Tg} {F : FS} {k : KS} (I : Env → Prop) (hend : ∀ Γ, I Γ → k.nx Γ) : ∀ (xs : List D), (∀ x ∈ xs, ∀ Γ, I Γ → ∀ nx : Env → Prop, (∀ Γ', I Γ' → nx Γ') → orStuck (bindT T x) fun l => F (setV Γ l) { k with nx := nx, ct := nx, bk := k.nx }) → ∀ Γ, I Γ → forLoop T F k xs Γ
  | [], _, Γ, h => hend Γ h
  | x :: xs, hs, Γ, h => hs x List.mem_cons_self Γ h _ fun Γ' h' => forLoop_inv I hend xs (fun y hy => hs y (List.mem_cons_of_mem _ hy)) Γ' h'
/-- with what is left -/
theorem forLoop_ind {T : Tg} {F : FS} {k : KS} (I : List D → Env → Prop) (hend : ∀ Γ, I [] Γ → k.nx Γ) : ∀ (xs : List D), (∀ x r, ∀ Γ, I (x :: r) Γ → ∀ nx : Env → Prop, (∀ Γ', I r Γ' → nx Γ') → orStuck (bindT T x) fun l => F (setV Γ l) { k with nx := nx, ct := nx, bk := k.nx }) → ∀ Γ, I xs Γ → forLoop T F k xs Γ
  | [], _, Γ, h => hend Γ h
  | x :: xs, hs, Γ, h => hs x xs Γ h _ fun Γ' h' => forLoop_ind I hend xs hs Γ' h'
theorem lcLoop_ints {step : D → (Option D → Prop) → Prop} (h : Int → Int) (n : Nat) {Q : List D → Prop} (hs : ∀ i : Nat, i < n → ∀ k : Option D → Prop, k (some (.int (h i))) → step (.int i) k) (q : Q (intsD ((List.range n).map fun i : Nat => h i))) : lcLoop step (upTo 0 n) [] Q := by
  refine lcLoop_map (fun d => match d with | .int i => .int (h i) | d => d) (fun x hx k hk => ?_) ?_
  · rw [upTo_ints] at hx
    obtain ⟨i, hi, rfl⟩ := List.mem_map.mp hx
    obtain ⟨j, hj, rfl⟩ := List.mem_map.mp hi
    exact hs j (List.mem_range.mp hj) k hk
  · rw [upTo_ints]
    unfold intsD at *
    rw [List.map_map, List.map_map] at *
    exact q
theorem zcp (i : Int) (r : List D) : SeqAt.shaped (.tuple (.int i :: r)) = SeqAt.shaped (.tuple r) := by simp [SeqAt.shaped, PyData.canLay0, PyData.canLayAll0, PyData.depth, PyData.depthAll]
theorem zcq (s : String) (r : List D) : SeqAt.shaped (.tuple (.str (Str.ofString s) :: r)) = SeqAt.shaped (.tuple r) := by simp [SeqAt.shaped, PyData.canLay0, PyData.canLayAll0, PyData.depth, PyData.depthAll, strOk_of]
theorem zcr (b : Bool) (r : List D) : SeqAt.shaped (.tuple (.bool b :: r)) = SeqAt.shaped (.tuple r) := by simp [SeqAt.shaped, PyData.canLay0, PyData.canLayAll0, PyData.depth, PyData.depthAll]
theorem zcs (r : List D) : SeqAt.shaped (.tuple (.none :: r)) = SeqAt.shaped (.tuple r) := by simp [SeqAt.shaped, PyData.canLay0, PyData.canLayAll0, PyData.depth, PyData.depthAll]
theorem zct : SeqAt.shaped (.tuple []) = true := rfl
theorem zcu (a : D) (l : List D) : PyData.eqv (.tuple (a :: l)) (.tuple []) = false := by simp [PyData.eqv, PyData.eqvAll]
theorem zcv (a : D) (l : List D) : PyData.eqv (.tuple []) (.tuple (a :: l)) = false := by simp [PyData.eqv, PyData.eqvAll]
theorem zcw : PyData.eqv (.tuple []) (.tuple []) = true := by simp [PyData.eqv, PyData.eqvAll]
theorem zcx (a b : D) (l m : List D) : PyData.eqv (.tuple (a :: l)) (.tuple (b :: m)) = (PyData.eqv a b && PyData.eqv (.tuple l) (.tuple m)) := by simp [PyData.eqv, PyData.eqvAll]
/-! ### sorted ints -/
theorem srt_ints (ns : List Int) : srtOk (intsD ns) := by
  refine ⟨fun d hd e he => ?_, .inr fun d hd => ?_, fun d hd => ?_⟩
  · obtain ⟨i, _, rfl⟩ := List.mem_map.mp hd
    obtain ⟨j, _, rfl⟩ := List.mem_map.mp he
    simp [PySem.W.alike]
  · obtain ⟨i, _, rfl⟩ := List.mem_map.mp hd
    exact ⟨by simp, by simp⟩
  · have := ints_flat d hd
    exact ⟨this.1, by omega⟩
theorem leD1_ii (i j : Int) : leD1 (.int i) (.int j) = decide (i ≤ j) := by
  have h := congrFun (congrFun (PySem.W.dataLe_int (fun n : Int => n)) i) j
  exact h
theorem sortL_ints (ns : List Int) : sortL (intsD ns) = intsD (ns.mergeSort fun a b => decide (a ≤ b)) := by
  unfold sortL intsD
  rw [List.map_mergeSort]
  intro a _ b _
  rw [leD1_ii]
theorem sort_perm {ns ms : List Int} (hp : ns.Perm ms) (hs : ms.Pairwise (· ≤ ·)) : ns.mergeSort (fun a b => decide (a ≤ b)) = ms := by
  have h1 : (ns.mergeSort fun a b => decide (a ≤ b)).Perm ms := (List.mergeSort_perm ns _).trans hp
  have h2 : (ns.mergeSort fun a b => decide (a ≤ b)).Pairwise (· ≤ ·) := by
    have := List.pairwise_mergeSort (le := fun a b : Int => decide (a ≤ b)) (fun a b c h1 h2 => by simp at *; omega) (fun a b => by simp; omega) ns
    exact this.imp fun h => by simpa using h
  exact h1.eq_of_pairwise (fun a b _ _ h1 h2 => by omega) h2 hs
end
end DL

namespace DL
open PySem PySem.Spec L2
/-! ### more rules, for rewriting -/
def intK (R : Option Int → Prop) : D → Prop
  | .int i => R (some i)
  | _ => False
def augK (f : (D → Prop) → Prop) (g : Int → Int → Int) (R : D → Prop) : Option (Option D) → Prop
  | some (some (.int a)) => f fun d => match d with
    | .int b => R (.int (g a b))
    | _ => False
  | _ => False
def augJ (g : Int → Int → Int) (R : D → Prop) (a : Int) : D → Prop
  | .int b => R (.int (g a b))
  | _ => False
def ownLK (R : List D → Prop) : Option (Option Ent) → Prop
  | some (some (.own (.lst ds))) => R ds
  | _ => False
def par3K (R : D → D → D → Prop) : List D → Prop
  | [d, e, c] => R d e c
  | _ => False
def extK (R : List D → Prop) : D → Prop
  | .list ys => R ys
  | _ => False
section
variable {f g : Rho → WD D} {fa fb : Rho → WD (List D)} {ga gb : Rho → WD Bool} {fl fh : Rho → WD (Option Int)} {ρ : Rho} {Q : D → Prop} {QL : List D → Prop} {E : Str → Prop} {Γ : Env} {k : KS} {F : FS} {R : Option Int → Prop}
theorem zcD : eSl f fl fh ρ Q E = f ρ (fun d => fl ρ (fun lo => fh ρ (fun hi => slD d lo hi Q E) E) E) E := propext Iff.rfl
theorem zcE : oNone ρ R E = R none := propext Iff.rfl
theorem zcF : oSome f ρ R E = f ρ (intK R) E := propext Iff.rfl
theorem zcG (i : Int) : intK R (.int i) = R (some i) := propext Iff.rfl
theorem zcH (xs : List D) (lo hi : Option Int) : slD (.tuple xs) lo hi Q E = Q (.tuple (cutL xs lo hi)) := propext Iff.rfl
theorem zcI (xs : List D) (lo hi : Option Int) : slD (.list xs) lo hi Q E = Q (.list (cutL xs lo hi)) := propext Iff.rfl
theorem zcJ (T : Tg) : sTgt T f Γ k = f (clean Γ) (fun d => orStuck (bindT T d) fun l => k.nx (setV Γ l)) k.ex := propext Iff.rfl
theorem zcK (T : Tg) : sTgtP T f Γ k = f (full Γ) (fun d => pureD d = true ∧ orStuck (bindT T d) fun l => k.nx (setV Γ l)) k.ex := propext Iff.rfl
theorem zcL (ts : List Tg) (ds : List D) : bindT (.tup ts) (.tuple ds) = bindAll ts ds := by simp [bindT]
theorem zcM : bindAll [] [] = some [] := by simp [bindAll]
theorem zcN (i : Nat) (d : D) (ts : List Tg) (ds : List D) : bindAll (.name i :: ts) (d :: ds) = (bindAll ts ds).map ((i, d) :: ·) := by
  rw [bindAll, zcn]
  cases bindAll ts ds <;> rfl
theorem zcO {α β : Type} (h : α → β) (a : α) : (some a).map h = some (h a) := rfl
theorem zcP (i : Nat) (h : Int → Int → Int) : sAug i h f Γ k = augK (fun R => f (full Γ) R k.ex) h (fun d => k.nx (Γ.set i (some (.val d)))) (full Γ)[i]? := by
  unfold sAug augK
  generalize (full Γ)[i]? = o
  match o with
  | none => rfl
  | some none => rfl
  | some (some (.int a)) => rfl
  | some (some .none) => rfl
  | some (some (.bool _)) => rfl
  | some (some (.str _)) => rfl
  | some (some (.list _)) => rfl
  | some (some (.tuple _)) => rfl
  | some (some (.dict _)) => rfl
theorem zcQ (h : Int → Int → Int) (R : D → Prop) (fx : (D → Prop) → Prop) (a : Int) : augK fx h R (some (some (.int a))) = fx (augJ h R a) := propext Iff.rfl
theorem zcR (h : Int → Int → Int) (R : D → Prop) (a b : Int) : augJ h R a (.int b) = R (.int (h a b)) := propext Iff.rfl
theorem zcS (i : Nat) (R : List D → Prop) : ownAt Γ i R = ownLK R Γ[i]? := by
  unfold ownAt ownLK
  generalize Γ[i]? = o
  match o with
  | none => rfl
  | some none => rfl
  | some (some (.val d)) => rfl
  | some (some (.own (.lst d))) => rfl
  | some (some (.own (.dct d))) => rfl
theorem zcT (R : List D → Prop) (ds : List D) : ownLK R (some (some (.own (.lst ds)))) = R ds := propext Iff.rfl
theorem zcU (i : Nat) : sApp i f Γ k = ownAt Γ i fun xs => f (clean Γ) (fun d => xs.length < 1000000 ∧ k.nx (Γ.set i (some (.own (.lst (xs ++ [d])))))) k.ex := propext Iff.rfl
theorem zcV (i : Nat) : sAppP i f Γ k = ownAt Γ i fun xs => f (full Γ) (fun d => pureD d = true ∧ xs.length < 1000000 ∧ k.nx (Γ.set i (some (.own (.lst (xs ++ [d])))))) k.ex := propext Iff.rfl
theorem zcW (i : Nat) : sExt i f Γ k = ownAt Γ i fun xs => f (clean Γ) (extK fun ys => xs.length + ys.length ≤ 1000000 ∧ k.nx (Γ.set i (some (.own (.lst (xs ++ ys)))))) k.ex := propext Iff.rfl
theorem zcX (R : List D → Prop) (ys : List D) : extK R (.list ys) = R ys := propext Iff.rfl
theorem zcY (i j : Nat) : sParFF i j fa fb Γ k = fa (clean Γ) (fun xs => fb (clean Γ) (fun ys => k.nx ((Γ.set i (some (.own (.lst xs)))).set j (some (.own (.lst ys))))) k.ex) k.ex := propext Iff.rfl
theorem zcZ (i j m : Nat) : sPar3 i j m fa Γ k = fa (clean Γ) (par3K fun d e c => k.nx (((Γ.set i (some (.val d))).set j (some (.val e))).set m (some (.val c)))) k.ex := propext Iff.rfl
theorem zda (R : D → D → D → Prop) (d e c : D) : par3K R [d, e, c] = R d e c := propext Iff.rfl
theorem zdb (i j : Nat) : sParVF i j f fb Γ k = f (clean Γ) (fun d => fb (clean Γ) (fun ys => k.nx ((Γ.set i (some (.val d))).set j (some (.own (.lst ys))))) k.ex) k.ex := propext Iff.rfl
theorem zdc (i j m : Nat) : sPar3F i j m f g fb Γ k = f (clean Γ) (fun d => g (clean Γ) (fun e => fb (clean Γ) (fun ys => k.nx (((Γ.set i (some (.val d))).set j (some (.val e))).set m (some (.own (.lst ys))))) k.ex) k.ex) k.ex := propext Iff.rfl
theorem zdf (i : Nat) : sFrz i F Γ k = F (frz i Γ) k := propext Iff.rfl
theorem zdg : sBreak Γ k = k.bk Γ := propext Iff.rfl
theorem zdh : sCont Γ k = k.ct Γ := propext Iff.rfl
theorem zdi (h : List D → D → WD D) : eMt h f g ρ Q E = f ρ (fun x => seqD x fun ds => g ρ (fun y => h ds y Q E) E) E := propext Iff.rfl
theorem zdj (ds : List D) (R : List D → Prop) : seqD (.list ds) R = R ds := propext Iff.rfl
theorem zdk (ds : List D) (R : List D → Prop) : seqD (.tuple ds) R = R ds := propext Iff.rfl
theorem zdl (ds : List D) (d : D) : plcD ds d Q E = (SeqAt.shaped (.list ds) = true ∧ SeqAt.shaped d = true ∧ orStuck (SeqAt.dataPlace ds d) fun j => Q (.int (j : Nat))) := propext Iff.rfl
theorem zdm (ds : List D) (d : D) : cntD ds d Q E = (SeqAt.shaped (.list ds) = true ∧ SeqAt.shaped d = true ∧ Q (.int ((ds.countP fun z => PyData.eqv z d : Nat) : Int))) := propext Iff.rfl
theorem zdn (T T1 : Tg) (vs vs1 : List Nat) : eLc2 fa T vs ga fb T1 vs1 gb f ρ QL E = fa ρ (fun xs => lcLoop2 T vs ga fb T1 vs1 gb f ρ xs [] QL) E := propext Iff.rfl
theorem zdo (xs ys : List D) : zipD [.list xs, .list ys] QL E = QL ((xs.zip ys).map fun p => .tuple [p.1, p.2]) := propext Iff.rfl
theorem zdp (xs : List D) : enumerateD [.list xs] QL E = QL (((upTo 0 xs.length).zip xs).map fun p => .tuple [p.1, p.2]) := propext Iff.rfl
theorem zdq (xs : List D) : enumerateD [.tuple xs] QL E = QL (((upTo 0 xs.length).zip xs).map fun p => .tuple [p.1, p.2]) := propext Iff.rfl
theorem zdr (neg : Bool) : isND neg .none .none Q E = Q (.bool (true != neg)) := propext Iff.rfl
theorem zds (neg : Bool) (i : Int) : isND neg (.int i) .none Q E = Q (.bool (false != neg)) := propext Iff.rfl
theorem zdt (neg : Bool) (xs : List D) : isND neg (.tuple xs) .none Q E = Q (.bool (false != neg)) := propext Iff.rfl
theorem zdu (xs : List D) (k : Int) : mulD (.list xs) (.int k) Q E = (0 ≤ k ∧ k ≤ 1000 ∧ xs.length ≤ 1000 ∧ Q (.list (List.replicate k.toNat xs).flatten)) := propext Iff.rfl
theorem zdv (xs : List D) : listD (.list xs) QL E = QL xs := propext Iff.rfl
theorem zdw (xs : List D) : listD (.tuple xs) QL E = QL xs := propext Iff.rfl
theorem zdx (xs : List D) : allD (.list xs) Q E = orStuck (boolsD xs) fun bs => Q (.bool (bs.all id)) := propext Iff.rfl
theorem zdy (QB : Bool → Prop) : truK QB .none = QB false := propext Iff.rfl
theorem zdz (QB : Bool → Prop) (i : Int) : truK QB (.int i) = QB (i != 0) := propext Iff.rfl
theorem sWhile_r : sWhile ga F Γ k = ∃ n, whLoop ga F k n Γ := propext Iff.rfl
theorem frz_set (i : Nat) (Γ : Env) : frz i Γ = Γ.modify i fun o => match o with
  | some (.own c) => some (.val (dataOf c))
  | o => o := rfl
theorem eStuck_r : eStuck ρ Q E = False := propext Iff.rfl
theorem zdA (xs : List D) : pureD (.tuple xs) = pureD.pureAll xs := rfl
theorem zdB (x : D) (xs : List D) : pureD.pureAll (x :: xs) = (pureD x && pureD.pureAll xs) := rfl
theorem zdC : pureD.pureAll [] = true := rfl
theorem zdD (i : Int) : pureD (.int i) = true := rfl
theorem zdE (b : Bool) : pureD (.bool b) = true := rfl
theorem zdF (s : Str) : pureD (.str s) = true := rfl
theorem zdG : pureD .none = true := rfl
theorem pure_ints (ns : List Int) : pureD.pureAll (intsD ns) = true := by
  induction ns with
  | nil => rfl
  | cons n r ih => exact ih
end
/-! ### loops over what is coded -/
theorem lcLoop_fm {α : Type} {step : D → (Option D → Prop) → Prop} (enc : α → D) (p : α → Bool) (h : α → D) {as : List α} {Q : List D → Prop} (hs : ∀ a ∈ as, ∀ k : Option D → Prop, k (if p a = true then some (h a) else none) → step (enc a) k) (q : Q ((as.filter p).map h)) : lcLoop step (as.map enc) [] Q := by
  have key : ∀ (as : List α) (acc : List D), (∀ a ∈ as, ∀ k : Option D → Prop, k (if p a = true then some (h a) else none) → step (enc a) k) → Q (acc ++ (as.filter p).map h) → lcLoop step (as.map enc) acc Q := by
    intro as
    induction as with
    | nil =>
      intro acc _ q
      simpa [lcLoop] using q
    | cons a r ih =>
      intro acc hs q
      rw [List.map_cons]
      unfold lcLoop
      refine hs a List.mem_cons_self _ ?_
      by_cases e : p a = true
      · rw [if_pos e]
        refine ih _ (fun b hb => hs b (List.mem_cons_of_mem _ hb)) ?_
        simpa [List.filter_cons, e] using q
      · rw [if_neg e]
        refine ih _ (fun b hb => hs b (List.mem_cons_of_mem _ hb)) ?_
        simpa [List.filter_cons, e] using q
  exact key as [] hs (by simpa using q)
theorem lcLoop_mp {α : Type} {step : D → (Option D → Prop) → Prop} (enc : α → D) (h : α → D) {as : List α} {Q : List D → Prop} (hs : ∀ a ∈ as, ∀ k : Option D → Prop, k (some (h a)) → step (enc a) k) (q : Q (as.map h)) : lcLoop step (as.map enc) [] Q :=
  lcLoop_fm enc (fun _ => true) h (fun a ha k hk => hs a ha k (by simpa using hk)) (by rw [List.filter_eq_self.mpr fun _ _ => rfl]; exact q)
theorem forLoop_mp {α : Type} {T : Tg} {F : FS} {k : KS} (enc : α → D) (I : List α → Env → Prop) (hend : ∀ Γ, I [] Γ → k.nx Γ) : ∀ (as : List α), (∀ a r, ∀ Γ, I (a :: r) Γ → ∀ nx : Env → Prop, (∀ Γ', I r Γ' → nx Γ') → orStuck (bindT T (enc a)) fun l => F (setV Γ l) { k with nx := nx, ct := nx, bk := k.nx }) → ∀ Γ, I as Γ → forLoop T F k (as.map enc) Γ
  | [], _, Γ, h => hend Γ h
  | a :: as, hs, Γ, h => hs a as Γ h _ fun Γ' h' => forLoop_mp enc I hend as hs Γ' h'
theorem while_ind {c : Rho → WD Bool} {F : FS} {k : KS} (I : Nat → Env → Prop) (h : ∀ n Γ, I n Γ → ∀ nx : Env → Prop, (∀ m Γ', n = m + 1 → I m Γ' → nx Γ') → c (full Γ) (fun b => if b = true then F Γ { k with nx := nx, ct := nx, bk := k.nx } else k.nx Γ) k.ex) : ∀ (n : Nat) (Γ : Env), I n Γ → sWhile c F Γ k := by
  have key : ∀ (n : Nat) (Γ : Env), I n Γ → whLoop c F k (n + 1) Γ := by
    intro n
    induction n with
    | zero =>
      intro Γ i
      exact h 0 Γ i _ fun m Γ' e => by omega
    | succ n ih =>
      intro Γ i
      exact h (n + 1) Γ i _ fun m Γ' e i' => by
        have : m = n := by omega
        subst this
        exact ih Γ' i'
  exact fun n Γ i => ⟨n + 1, key n Γ i⟩
/-! ### places in lists of numbers -/
theorem place_ints (ns : List Int) (k : Int) (h : k ∈ ns) : SeqAt.dataPlace (intsD ns) (.int k) = some (ns.idxOf k) := by
  unfold SeqAt.dataPlace intsD
  rw [List.findIdx?_map]
  have e : ((fun y => PyData.eqv y (.int k)) ∘ PyData.int) = fun n => n == k := by
    funext n
    show PyData.eqv (.int n) (.int k) = _
    rw [zbN]
    by_cases z : n = k <;> simp [z]
  rw [e]
  have hlt := List.idxOf_lt_length_iff.mpr h
  rw [List.findIdx?_eq_some_iff_getElem]
  refine ⟨hlt, by simpa using List.getElem_idxOf hlt, fun j hj => ?_⟩
  have := List.not_of_lt_findIdx (p := (· == k)) (xs := ns) (by simpa [List.idxOf] using hj)
  simpa using this
theorem count_ints (ns : List Int) (k : Int) : ((intsD ns).countP fun z => PyData.eqv z (.int k)) = ns.count k := by
  unfold intsD
  rw [List.countP_map, List.count]
  have e : ((fun z => PyData.eqv z (.int k)) ∘ PyData.int) = fun n => n == k := by
    funext n
    show PyData.eqv (.int n) (.int k) = _
    rw [zbN]
    by_cases z : n = k <;> simp [z]
  rw [e]
theorem anyI (ns : List Int) (k : Int) : ((intsD ns).any fun z => PyData.eqv z (.int k)) = decide (k ∈ ns) := by
  unfold intsD
  rw [List.any_map]
  have e : ((fun z => PyData.eqv z (.int k)) ∘ PyData.int) = fun n => decide (n = k) := by
    funext n
    exact zbN n k
  rw [e]
  by_cases h : k ∈ ns
  · rw [decide_eq_true h, List.any_eq_true]
    exact ⟨k, h, by simp⟩
  · rw [decide_eq_false h, List.any_eq_false]
    intro x hx
    simp
    exact fun z => h (z ▸ hx)
theorem atI_ints {ns : List Int} {i : Int} (h0 : 0 ≤ i) (h1 : i < ns.length) : atI (intsD ns) i = some (.int (ns.getD i.toNat 0)) := by
  have hl : i.toNat < ns.length := by omega
  rw [atI_nat h0 (by simpa [intsD] using h1)]
  unfold intsD
  rw [List.getElem_map, List.getD_eq_getElem?_getD, List.getElem?_eq_getElem hl]
  rfl
/-! ### cuts -/
theorem cut_to {α : Type} (xs : List α) {s : Int} (h0 : 0 ≤ s) : cutL xs none (some s) = xs.take s.toNat := by
  unfold cutL HT.sIx
  simp only [if_neg (show ¬ s < 0 by omega), List.drop_zero, Nat.sub_zero]
  by_cases h : s.toNat ≤ xs.length
  · rw [Nat.min_eq_left h]
  · rw [Nat.min_eq_right (by omega), List.take_length, List.take_of_length_le (by omega)]
theorem cut_from {α : Type} (xs : List α) {s : Int} (h0 : 0 ≤ s) : cutL xs (some s) none = xs.drop s.toNat := by
  unfold cutL HT.sIx
  simp only [if_neg (show ¬ s < 0 by omega)]
  by_cases h : s.toNat ≤ xs.length
  · rw [Nat.min_eq_left h, List.take_of_length_le (by simp)]
  · rw [Nat.min_eq_right (by omega), Nat.sub_self, List.take_zero, List.drop_eq_nil_of_le (by omega)]
theorem set_cut {α : Type} (xs : List α) {s : Int} (x : α) (h0 : 0 ≤ s) (h1 : s < xs.length) : cutL xs none (some s) ++ [x] ++ cutL xs (some (s + 1)) none = xs.set s.toNat x := by
  rw [cut_to xs h0, cut_from xs (by omega), List.set_eq_take_append_cons_drop, if_pos (by omega)]
  have : (s + 1).toNat = s.toNat + 1 := by omega
  rw [this]
  simp
theorem intsD_set (ns : List Int) (i : Nat) (x : Int) : (intsD ns).set i (.int x) = intsD (ns.set i x) := by
  unfold intsD
  rw [List.map_set]
theorem intsD_len (ns : List Int) : (intsD ns).length = ns.length := by simp [intsD]
theorem intsD_app (a b : List Int) : intsD (a ++ b) = intsD a ++ intsD b := by simp [intsD]
end DL

namespace DL
open PySem PySem.Spec PyProof.Rows L2
/-! ### len(set(xs)), xs a list of whole numbers -/
def intsOf : List D → Option (List Int)
  | [] => some []
  | .int i :: r => (intsOf r).map (i :: ·)
  | _ => none
theorem intsOf_ints (ns : List Int) : intsOf (intsD ns) = some ns := by
  induction ns with
  | nil => rfl
  | cons n r ih =>
    show (intsOf (intsD r)).map (n :: ·) = _
    rw [ih]
    rfl
theorem intsOf_dv {O : Ob} {K : PySem.W.Frag} {H : Hp} {P : Addr → Prop} : ∀ {ds : List D} {vs : List V} {ns : List Int}, DvAll O K H P vs ds → intsOf ds = some ns → vs = ns.map V.int
  | [], _, _, .nil, e => by
    cases e
    rfl
  | d :: ds, _, _, .cons h r, e => by
    cases h with
    | int i =>
      unfold intsOf at e
      cases q : intsOf ds with
      | none =>
        rw [q] at e
        cases e
      | some ms =>
        rw [q] at e
        cases e
        rw [intsOf_dv r q]
        rfl
    | _ => cases e
def nub (ns : List Int) : List Int := firstMet (fun i => ns.getD i 0) ns.length
section
variable {O : Ob} {X : Cx} {E : XK}
def tLenSet (K : PySem.W.Frag) (ta : TE) : TE := fun σ H Q => ta σ H fun x H1 => ∃ (l : Addr) (ns : List Int), x = .ref l ∧ SqL K H1 l (ns.map V.int) ∧ ns.length ≤ 4000 ∧ Q (.int ((nub ns).length : Nat)) H1
theorem pe_lenSet {a : Expr} {ta : TE} {p p2 q pos : Pos} (hc : X.calm = true) (hg : Gl X "len") (hm : X.mg "len" = none) (hg2 : Gl X "set") (hm2 : X.mg "set" = none) (ha : PE X a ta)
    (na : starEach [a] X.env = (false, eval a X.env) :: starEach [] X.env) : PE X (.Call (.Name "len" p) [.Call (.Name "set" p2) [a] [] q] [] pos) (tLenSet X.K ta) := by
  refine ⟨fun pins s σ H Q I h => Call_ (ld_blt I hg hm boot_len (PyProof.Rows.callWith_builtin1 (PyProof.Rows.args_cons (Call_ (ld_blt I hg2 hm2 boot_set ?_)) rfl) rfl rfl))⟩
  refine PyProof.Rows.callWith_type1 (PyProof.Rows.args_cons (thn (ha.run pins s σ H _ I h) fun v s1 ⟨x, H1, I1, r1, l, ns, ex, hq, hl, q1⟩ => PyProof.Rows.args_nil ?_) na) na rfl
  subst ex
  cases r1
  obtain ⟨its, r, pl, hz⟩ := I1.list hq
  have hn : its.toArray.size = ns.length := by rw [List.size_toArray, ← r.length, List.length_map]
  refine call_set_list (I1.ok.hd hc) pl.isList (by simpa using RZ.intsAre_vals r) (by rw [hn]; unfold scanBound; omega) fun h' tk hS hk => PyProof.Rows.args_nil ?_
  rw [hn] at hS
  obtain ⟨o, es, ep, t, ho, hex, hd, _, _, hb, hf, hs⟩ := hS
  have I2 : Inv X pins σ H1 { s1 with heap := h', toks := tk } := I1.kept fun b o e => hk b o (Heap.lt_size e) e
  have hs' : es.size = (nub ns).length := hs
  exact call_len_set ho hex hd hf (by unfold scanBound at hb; omega) ⟨.int ((nub ns).length : Nat), H1, I2.tok _, ⟨_, by rw [hs']⟩, q1⟩
def lenSetD : D → WD D
  | .list xs => fun Q _ => orStuck (intsOf xs) fun ns => ns.length ≤ 4000 ∧ Q (.int ((nub ns).length : Nat))
  | _ => fun _ _ => False
theorem de_lenSet {a : Expr} {fa : Rho → WD D} {p p2 q pos : Pos} (hc : X.calm = true) (hg : Gl X "len") (hm : X.mg "len" = none) (hg2 : Gl X "set") (hm2 : X.mg "set" = none) (ha : DE O X E a fa)
    (na : starEach [a] X.env = (false, eval a X.env) :: starEach [] X.env := by rfl) : DE O X E (.Call (.Name "len" p) [.Call (.Name "set" p2) [a] [] q] [] pos) (eUn1 lenSetD fa) := by
  obtain ⟨ta, a1, a2⟩ := ha
  refine ⟨_, pe_lenSet hc hg hm hg2 hm2 a1 na, fun P ρ σ H Qd Ed Q hd hr hf hQ hE => a2 P ρ σ H _ Ed _ hd hr hf (fun v d H1 s1 h q => ?_) hE⟩
  cases h with
  | lst e n r =>
    obtain ⟨ns, e2, l, q⟩ := of_orStuck q
    have := intsOf_dv r e2
    subst this
    exact ⟨_, ns, rfl, .inl (.inl e), l, hQ _ _ H1 s1 (.int _) q⟩
  | _ => exact q.elim
theorem zde {Q : D → Prop} {E : Str → Prop} (ns : List Int) : lenSetD (.list (intsD ns)) Q E = (ns.length ≤ 4000 ∧ Q (.int ((nub ns).length : Nat))) := by
  show orStuck (intsOf (intsD ns)) _ = _
  rw [intsOf_ints]
  rfl
theorem nub_take (ns : List Int) : ∀ i, i ≤ ns.length → firstMet (fun i => ns.getD i 0) i = (ns.take i).foldl (fun acc x => if x ∈ acc then acc else acc ++ [x]) []
  | 0, _ => rfl
  | i + 1, h => by
    rw [firstMet_succ, nub_take ns i (by omega), List.take_add_one, List.getElem?_eq_getElem (by omega), List.foldl_append]
    have e : ns.getD i 0 = ns[i] := by rw [List.getD_eq_getElem?_getD, List.getElem?_eq_getElem (by omega)]; rfl
    show step_dedup _ _ = _
    unfold step_dedup
    simp only [Option.toList_some, List.foldl_cons, List.foldl_nil, e]
    by_cases hm : ns[i] ∈ (ns.take i).foldl (fun acc x => if x ∈ acc then acc else acc ++ [x]) []
    · rw [if_pos hm, if_pos (List.any_eq_true.mpr ⟨_, hm, by simp⟩)]
    · rw [if_neg hm, if_neg]
      intro z
      obtain ⟨y, hy, ey⟩ := List.any_eq_true.mp z
      exact hm (by rw [← eq_of_beq ey]; exact hy)
theorem nub_fold (ns : List Int) : nub ns = ns.foldl (fun acc x => if x ∈ acc then acc else acc ++ [x]) [] := by
  unfold nub
  rw [nub_take ns _ (Nat.le_refl _), List.take_length]
/-! ### x = y[e][e2], y a list of one's own -/
def sOwn2 (i j : Nat) (f1 f2 : Rho → WD D) : FS := fun Γ k => ownAt Γ j fun xs => f1 (clean Γ) (fun a => idxD (.list xs) a (fun d => f2 (clean Γ) (fun b => idxD d b (fun r => k.nx (Γ.set i (some (.val r)))) k.ex) k.ex) k.ex) k.ex
theorem ds_own2 (i j : Nat) {x y : Str} {e1 e2 : Expr} {f1 f2 : Rho → WD D} {pos pos' p1 p2 py : Pos} (hN : X.N.Nodup) (h1 : DE O X E e1 f1) (h2 : DE O X E e2 f2) (s1 : PlainIx e1) (s2 : PlainIx e2) (hi : X.N[i]? = some x := by rfl) (hx : Loc X.env.scope x := by first | exact Or.inl rfl | exact Or.inr rfl)
    (hs : swapsWith (.Subscript (.Subscript (.Name y py) e1 p1) e2 p2) (some (.Name x pos')) pos.line X.env = pure false := by rfl) (hf : X.fn x = true ∨ X.env.scope.names.lookup x = some .local := by first | exact .inl rfl | exact .inr rfl | assumption)
    (hj : X.N[j]? = some y := by rfl) (hv : Vis X.env.scope y := by first | exact Or.inl rfl | exact Or.inr (Or.inl rfl) | exact Or.inr (Or.inr rfl)) (hdd : (y == ("__debug__" : Str)) = false := by decide) (hcd : (y == ("__classdict__" : Str)) = false := by decide) :
    DS O X E (.Assign [.Name x pos'] (.Subscript (.Subscript (.Name y py) e1 p1) e2 p2) pos) (sOwn2 i j f1 f2) := by
  obtain ⟨ta, a1, a2⟩ := h1
  obtain ⟨tb, b1, b2⟩ := h2
  refine ⟨_, ps_set (i := i) hN hi hx (pe_ix ix_seq (pe_ix ix_seq (pe_var hj hv hdd hcd) a1 s1) b1 s2) hs hf, fun H0 P0 Γ σ H own k D hd r hf l => ?_⟩
  obtain ⟨xs, eg, hf⟩ := of_ownAt hf
  obtain ⟨p, eo, es, vs, ep, hv⟩ := r.ow j (.lst xs) eg
  refine ⟨.ref p, es, a2 _ _ σ H _ _ _ (r.dom hd) r.rs hf (fun u d H1 s1 h1 q1 => ?_) (l.exH r)⟩
  cases h1 with
  | int n =>
    obtain ⟨c, e3, q2⟩ := of_orStuck q1
    obtain ⟨v, e4, h3⟩ := atI_dv (hv.same s1) e3
    refine .inl ⟨_, _, n, v, rfl, rfl, .inl (.inl (s1 _ _ ep)), e4, ?_⟩
    refine b2 _ _ σ H1 _ _ _ ((r.dom hd).same s1) (r.rs.same s1) q2 (fun z e H2 s2 h4 q3 => ?_) ((l.exH r).same s1)
    exact opd_idx (O := O) (X := X) (Pw P0 own) H2 v z c e _ _ _ (((r.dom hd).same s1).same s2) (h3.same s2) h4 q3 fun w d' H3 s3 h5 q5 => l.nx _ _ _ _ (((r.step s1).step s2).step s3 |>.set h5) q5
  | _ => exact q1.elim
theorem zdd {f1 f2 : Rho → WD D} {Γ : Env} {k : KS} (i j : Nat) : sOwn2 i j f1 f2 Γ k = ownAt Γ j fun xs => f1 (clean Γ) (fun a => idxD (.list xs) a (fun d => f2 (clean Γ) (fun b => idxD d b (fun r => k.nx (Γ.set i (some (.val r)))) k.ex) k.ex) k.ex) k.ex := propext Iff.rfl
end
end DL

/-! plain tables: what the program computes, in plain Lean -/
namespace TM
def KeyOk (k : Int) : Prop := 0 ≤ k ∧ k ≤ 31
def SizeOk (n : Int) : Prop := n = 4 ∨ n = 8 ∨ n = 16 ∨ n = 32 ∨ n = 64
theorem small {n : Int} (h : SizeOk n) : 0 < n ∧ n ≤ 64 := by rcases h with rfl | rfl | rfl | rfl | rfl <;> decide
theorem four {n : Int} (h : SizeOk n) : 4 ≤ n := by rcases h with rfl | rfl | rfl | rfl | rfl <;> decide
def foldK (h : String) (k : Int) : Int := if h = "low" then k else k + k / 4
def homeOf (h : String) (k n : Int) : Int := foldK h k % n
/-- the step's offset -/
def stepOf (st : String) (k n i : Int) : Int := if st = "up" then i else if st = "down" then -i else if st = "wide" then i * (i + 1) / 2 else i * (1 + 2 * (k / 8 % 2))
def pathOf (h st : String) (k n : Int) : List Int := (List.range n.toNat).map fun i : Nat => (homeOf h k n + stepOf st k n i) % n
theorem emod_shift {n a s t : Int} (hn : 0 < n) (h : (a + s) % n = (a + t) % n) : s % n = t % n := by
  have h1 : ((a + s) - (a + t)) % n = 0 := Int.emod_emod_of_dvd _ (Int.dvd_refl n) ▸ (Int.emod_eq_emod_iff_emod_sub_eq_zero.mp h)
  have h2 : (a + s) - (a + t) = s - t := by omega
  rw [h2] at h1
  exact Int.emod_eq_emod_iff_emod_sub_eq_zero.mpr h1
theorem perm_sub {α : Type} [DecidableEq α] : ∀ {l m : List α}, l.Nodup → (∀ x ∈ l, x ∈ m) → m.length ≤ l.length → l.Perm m
  | [], m, _, _, h => by
    have : m = [] := List.length_eq_zero_iff.mp (by simpa using h)
    rw [this]
  | a :: r, m, hn, hs, h => by
    have ha : a ∈ m := hs a List.mem_cons_self
    have hp := List.perm_cons_erase ha
    have hn' := List.nodup_cons.mp hn
    have : r.Perm (m.erase a) := perm_sub hn'.2 (fun x hx => (List.mem_erase_of_ne (fun e => hn'.1 (by rw [← e]; exact hx))).mpr (hs x (List.mem_cons_of_mem _ hx))) (by
      have := hp.length_eq
      simp only [List.length_cons] at this h
      omega)
    exact (this.cons a).trans hp.symm
/-- no list without copies within m is longer than m -/
theorem nodup_le {α : Type} [DecidableEq α] : ∀ {l m : List α}, l.Nodup → (∀ x ∈ l, x ∈ m) → l.length ≤ m.length
  | [], _, _, _ => Nat.zero_le _
  | a :: r, m, hn, hs => by
    have ha : a ∈ m := hs a List.mem_cons_self
    have hp := (List.perm_cons_erase ha).length_eq
    have hn' := List.nodup_cons.mp hn
    have := nodup_le (l := r) (m := m.erase a) hn'.2 fun x hx => (List.mem_erase_of_ne (fun e => hn'.1 (by rw [← e]; exact hx))).mpr (hs x (List.mem_cons_of_mem _ hx))
    simp only [List.length_cons] at hp ⊢
    omega
theorem nodup_map {n : Nat} {f : Nat → Int} (hi : ∀ i < n, ∀ j < n, f i = f j → i = j) : ((List.range n).map f).Nodup :=
  List.pairwise_map.mpr (List.Pairwise.imp_of_mem (fun {q r} hq hr hne e => hne (hi q (List.mem_range.mp hq) r (List.mem_range.mp hr) e)) List.nodup_range)
theorem perm_of {n : Nat} {f : Nat → Int} (hr : ∀ i < n, 0 ≤ f i ∧ f i < n) (hi : ∀ i < n, ∀ j < n, f i = f j → i = j) : ((List.range n).map f).Perm ((List.range n).map fun i : Nat => (i : Int)) := by
  refine perm_sub (nodup_map hi) (fun x hx => ?_) (by simp)
  obtain ⟨i, h1, rfl⟩ := List.mem_map.mp hx
  obtain ⟨h2, h3⟩ := hr i (List.mem_range.mp h1)
  exact List.mem_map.mpr ⟨(f i).toNat, List.mem_range.mpr (by omega), by omega⟩
theorem range_sorted (n : Nat) : ((List.range n).map fun i : Nat => (i : Int)).Pairwise (· ≤ ·) :=
  List.pairwise_map.mpr (List.pairwise_lt_range.imp fun h => by omega)
def offInj (n : Nat) (f : Nat → Int) : Bool := (List.range n).all fun i => (List.range n).all fun j => decide (f i % n = f j % n → i = j)
theorem off_of {n : Nat} {f : Nat → Int} (h : offInj n f = true) : ∀ i < n, ∀ j < n, f i % n = f j % n → i = j := by
  intro i hi j hj
  have h1 := List.all_eq_true.mp h i (List.mem_range.mpr hi)
  have h2 := List.all_eq_true.mp h1 j (List.mem_range.mpr hj)
  exact of_decide_eq_true h2
theorem wide4 : offInj 4 (fun i => (i : Int) * (i + 1) / 2) = true := by decide +kernel
theorem wide8 : offInj 8 (fun i => (i : Int) * (i + 1) / 2) = true := by decide +kernel
theorem wide16 : offInj 16 (fun i => (i : Int) * (i + 1) / 2) = true := by decide +kernel
theorem wide32 : offInj 32 (fun i => (i : Int) * (i + 1) / 2) = true := by decide +kernel
theorem wide64 : offInj 64 (fun i => (i : Int) * (i + 1) / 2) = true := by decide +kernel
theorem off_step {st : String} {k n : Int} (hn : SizeOk n) : ∀ i < n.toNat, ∀ j < n.toNat, stepOf st k n (i : Nat) % n = stepOf st k n (j : Nat) % n → i = j := by
  have h2 : k / 8 % 2 = 0 ∨ k / 8 % 2 = 1 := by omega
  unfold stepOf
  intro i hi j hj
  by_cases e1 : st = "up"
  · simp only [e1, if_true]
    rcases hn with rfl | rfl | rfl | rfl | rfl <;> omega
  · by_cases e2 : st = "down"
    · simp only [e1, e2, if_true, if_false]
      rcases hn with rfl | rfl | rfl | rfl | rfl <;> simp <;> omega
    · by_cases e3 : st = "wide"
      · simp only [e1, e2, e3, if_true, if_false]
        rcases hn with rfl | rfl | rfl | rfl | rfl
        · exact off_of wide4 i hi j hj
        · exact off_of wide8 i hi j hj
        · exact off_of wide16 i hi j hj
        · exact off_of wide32 i hi j hj
        · exact off_of wide64 i hi j hj
      · simp only [e1, e2, e3, if_false]
        rcases h2 with h2 | h2 <;> rw [h2] <;> rcases hn with rfl | rfl | rfl | rfl | rfl <;> omega
theorem path_perm {h st : String} {k n : Int} (hn : SizeOk n) : (pathOf h st k n).Perm ((List.range n.toNat).map fun i : Nat => (i : Int)) := by
  obtain ⟨hn0, hn1⟩ := small hn
  unfold pathOf
  refine perm_of (fun i hi => ⟨Int.emod_nonneg _ (by omega), ?_⟩) fun i hi j hj e => off_step hn i hi j hj (emod_shift hn0 e)
  have := Int.emod_lt_of_pos (homeOf h k n + stepOf st k n i) hn0
  omega
theorem path_mem {h st : String} {k n s : Int} (hn : SizeOk n) : s ∈ pathOf h st k n ↔ 0 ≤ s ∧ s < n := by
  rw [(path_perm hn).mem_iff, List.mem_map]
  obtain ⟨hn0, hn1⟩ := small hn
  constructor
  · rintro ⟨i, hi, rfl⟩
    have := List.mem_range.mp hi
    omega
  · rintro ⟨h0, h1⟩
    exact ⟨s.toNat, List.mem_range.mpr (by omega), by omega⟩
theorem path_len {h st : String} {k n : Int} : (pathOf h st k n).length = n.toNat := by simp [pathOf]
theorem home_rng {h : String} {k n : Int} (hn : SizeOk n) : 0 ≤ homeOf h k n ∧ homeOf h k n < n := by
  obtain ⟨hn0, hn1⟩ := small hn
  exact ⟨Int.emod_nonneg _ (by omega), Int.emod_lt_of_pos _ hn0⟩
/-! ### slots -/
/-- what stands in a slot -/
def ga (T : List Int) (s : Int) : Int := T.getD s.toNat 0
def put (T : List Int) (s x : Int) : List Int := T.set s.toNat x
theorem put_len (T : List Int) (s x : Int) : (put T s x).length = T.length := by simp [put]
theorem ga_put {T : List Int} {s r x : Int} (hs : 0 ≤ s) (hr : 0 ≤ r) (h : s < T.length) : ga (put T s x) r = if s = r then x else ga T r := by
  unfold ga put
  rw [List.getD_eq_getElem?_getD, List.getElem?_set]
  by_cases e : s = r
  · subst e
    have : s.toNat < T.length := by omega
    simp [this]
  · have : s.toNat ≠ r.toNat := by omega
    simp [this, e]
theorem ga_mem {T : List Int} {s : Int} (h0 : 0 ≤ s) (h : s < T.length) : ga T s ∈ T := by
  unfold ga
  rw [List.getD_eq_getElem?_getD, List.getElem?_eq_getElem (by omega)]
  exact List.getElem_mem _
theorem mem_put {T : List Int} {s x y : Int} (h : y ∈ put T s x) : y = x ∨ y ∈ T := by
  rcases List.mem_or_eq_of_mem_set h with h | h
  · exact .inr h
  · exact .inl h
def seek (T : List Int) (k : Int) : List Int → Int → Option Int × Int
  | [], l => (none, l)
  | s :: r, l => if ga T s = -1 then (none, l + 1) else if ga T s = k then (some s, l + 1) else seek T k r (l + 1)
def used (T : List Int) : Nat := T.countP (· ≠ -1)
def keysS (T : List Int) : List Int := T.filter (0 ≤ ·)
def once : List Int → List Int → List Int
  | acc, [] => acc
  | acc, x :: r => if x ∈ acc then once acc r else once (acc ++ [x]) r
theorem once_nil (acc : List Int) : once acc [] = acc := rfl
theorem once_cons (acc : List Int) (x : Int) (r : List Int) : once acc (x :: r) = if x ∈ acc then once acc r else once (acc ++ [x]) r := rfl
def isFree (c : String) (x : Int) : Bool := x == -1 || (c == "late" && x == -2)
def frees (h st c : String) (T : List Int) (k : Int) : List Int := (pathOf h st k T.length).filter fun s => isFree c (ga T s)
def dist (h st : String) (k s n : Int) : Int := if st = "up" then (s - homeOf h k n) % n else (homeOf h k n - s) % n
def nxt (st : String) (s n : Int) : Int := if st = "up" then (s + 1) % n else (s - 1) % n
def shove (h st c : String) (n : Int) : Nat → List Int → Int → Int → List Int
  | 0, T, _, _ => T
  | f + 1, T, s, m => if 0 ≤ ga T s then
      (if c = "first" ∨ dist h st (ga T s) s n < dist h st m s n then shove h st c n f (put T s m) (nxt st s n) (ga T s) else shove h st c n f T (nxt st s n) m)
    else put T s m
def placeS (h st c : String) (T : List Int) (k : Int) : List Int :=
  if c = "late" ∨ c = "empty" then put T ((frees h st c T k).headD 0) k else shove h st c T.length T.length T (homeOf h k T.length) k
def anewS (h st c : String) (T : List Int) (n : Nat) : List Int := (once [] (keysS T)).foldl (placeS h st c) (List.replicate n (-1))
def growOf (gr : String) (n : Int) : Int := if gr = "half" then n / 2 else if gr = "three" then n * 3 / 4 else n - 1
def grownS (h st c gr : String) (T : List Int) : List Int :=
  if (used T : Int) + 1 ≤ growOf gr T.length then T else if ((once [] (keysS T)).length : Int) + 1 ≤ growOf gr T.length then anewS h st c T T.length else anewS h st c T (2 * T.length)
def pull (h st : String) (n : Int) : Nat → List Int → Int → Int → List Int
  | 0, T, _, _ => T
  | f + 1, T, s, a => if ga T (nxt st a n) = -1 then T else
      if dist h st (ga T (nxt st a n)) s n ≤ dist h st (ga T (nxt st a n)) (nxt st a n) n then pull h st n f (put (put T s (ga T (nxt st a n))) (nxt st a n) (-1)) (nxt st a n) (nxt st a n)
      else pull h st n f T s (nxt st a n)
def removedS (h st c g : String) (T : List Int) (s : Int) : List Int :=
  if g = "mark" then put T s (-2) else if g = "pull" then pull h st T.length T.length (put T s (-1)) s s else if g = "hole" then put T s (-1) else anewS h st c (put T s (-1)) T.length
/-! ### rows -/
def rat (R : List (List Int)) (s : Int) : List Int := R.getD s.toNat []
def rput (R : List (List Int)) (s : Int) (r : List Int) : List (List Int) := R.set s.toNat r
def placeR (h c : String) (R : List (List Int)) (k : Int) : List (List Int) :=
  rput R (homeOf h k R.length) (if c = "front" then k :: rat R (homeOf h k R.length) else rat R (homeOf h k R.length) ++ [k])
def anewR (h c : String) (R : List (List Int)) (n : Nat) : List (List Int) := (once [] R.flatten).foldl (placeR h c) (List.replicate n [])
def manyOf (o : String) (n : Int) : Int := if o = "one" then n else 2 * n
def grownR (h c o : String) (R : List (List Int)) : List (List Int) := if (R.flatten.length : Int) + 1 ≤ manyOf o R.length then R else anewR h c R (2 * R.length)
/-! ### both -/
inductive Way where
  | r (h c o : String)
  | s (h st c g gr : String)
inductive Tab where
  | r (R : List (List Int))
  | s (T : List Int)
def RowsOk (h c o : String) : Prop := (h = "low" ∨ h = "fold") ∧ (c = "front" ∨ c = "end") ∧ (o = "one" ∨ o = "two")
def SlotsOk (h st c g gr : String) : Prop := (h = "low" ∨ h = "fold") ∧ (st = "up" ∨ st = "down" ∨ st = "wide" ∨ st = "own") ∧ (c = "late" ∨ c = "empty" ∨ c = "near" ∨ c = "first") ∧ (g = "mark" ∨ g = "hole" ∨ g = "again" ∨ g = "pull") ∧ (gr = "half" ∨ gr = "three" ∨ gr = "full") ∧
  ((st = "up" ∨ st = "down") ∨ ((c = "late" ∨ c = "empty") ∧ g ≠ "pull"))
def Way.Ok : Way → Prop
  | .r h c o => RowsOk h c o
  | .s h st c g gr => SlotsOk h st c g gr
def begun : Way → Tab
  | .r _ _ _ => .r (List.replicate 4 [])
  | .s _ _ _ _ _ => .s (List.replicate 4 (-1))
def order : Tab → List Int
  | .r R => R.flatten
  | .s T => keysS T
def size : Tab → Nat
  | .r R => R.length
  | .s T => T.length
def found : Way → Tab → Int → Option Int × Int
  | .r h _ _, .r R, k => if k ∈ rat R (homeOf h k R.length) then (some (homeOf h k R.length), ((rat R (homeOf h k R.length)).idxOf k : Int) + 1) else (none, (rat R (homeOf h k R.length)).length)
  | .s h st _ _ _, .s T, k => seek T k (pathOf h st k T.length) 0
  | _, _, _ => (none, 0)
def grown : Way → Tab → Tab
  | .r h c o, .r R => .r (grownR h c o R)
  | .s h st c _ gr, .s T => .s (grownS h st c gr T)
  | _, t => t
def placed : Way → Tab → Int → Tab
  | .r h c _, .r R, k => .r (placeR h c R k)
  | .s h st c _ _, .s T, k => .s (placeS h st c T k)
  | _, t, _ => t
def removed : Way → Tab → Int → Int → Tab
  | .r _ _ _, .r R, s, k => .r (rput R s ((rat R s).filter (· ≠ k)))
  | .s h st c g _, .s T, s, _ => .s (removedS h st c g T s)
  | _, t, _, _ => t
inductive Deed3 where
  | ask | put | take
deriving DecidableEq
def done (w : Way) (t : Tab) (kd : Deed3) (k : Int) : Tab := match kd, (found w t k).1 with
  | .put, none => placed w (grown w t) k
  | .take, some s => removed w t s k
  | _, _ => t
end TM

namespace TM
/-! ### counts -/
theorem used_put {T : List Int} {s x : Int} (h0 : 0 ≤ s) (h : s < T.length) : used (put T s x) + (if ga T s = -1 then 0 else 1) = used T + (if x = -1 then 0 else 1) := by
  unfold used put ga
  have hl : s.toNat < T.length := by omega
  rw [List.countP_set hl, List.getD_eq_getElem?_getD, List.getElem?_eq_getElem hl]
  simp only [Option.getD_some]
  by_cases e : T[s.toNat] = -1
  · by_cases e2 : x = -1 <;> simp [e, e2]
  · have hc : 0 < T.countP (fun x => decide (x ≠ -1)) := List.countP_pos_iff.mpr ⟨_, List.getElem_mem hl, by simpa using e⟩
    generalize T.countP (fun x => decide (x ≠ -1)) = m at hc
    by_cases e2 : x = -1
    · simp only [e, e2, ne_eq, not_true_eq_false, not_false_eq_true, decide_true, decide_false, if_true, if_false, Bool.false_eq_true]
      omega
    · simp only [e, e2, ne_eq, not_true_eq_false, not_false_eq_true, decide_true, decide_false, if_true, if_false, Bool.false_eq_true]
      omega
theorem exists_empty {T : List Int} (h : used T < T.length) : ∃ s : Int, 0 ≤ s ∧ s < T.length ∧ ga T s = -1 := by
  by_cases hx : ∀ x ∈ T, x ≠ -1
  · have : used T = T.length := by
      unfold used
      exact List.countP_eq_length.mpr fun x hx' => by simpa using hx x hx'
    omega
  · obtain ⟨x, hm, e⟩ : ∃ x, x ∈ T ∧ x = -1 := by
      simpa using hx
    subst e
    obtain ⟨i, hi, e⟩ := List.getElem_of_mem hm
    refine ⟨i, by omega, by omega, ?_⟩
    unfold ga
    rw [List.getD_eq_getElem?_getD]
    simp [List.getElem?_eq_getElem hi, e]
theorem used_le (T : List Int) : used T ≤ T.length := List.countP_le_length
theorem used_replicate (n : Nat) : used (List.replicate n (-1)) = 0 := by
  unfold used
  rw [List.countP_eq_zero]
  intro a ha
  have := List.eq_of_mem_replicate ha
  simp [this]
theorem keys_le (T : List Int) : (keysS T).length ≤ used T := by
  unfold keysS used
  rw [← List.countP_eq_length_filter]
  exact List.countP_mono_left fun x _ h => by
    simp at h ⊢
    omega
theorem once_spec : ∀ (l acc : List Int), acc.Nodup → (once acc l).Nodup ∧ (∀ x, x ∈ once acc l ↔ x ∈ acc ∨ x ∈ l) ∧ (once acc l).length ≤ acc.length + l.length
  | [], acc, h => ⟨h, fun x => by simp [once], by simp [once]⟩
  | y :: r, acc, h => by
    unfold once
    split
    · rename_i hm
      obtain ⟨h1, h2, h3⟩ := once_spec r acc h
      refine ⟨h1, fun x => ?_, by simp only [List.length_cons]; omega⟩
      rw [h2, List.mem_cons]
      constructor
      · rintro (z | z)
        · exact .inl z
        · exact .inr (.inr z)
      · rintro (z | z | z)
        · exact .inl z
        · exact .inl (z ▸ hm)
        · exact .inr z
    · rename_i hm
      have hn : (acc ++ [y]).Nodup := by
        rw [List.nodup_append]
        refine ⟨h, by simp, fun a ha b hb e => ?_⟩
        simp at hb
        exact hm (by rw [← hb, ← e]; exact ha)
      obtain ⟨h1, h2, h3⟩ := once_spec r (acc ++ [y]) hn
      refine ⟨h1, fun x => ?_, by simp only [List.length_append, List.length_cons, List.length_nil] at h3 ⊢; omega⟩
      rw [h2, List.mem_append, List.mem_cons]
      simp [or_assoc]
theorem once_nodup (l : List Int) : (once [] l).Nodup := (once_spec l [] (by simp)).1
theorem once_mem (l : List Int) (x : Int) : x ∈ once [] l ↔ x ∈ l := by simpa using (once_spec l [] (by simp)).2.1 x
theorem once_len (l : List Int) : (once [] l).length ≤ l.length := by simpa using (once_spec l [] (by simp)).2.2
/-! ### steps along a line -/
def iter (st : String) (n : Int) : Nat → Int → Int
  | 0, s => s
  | j + 1, s => iter st n j (nxt st s n)
theorem nxt_rng {st : String} {s n : Int} (hn : 0 < n) : 0 ≤ nxt st s n ∧ nxt st s n < n := by
  unfold nxt
  split
  · exact ⟨Int.emod_nonneg _ (by omega), Int.emod_lt_of_pos _ hn⟩
  · exact ⟨Int.emod_nonneg _ (by omega), Int.emod_lt_of_pos _ hn⟩
theorem iter_eq {st : String} {n : Int} (hn : 0 < n) : ∀ (j : Nat) (s : Int), 0 ≤ s → s < n → iter st n j s = if st = "up" then (s + j) % n else (s - j) % n
  | 0, s, h0, h1 => by
    unfold iter
    split
    · simp [Int.emod_eq_of_lt h0 h1]
    · simp [Int.emod_eq_of_lt h0 h1]
  | j + 1, s, h0, h1 => by
    obtain ⟨a, b⟩ := nxt_rng (st := st) (s := s) hn
    unfold iter
    rw [iter_eq hn j _ a b]
    unfold nxt
    by_cases e : st = "up"
    · simp only [e, if_true]
      rw [Int.emod_add_emod]
      congr 1
      omega
    · simp only [e, if_false]
      rw [Int.emod_sub_emod]
      congr 1
      omega
/-- each slot is met -/
theorem iter_meets {st : String} {n s e : Int} (hn : 0 < n) (h0 : 0 ≤ s) (h1 : s < n) (e0 : 0 ≤ e) (e1 : e < n) : ∃ j : Nat, (j : Int) < n ∧ iter st n j s = e := by
  by_cases hu : st = "up"
  · refine ⟨((e - s) % n).toNat, ?_, ?_⟩
    · have := Int.emod_lt_of_pos (e - s) hn
      have := Int.emod_nonneg (e - s) (by omega : n ≠ 0)
      omega
    · have h2 := Int.emod_nonneg (e - s) (by omega : n ≠ 0)
      rw [iter_eq hn _ s h0 h1, if_pos hu, Int.toNat_of_nonneg h2, Int.add_emod_emod]
      have : s + (e - s) = e := by omega
      rw [this, Int.emod_eq_of_lt e0 e1]
  · refine ⟨((s - e) % n).toNat, ?_, ?_⟩
    · have := Int.emod_lt_of_pos (s - e) hn
      have := Int.emod_nonneg (s - e) (by omega : n ≠ 0)
      omega
    · have h2 := Int.emod_nonneg (s - e) (by omega : n ≠ 0)
      rw [iter_eq hn _ s h0 h1, if_neg hu, Int.toNat_of_nonneg h2, Int.sub_emod_emod]
      have : s - (s - e) = e := by omega
      rw [this, Int.emod_eq_of_lt e0 e1]
/-! ### placing -/
structure Put (T T' : List Int) (k : Int) : Prop where
  len : T'.length = T.length
  mem : ∀ x ∈ T', x = k ∨ x ∈ T
  used : used T' ≤ used T + 1
theorem put_one {T : List Int} {s k : Int} (h0 : 0 ≤ s) (h : s < T.length) : Put T (put T s k) k := by
  refine ⟨put_len _ _ _, fun x hx => mem_put hx, ?_⟩
  have := used_put (x := k) h0 h
  split at this <;> split at this <;> omega
theorem frees_mem {h st c : String} {T : List Int} {k s : Int} (hn : SizeOk T.length) : s ∈ frees h st c T k ↔ (0 ≤ s ∧ s < T.length) ∧ isFree c (ga T s) = true := by
  unfold frees
  rw [List.mem_filter, path_mem hn]
theorem frees_ne {h st c : String} {T : List Int} {k : Int} (hn : SizeOk T.length) (hu : used T < T.length) : ∃ s r, frees h st c T k = s :: r ∧ (0 ≤ s ∧ s < T.length) ∧ isFree c (ga T s) = true := by
  obtain ⟨s, h0, h1, e⟩ := exists_empty hu
  have hm : s ∈ frees h st c T k := (frees_mem hn).mpr ⟨⟨h0, h1⟩, by simp [isFree, e]⟩
  cases q : frees h st c T k with
  | nil =>
    rw [q] at hm
    cases hm
  | cons a r =>
    have := (frees_mem hn).mp (show a ∈ frees h st c T k by rw [q]; exact List.mem_cons_self)
    exact ⟨a, r, rfl, this⟩
theorem shove_put {h st c : String} {n : Int} (hn : 0 < n) : ∀ (f : Nat) (T : List Int) (s m : Int), (T.length : Int) = n → 0 ≤ s → s < n → (∃ j : Nat, j < f ∧ ga T (iter st n j s) < 0) →
    (shove h st c n f T s m).length = T.length ∧ (∀ x ∈ shove h st c n f T s m, x = m ∨ x ∈ T) ∧ used (shove h st c n f T s m) ≤ used T + 1
  | 0, T, s, m, _, _, _, ⟨j, hj, _⟩ => by omega
  | f + 1, T, s, m, hl, h0, h1, ⟨j, hj, ej⟩ => by
    have h1' : s < T.length := by omega
    obtain ⟨a, b⟩ := nxt_rng (st := st) (s := s) hn
    unfold shove
    split
    · rename_i hg
      have hj0 : j ≠ 0 := fun z => by
        subst z
        unfold iter at ej
        omega
      obtain ⟨i, rfl⟩ : ∃ i, j = i + 1 := ⟨j - 1, by omega⟩
      have ej' : ga T (iter st n i (nxt st s n)) < 0 := ej
      split
      · have hne : s ≠ iter st n i (nxt st s n) := fun z => by
          rw [← z] at ej'
          omega
        have r0 : 0 ≤ iter st n i (nxt st s n) := by
          rw [iter_eq hn _ _ a b]
          split <;> exact Int.emod_nonneg _ (by omega)
        obtain ⟨p1, p2, p3⟩ := shove_put hn f (put T s m) (nxt st s n) (ga T s) (by rw [put_len]; exact hl) a b ⟨i, by omega, by rw [ga_put h0 r0 h1', if_neg hne]; exact ej'⟩
        refine ⟨by rw [p1, put_len], fun x hx => ?_, ?_⟩
        · rcases p2 x hx with z | z
          · exact .inr (z ▸ ga_mem h0 h1')
          · exact mem_put z
        · have u := used_put (x := m) h0 h1'
          have g1 : ga T s ≠ -1 := by omega
          rw [if_neg g1] at u
          split at u <;> omega
      · exact shove_put hn f T (nxt st s n) m hl a b ⟨i, by omega, ej'⟩
    · have := put_one (k := m) h0 h1'
      exact ⟨this.len, this.mem, this.used⟩
theorem place_put {h st c : String} {T : List Int} {k : Int} (hn : SizeOk T.length) (hu : used T < T.length) : Put T (placeS h st c T k) k := by
  obtain ⟨n0, n1⟩ := small hn
  unfold placeS
  split
  · obtain ⟨s, r, e, ⟨h0, h1⟩, _⟩ := frees_ne (h := h) (st := st) (c := c) (k := k) hn hu
    rw [e]
    exact put_one h0 h1
  · obtain ⟨e, e0, e1, ee⟩ := exists_empty hu
    obtain ⟨h0, h1⟩ := home_rng (h := h) (k := k) hn
    obtain ⟨j, hj, ej⟩ := iter_meets (st := st) n0 h0 h1 e0 e1
    obtain ⟨p1, p2, p3⟩ := shove_put (h := h) (c := c) n0 T.length T (homeOf h k T.length) k rfl h0 h1 ⟨j, by omega, by rw [ej, ee]; decide⟩
    exact ⟨p1, p2, p3⟩
theorem fold_put {h st c : String} : ∀ (L T : List Int), SizeOk T.length → used T + L.length ≤ T.length → (L.foldl (placeS h st c) T).length = T.length ∧ (∀ x ∈ L.foldl (placeS h st c) T, x ∈ L ∨ x ∈ T) ∧ used (L.foldl (placeS h st c) T) ≤ used T + L.length
  | [], T, _, _ => ⟨rfl, fun x hx => .inr hx, Nat.le_refl _⟩
  | k :: L, T, hn, hu => by
    simp only [List.length_cons] at hu
    have p := place_put (h := h) (st := st) (c := c) (k := k) hn (by omega)
    obtain ⟨q1, q2, q3⟩ := fold_put (h := h) (st := st) (c := c) L (placeS h st c T k) (by rw [p.len]; exact hn) (by have := p.used; have := p.len; omega)
    refine ⟨by rw [List.foldl_cons, q1, p.len], fun x hx => ?_, ?_⟩
    · rw [List.foldl_cons] at hx
      rcases q2 x hx with z | z
      · exact .inl (List.mem_cons_of_mem _ z)
      · rcases p.mem x z with z | z
        · exact .inl (z ▸ List.mem_cons_self)
        · exact .inr z
    · rw [List.foldl_cons]
      have := p.used
      simp only [List.length_cons]
      omega
theorem anew_put {h st c : String} {T : List Int} {n : Nat} (hn : SizeOk n) (hu : (once [] (keysS T)).length ≤ n) : (anewS h st c T n).length = n ∧ (∀ x ∈ anewS h st c T n, x = -1 ∨ (0 ≤ x ∧ x ∈ T)) ∧ used (anewS h st c T n) ≤ (once [] (keysS T)).length := by
  unfold anewS
  obtain ⟨q1, q2, q3⟩ := fold_put (h := h) (st := st) (c := c) (once [] (keysS T)) (List.replicate n (-1)) (by simpa using hn) (by rw [used_replicate]; simpa using hu)
  rw [used_replicate] at q3
  refine ⟨by simpa using q1, fun x hx => ?_, by omega⟩
  rcases q2 x hx with z | z
  · have := (once_mem _ _).mp z
    unfold keysS at this
    rw [List.mem_filter] at this
    exact .inr ⟨by simpa using this.2, this.1⟩
  · exact .inl (List.eq_of_mem_replicate z)
/-! ### tables that come about -/
structure OkS (gr : String) (ks : List Int) (T : List Int) : Prop where
  size : SizeOk T.length
  rng : ∀ x ∈ T, x = -2 ∨ x = -1 ∨ (KeyOk x ∧ x ∈ ks)
  used : (used T : Int) ≤ growOf gr T.length
def GrowOk (gr : String) : Prop := gr = "half" ∨ gr = "three" ∨ gr = "full"
theorem grow_lt {gr : String} {n : Int} (hg : GrowOk gr) (hn : SizeOk n) : 2 ≤ growOf gr n ∧ growOf gr n < n ∧ growOf gr n + 1 ≤ growOf gr (2 * n) := by
  unfold growOf
  rcases hg with rfl | rfl | rfl <;> rcases hn with rfl | rfl | rfl | rfl | rfl <;> decide
theorem OkS.once {gr : String} {ks T : List Int} (o : OkS gr ks T) : (once [] (keysS T)).length ≤ ks.length := by
  refine nodup_le (once_nodup _) fun x hx => ?_
  have := (once_mem _ _).mp hx
  unfold keysS at this
  rw [List.mem_filter] at this
  have h0 : 0 ≤ x := by simpa using this.2
  rcases o.rng x this.1 with z | z | z
  · omega
  · omega
  · exact z.2
theorem OkS.begun {gr : String} {ks : List Int} (hg : GrowOk gr) : OkS gr ks (List.replicate 4 (-1)) := by
  refine ⟨.inl rfl, fun x hx => .inr (.inl (List.eq_of_mem_replicate hx)), ?_⟩
  rw [used_replicate]
  have := (grow_lt (n := 4) hg (.inl rfl)).1
  simp
  omega
theorem OkS.anew {h st c gr : String} {ks T : List Int} {n : Nat} (o : OkS gr ks T) (hn : SizeOk n) (hu : ((TM.once [] (keysS T)).length : Int) ≤ growOf gr n) (hg : GrowOk gr) : OkS gr ks (anewS h st c T n) ∧ (anewS h st c T n).length = n ∧ TM.used (anewS h st c T n) ≤ (TM.once [] (keysS T)).length := by
  have hl := (grow_lt hg hn).2.1
  obtain ⟨q1, q2, q3⟩ := anew_put (h := h) (st := st) (c := c) (T := T) hn (by omega)
  refine ⟨⟨by rw [q1]; exact hn, fun x hx => ?_, by rw [q1]; omega⟩, q1, q3⟩
  rcases q2 x hx with z | ⟨z1, z2⟩
  · exact .inr (.inl z)
  · rcases o.rng x z2 with z | z | z
    · omega
    · omega
    · exact .inr (.inr z)
theorem OkS.grown {h st c gr : String} {ks T : List Int} (o : OkS gr ks T) (hg : GrowOk gr) (hk : ks.length ≤ 30) : OkS gr ks (grownS h st c gr T) ∧ (TM.used (grownS h st c gr T) : Int) + 1 ≤ growOf gr (grownS h st c gr T).length := by
  have ho := o.once
  have hl := grow_lt hg o.size
  have hm : (TM.once [] (keysS T)).length ≤ TM.used T := Nat.le_trans (once_len _) (keys_le T)
  have hu := o.used
  unfold grownS
  split
  · rename_i e
    exact ⟨o, e⟩
  · split
    · rename_i e
      obtain ⟨q1, q2, q3⟩ := o.anew (h := h) (st := st) (c := c) o.size (by omega) hg
      exact ⟨q1, by rw [q2]; omega⟩
    · rename_i e1 e2
      have hs : SizeOk ((2 * T.length : Nat) : Int) := by
        have h64 : growOf gr 64 ≥ 32 := by unfold growOf; rcases hg with rfl | rfl | rfl <;> decide
        rcases o.size with z | z | z | z | z
        · exact .inr (.inl (by omega))
        · exact .inr (.inr (.inl (by omega)))
        · exact .inr (.inr (.inr (.inl (by omega))))
        · exact .inr (.inr (.inr (.inr (by omega))))
        · rw [z] at e2
          omega
      have e3 : ((2 * T.length : Nat) : Int) = 2 * (T.length : Int) := by omega
      obtain ⟨q1, q2, q3⟩ := o.anew (h := h) (st := st) (c := c) (n := 2 * T.length) hs (by rw [e3]; omega) hg
      exact ⟨q1, by rw [q2, e3]; omega⟩
theorem OkS.placed {h st c gr : String} {ks T : List Int} {k : Int} (o : OkS gr ks T) (hg : GrowOk gr) (hu : (TM.used T : Int) + 1 ≤ growOf gr T.length) (hk : KeyOk k) (hm : k ∈ ks) : OkS gr ks (placeS h st c T k) := by
  have hl := grow_lt hg o.size
  have p := place_put (h := h) (st := st) (c := c) (k := k) o.size (by omega)
  refine ⟨by rw [p.len]; exact o.size, fun x hx => ?_, by rw [p.len]; have := p.used; omega⟩
  rcases p.mem x hx with z | z
  · exact .inr (.inr ⟨z ▸ hk, z ▸ hm⟩)
  · exact o.rng x z
/-! ### looking -/
theorem seek_spec (T : List Int) (k : Int) : ∀ (p : List Int) (l : Int), (∀ s, (seek T k p l).1 = some s → s ∈ p ∧ ga T s = k ∧ ga T s ≠ -1) ∧ l ≤ (seek T k p l).2 ∧ (seek T k p l).2 ≤ l + p.length
  | [], l => ⟨fun s h => by simp [seek] at h, by simp [seek], by simp [seek]⟩
  | a :: r, l => by
    unfold seek
    simp only [List.length_cons]
    split
    · exact ⟨fun s h => by simp at h, by simp; omega, by simp; omega⟩
    · split
      · rename_i h1 h2
        refine ⟨fun s h => ?_, by simp; omega, by simp; omega⟩
        simp at h
        subst h
        exact ⟨List.mem_cons_self, h2, h1⟩
      · obtain ⟨q1, q2, q3⟩ := seek_spec T k r (l + 1)
        refine ⟨fun s h => ?_, by omega, by push_cast; omega⟩
        obtain ⟨z1, z2, z3⟩ := q1 s h
        exact ⟨List.mem_cons_of_mem _ z1, z2, z3⟩
/-! ### taking -/
theorem pull_spec {h st : String} {n : Int} (hn : 0 < n) : ∀ (f : Nat) (T : List Int) (s a : Int), (T.length : Int) = n → 0 ≤ s → s < n → 0 ≤ a → a < n → ga T s = -1 → (∃ j : Nat, j < f ∧ ga T (iter st n (j + 1) a) = -1 ∧ iter st n (j + 1) a ≠ s) →
    (pull h st n f T s a).length = T.length ∧ (∀ x ∈ pull h st n f T s a, x ∈ T) ∧ used (pull h st n f T s a) = used T
  | 0, T, s, a, _, _, _, _, _, _, ⟨j, hj, _⟩ => by omega
  | f + 1, T, s, a, hl, s0, s1, a0, a1, es, ⟨j, hj, ej, nj⟩ => by
    obtain ⟨b0, b1⟩ := nxt_rng (st := st) (s := a) hn
    unfold pull
    split
    · exact ⟨rfl, fun x hx => hx, rfl⟩
    · rename_i hg
      have hj0 : j ≠ 0 := fun z => by
        subst z
        exact hg ej
      obtain ⟨i, rfl⟩ : ∃ i, j = i + 1 := ⟨j - 1, by omega⟩
      have ej' : ga T (iter st n (i + 1) (nxt st a n)) = -1 := ej
      have nj' : iter st n (i + 1) (nxt st a n) ≠ s := nj
      split
      · have r0 : 0 ≤ iter st n (i + 1) (nxt st a n) := by
          rw [iter_eq hn _ _ b0 b1]
          split <;> exact Int.emod_nonneg _ (by omega)
        have l1 : s < T.length := by omega
        have l2 : nxt st a n < (put T s (ga T (nxt st a n))).length := by rw [put_len]; omega
        have na : nxt st a n ≠ s := fun z => hg (by rw [z]; exact es)
        have ne : nxt st a n ≠ iter st n (i + 1) (nxt st a n) := fun z => hg (by rw [z]; exact ej')
        have g1 : ga (put T s (ga T (nxt st a n))) (nxt st a n) = ga T (nxt st a n) := by
          rw [ga_put s0 b0 l1, if_neg (fun z => na z.symm)]
        obtain ⟨p1, p2, p3⟩ := pull_spec (h := h) hn f (put (put T s (ga T (nxt st a n))) (nxt st a n) (-1)) (nxt st a n) (nxt st a n) (by rw [put_len, put_len]; exact hl) b0 b1 b0 b1
          (by rw [ga_put b0 b0 l2, if_pos rfl]) ⟨i, by omega, by rw [ga_put b0 r0 l2, if_neg ne, ga_put s0 r0 l1, if_neg (fun z => nj' z.symm)]; exact ej', fun z => ne z.symm⟩
        refine ⟨by rw [p1, put_len, put_len], fun x hx => ?_, ?_⟩
        · rcases mem_put (p2 x hx) with z | z
          · rw [z, ← es]
            exact ga_mem s0 l1
          · rcases mem_put z with z | z
            · rw [z]
              exact ga_mem b0 (by omega)
            · exact z
        · have u1 := used_put (x := ga T (nxt st a n)) s0 l1
          have u2 := used_put (T := put T s (ga T (nxt st a n))) (x := -1) b0 l2
          rw [g1, if_neg hg] at u2
          rw [if_pos es, if_neg hg] at u1
          simp at u2
          omega
      · exact pull_spec hn f T s (nxt st a n) hl s0 s1 b0 b1 es ⟨i, by omega, ej', nj'⟩
theorem OkS.removed {h st c g gr : String} {ks T : List Int} {s : Int} (o : OkS gr ks T) (hg : GrowOk gr) (h0 : 0 ≤ s) (h1 : s < T.length) (hs : ga T s ≠ -1) : OkS gr ks (removedS h st c g T s) := by
  have hl := grow_lt hg o.size
  obtain ⟨n0, n1⟩ := small o.size
  have hu := o.used
  have one : ∀ x : Int, (x = -1 ∨ x = -2) → OkS gr ks (put T s x) := fun x hx => by
    refine ⟨by rw [put_len]; exact o.size, fun y hy => ?_, ?_⟩
    · rcases mem_put hy with z | z
      · rcases hx with e | e
        · exact .inr (.inl (z.trans e))
        · exact .inl (z.trans e)
      · exact o.rng y z
    · have u := used_put (x := x) h0 h1
      rw [if_neg hs] at u
      rw [put_len]
      split at u <;> omega
  have u1 := used_put (x := -1) h0 h1
  rw [if_neg hs] at u1
  simp at u1
  unfold removedS
  split
  · exact one _ (.inr rfl)
  · split
    · have hlt : TM.used T < T.length := by omega
      obtain ⟨e, e0, e1, ee⟩ := exists_empty hlt
      have ne : e ≠ s := fun z => hs (by rw [← z]; exact ee)
      obtain ⟨j, hj, ej⟩ := iter_meets (st := st) n0 h0 h1 e0 e1
      have j0 : j ≠ 0 := fun z => by
        subst z
        exact ne ej.symm
      obtain ⟨i, rfl⟩ : ∃ i, j = i + 1 := ⟨j - 1, by omega⟩
      obtain ⟨p1, p2, p3⟩ := pull_spec (h := h) (st := st) n0 T.length (put T s (-1)) s s (by rw [put_len]) h0 h1 h0 h1 (by rw [ga_put h0 h0 h1, if_pos rfl]) ⟨i, by omega, by rw [ej, ga_put h0 e0 h1, if_neg (fun z => ne z.symm)]; exact ee, by rw [ej]; exact ne⟩
      have o1 := one (-1) (.inl rfl)
      exact ⟨by rw [p1]; exact o1.size, fun x hx => o1.rng x (p2 x hx), by rw [p1, p3]; exact o1.used⟩
    · split
      · exact one _ (.inl rfl)
      · have o1 := one (-1) (.inl rfl)
        have hm : (TM.once [] (keysS (put T s (-1)))).length ≤ TM.used (put T s (-1)) := Nat.le_trans (once_len _) (keys_le _)
        have := o1.used
        rw [put_len] at this
        exact (o1.anew (h := h) (st := st) (c := c) o.size (by omega) hg).1
end TM

namespace TM
/-! ### rows -/
theorem rput_len (R : List (List Int)) (s : Int) (r : List Int) : (rput R s r).length = R.length := by simp [rput]
theorem rat_rput {R : List (List Int)} {s u : Int} {r : List Int} (hs : 0 ≤ s) (hu : 0 ≤ u) (h : s < R.length) : rat (rput R s r) u = if s = u then r else rat R u := by
  unfold rat rput
  rw [List.getD_eq_getElem?_getD, List.getElem?_set]
  by_cases e : s = u
  · subst e
    have : s.toNat < R.length := by omega
    simp [this]
  · have : s.toNat ≠ u.toNat := by omega
    simp [this, e]
theorem rat_mem {R : List (List Int)} {s : Int} (h0 : 0 ≤ s) (h : s < R.length) : rat R s ∈ R := by
  unfold rat
  rw [List.getD_eq_getElem?_getD, List.getElem?_eq_getElem (by omega)]
  exact List.getElem_mem _
theorem mem_rat {R : List (List Int)} {r : List Int} (h : r ∈ R) : ∃ s : Int, 0 ≤ s ∧ s < R.length ∧ rat R s = r := by
  obtain ⟨i, hi, e⟩ := List.getElem_of_mem h
  refine ⟨i, by omega, by omega, ?_⟩
  unfold rat
  rw [List.getD_eq_getElem?_getD]
  simp [List.getElem?_eq_getElem hi, e]
theorem mem_flat {R : List (List Int)} {k : Int} : k ∈ R.flatten ↔ ∃ s : Int, 0 ≤ s ∧ s < R.length ∧ k ∈ rat R s := by
  rw [List.mem_flatten]
  constructor
  · rintro ⟨r, hr, hk⟩
    obtain ⟨s, h0, h1, e⟩ := mem_rat hr
    exact ⟨s, h0, h1, e ▸ hk⟩
  · rintro ⟨s, h0, h1, hk⟩
    exact ⟨_, rat_mem h0 h1, hk⟩
theorem flat_set : ∀ (R : List (List Int)) (i : Nat) (r : List Int) (h : i < R.length), (R.set i r).flatten.length + R[i].length = R.flatten.length + r.length
  | [], i, r, h => by simp at h
  | a :: R, 0, r, h => by simp; omega
  | a :: R, i + 1, r, h => by
    have := flat_set R i r (by simpa using h)
    simp only [List.set_cons_succ, List.flatten_cons, List.length_append, List.getElem_cons_succ]
    omega
theorem flat_rput {R : List (List Int)} {s : Int} {r : List Int} (h0 : 0 ≤ s) (h : s < R.length) : (rput R s r).flatten.length + (rat R s).length = R.flatten.length + r.length := by
  have hl : s.toNat < R.length := by omega
  have := flat_set R s.toNat r hl
  unfold rput rat
  rw [List.getD_eq_getElem?_getD, List.getElem?_eq_getElem hl]
  exact this
/-- rows with their keys at home, each once -/
structure Homed (h : String) (R : List (List Int)) : Prop where
  size : SizeOk R.length
  home : ∀ s : Int, 0 ≤ s → s < R.length → ∀ k ∈ rat R s, homeOf h k R.length = s
  nodup : ∀ r ∈ R, r.Nodup
theorem Homed.flat {h : String} {R : List (List Int)} (o : Homed h R) : R.flatten.Nodup := by
  refine List.pairwise_flatten.mpr ⟨o.nodup, ?_⟩
  rw [List.pairwise_iff_getElem]
  intro i j hi hj hij x hx y hy e
  subst e
  have a1 : rat R (i : Int) = R[i] := by
    unfold rat
    simp [List.getD_eq_getElem?_getD, List.getElem?_eq_getElem hi]
  have a2 : rat R (j : Int) = R[j] := by
    unfold rat
    simp [List.getD_eq_getElem?_getD, List.getElem?_eq_getElem hj]
  have h1 := o.home i (by omega) (by omega) x (by rw [a1]; exact hx)
  have h2 := o.home j (by omega) (by omega) x (by rw [a2]; exact hy)
  omega
theorem Homed.place {h c : String} {R : List (List Int)} {k : Int} (o : Homed h R) (hk : k ∉ rat R (homeOf h k R.length)) : Homed h (placeR h c R k) ∧ (placeR h c R k).flatten.length = R.flatten.length + 1 ∧ (∀ x, x ∈ (placeR h c R k).flatten ↔ x = k ∨ x ∈ R.flatten) ∧ (placeR h c R k).length = R.length := by
  obtain ⟨h0, h1⟩ := home_rng (h := h) (k := k) o.size
  have mr : ∀ x, x ∈ (if c = "front" then k :: rat R (homeOf h k R.length) else rat R (homeOf h k R.length) ++ [k]) ↔ x = k ∨ x ∈ rat R (homeOf h k R.length) := fun x => by
    split
    · simp
    · simp [or_comm]
  have ln : (if c = "front" then k :: rat R (homeOf h k R.length) else rat R (homeOf h k R.length) ++ [k]).length = (rat R (homeOf h k R.length)).length + 1 := by
    split <;> simp
  have nd : (if c = "front" then k :: rat R (homeOf h k R.length) else rat R (homeOf h k R.length) ++ [k]).Nodup := by
    have n1 := o.nodup _ (rat_mem h0 h1)
    split
    · exact List.nodup_cons.mpr ⟨hk, n1⟩
    · rw [List.nodup_append]
      refine ⟨n1, by simp, fun a ha b hb e => ?_⟩
      simp at hb
      have : a = k := e.trans hb
      subst this
      exact hk ha
  unfold placeR
  generalize (if c = "front" then k :: rat R (homeOf h k R.length) else rat R (homeOf h k R.length) ++ [k]) = r at mr ln nd
  have hl : (rput R (homeOf h k R.length) r).length = R.length := rput_len _ _ _
  refine ⟨⟨by rw [hl]; exact o.size, fun s s0 s1 x hx => ?_, fun q hq => ?_⟩, ?_, fun x => ?_, hl⟩
  · rw [hl] at s1 ⊢
    rw [rat_rput h0 s0 h1] at hx
    split at hx
    · rename_i e
      rcases (mr x).mp hx with z | z
      · rw [z]; exact e
      · rw [o.home _ h0 h1 x z]; exact e
    · exact o.home s s0 s1 x hx
  · rcases List.mem_or_eq_of_mem_set hq with z | z
    · exact o.nodup q z
    · rw [z]; exact nd
  · have := flat_rput (r := r) h0 h1
    omega
  · rw [mem_flat, mem_flat, hl]
    constructor
    · rintro ⟨s, s0, s1, hx⟩
      rw [rat_rput h0 s0 h1] at hx
      split at hx
      · rcases (mr x).mp hx with z | z
        · exact .inl z
        · exact .inr ⟨_, h0, h1, z⟩
      · exact .inr ⟨s, s0, s1, hx⟩
    · rintro (z | ⟨s, s0, s1, hx⟩)
      · exact ⟨_, h0, h1, by rw [rat_rput h0 h0 h1, if_pos rfl]; exact (mr x).mpr (.inl z)⟩
      · refine ⟨s, s0, s1, ?_⟩
        rw [rat_rput h0 s0 h1]
        split
        · rename_i e
          exact (mr x).mpr (.inr (by rw [e]; exact hx))
        · exact hx
theorem rat_replicate (n : Nat) (s : Int) : rat (List.replicate n []) s = [] := by
  unfold rat
  rw [List.getD_eq_getElem?_getD, List.getElem?_replicate]
  split <;> rfl
theorem Homed.empty {h : String} {n : Nat} (hn : SizeOk n) : Homed h (List.replicate n []) := by
  refine ⟨by simpa using hn, fun s _ _ k hk => ?_, fun r hr => ?_⟩
  · rw [rat_replicate] at hk
    cases hk
  · rw [List.eq_of_mem_replicate hr]
    simp
theorem flat_replicate (n : Nat) : (List.replicate n ([] : List Int)).flatten = [] := by
  induction n with
  | zero => rfl
  | succ n ih => rw [List.replicate_succ, List.flatten_cons, ih]; rfl
theorem Homed.fold {h c : String} : ∀ (L : List Int) (R : List (List Int)), Homed h R → L.Nodup → (∀ x ∈ L, x ∉ R.flatten) → Homed h (L.foldl (placeR h c) R) ∧ (L.foldl (placeR h c) R).flatten.length = R.flatten.length + L.length ∧ (∀ x, x ∈ (L.foldl (placeR h c) R).flatten ↔ x ∈ L ∨ x ∈ R.flatten) ∧ (L.foldl (placeR h c) R).length = R.length
  | [], R, o, _, _ => ⟨o, rfl, fun x => by simp, rfl⟩
  | k :: L, R, o, hn, hd => by
    obtain ⟨hn1, hn2⟩ := List.nodup_cons.mp hn
    obtain ⟨h0, h1⟩ := home_rng (h := h) (k := k) o.size
    obtain ⟨p1, p2, p3, p4⟩ := o.place (c := c) (k := k) fun z => hd k List.mem_cons_self (mem_flat.mpr ⟨_, h0, h1, z⟩)
    obtain ⟨q1, q2, q3, q4⟩ := Homed.fold (c := c) L (placeR h c R k) p1 hn2 fun x hx z => by
      rcases (p3 x).mp z with z | z
      · exact hn1 (z ▸ hx)
      · exact hd x (List.mem_cons_of_mem _ hx) z
    refine ⟨q1, ?_, fun x => ?_, q4.trans p4⟩
    · rw [List.foldl_cons, q2, p2]
      simp only [List.length_cons]
      omega
    · rw [List.foldl_cons, q3, p3, List.mem_cons]
      constructor
      · rintro (z | z | z)
        · exact .inl (.inr z)
        · exact .inl (.inl z)
        · exact .inr z
      · rintro ((z | z) | z)
        · exact .inr (.inl z)
        · exact .inl z
        · exact .inr (.inr z)
theorem anewR_spec {h c : String} (R : List (List Int)) {n : Nat} (hn : SizeOk n) : Homed h (anewR h c R n) ∧ (anewR h c R n).flatten.length = (once [] R.flatten).length ∧ (∀ x, x ∈ (anewR h c R n).flatten ↔ x ∈ R.flatten) ∧ (anewR h c R n).length = n := by
  obtain ⟨q1, q2, q3, q4⟩ := Homed.fold (h := h) (c := c) (once [] R.flatten) (List.replicate n []) (.empty hn) (once_nodup _) fun x _ z => by rw [flat_replicate] at z; cases z
  unfold anewR
  refine ⟨q1, by rw [q2, flat_replicate]; simp, fun x => ?_, by rw [q4]; simp⟩
  rw [q3, flat_replicate, once_mem]
  simp
structure OkR (h o : String) (ks : List Int) (R : List (List Int)) : Prop where
  hm : Homed h R
  rng : ∀ k ∈ R.flatten, KeyOk k ∧ k ∈ ks
  many : (R.flatten.length : Int) ≤ manyOf o R.length
def OneOk (o : String) : Prop := o = "one" ∨ o = "two"
theorem many_lt {o : String} {n : Int} (ho : OneOk o) (hn : SizeOk n) : n ≤ manyOf o n ∧ manyOf o n ≤ 2 * n ∧ manyOf o n + 1 ≤ manyOf o (2 * n) := by
  unfold manyOf
  rcases ho with rfl | rfl <;> rcases hn with rfl | rfl | rfl | rfl | rfl <;> decide
theorem OkR.begun {h o : String} {ks : List Int} (ho : OneOk o) : OkR h o ks (List.replicate 4 []) := by
  refine ⟨.empty (.inl rfl), fun k hk => ?_, ?_⟩
  · rw [flat_replicate] at hk
    cases hk
  · rw [flat_replicate]
    have := (many_lt (n := 4) ho (.inl rfl)).1
    simp
    omega
theorem OkR.total {h o : String} {ks : List Int} {R : List (List Int)} (k : OkR h o ks R) : R.flatten.length ≤ ks.length := nodup_le k.hm.flat fun x hx => (k.rng x hx).2
theorem OkR.grown {h c o : String} {ks : List Int} {R : List (List Int)} (k : OkR h o ks R) (ho : OneOk o) (hk : ks.length ≤ 30) : OkR h o ks (grownR h c o R) ∧ ((grownR h c o R).flatten.length : Int) + 1 ≤ manyOf o (grownR h c o R).length ∧ (∀ x, x ∈ (grownR h c o R).flatten ↔ x ∈ R.flatten) := by
  have hl := many_lt ho k.hm.size
  have ht := k.total
  have hm := k.many
  unfold grownR
  split
  · rename_i e
    exact ⟨k, e, fun x => Iff.rfl⟩
  · rename_i e
    have hs : SizeOk ((2 * R.length : Nat) : Int) := by
      rcases k.hm.size with z | z | z | z | z
      · exact .inr (.inl (by omega))
      · exact .inr (.inr (.inl (by omega)))
      · exact .inr (.inr (.inr (.inl (by omega))))
      · exact .inr (.inr (.inr (.inr (by omega))))
      · rw [z] at hl e
        omega
    obtain ⟨q1, q2, q3, q4⟩ := anewR_spec (h := h) (c := c) R hs
    have ol := once_len R.flatten
    have e3 : ((2 * R.length : Nat) : Int) = 2 * (R.length : Int) := by omega
    refine ⟨⟨q1, fun x hx => k.rng x ((q3 x).mp hx), ?_⟩, ?_, q3⟩
    · rw [q4, q2, e3]
      omega
    · rw [q4, q2, e3]
      omega
theorem OkR.placed {h c o : String} {ks : List Int} {R : List (List Int)} {k : Int} (r : OkR h o ks R) (hn : k ∉ R.flatten) (hu : (R.flatten.length : Int) + 1 ≤ manyOf o R.length) (hk : KeyOk k) (hm : k ∈ ks) : OkR h o ks (placeR h c R k) := by
  obtain ⟨h0, h1⟩ := home_rng (h := h) (k := k) r.hm.size
  obtain ⟨p1, p2, p3, p4⟩ := r.hm.place (c := c) (k := k) fun z => hn (mem_flat.mpr ⟨_, h0, h1, z⟩)
  refine ⟨p1, fun x hx => ?_, by rw [p4, p2]; omega⟩
  rcases (p3 x).mp hx with z | z
  · exact ⟨z ▸ hk, z ▸ hm⟩
  · exact r.rng x z
theorem OkR.removed {h o : String} {ks : List Int} {R : List (List Int)} {s k : Int} (r : OkR h o ks R) (h0 : 0 ≤ s) (h1 : s < R.length) : OkR h o ks (rput R s ((rat R s).filter (· ≠ k))) := by
  have hl : (rput R s ((rat R s).filter (· ≠ k))).length = R.length := rput_len _ _ _
  have sub : ∀ x, x ∈ (rput R s ((rat R s).filter (· ≠ k))).flatten → x ∈ R.flatten := fun x hx => by
    obtain ⟨u, u0, u1, hx⟩ := mem_flat.mp hx
    rw [hl] at u1
    rw [rat_rput h0 u0 h1] at hx
    split at hx
    · exact mem_flat.mpr ⟨s, h0, h1, (List.mem_filter.mp hx).1⟩
    · exact mem_flat.mpr ⟨u, u0, u1, hx⟩
  refine ⟨⟨by rw [hl]; exact r.hm.size, fun u u0 u1 x hx => ?_, fun q hq => ?_⟩, fun x hx => r.rng x (sub x hx), ?_⟩
  · rw [hl] at u1 ⊢
    rw [rat_rput h0 u0 h1] at hx
    split at hx
    · rename_i e
      rw [← e]
      exact r.hm.home s h0 h1 x (List.mem_filter.mp hx).1
    · exact r.hm.home u u0 u1 x hx
  · rcases List.mem_or_eq_of_mem_set hq with z | z
    · exact r.hm.nodup q z
    · rw [z]
      exact (r.hm.nodup _ (rat_mem h0 h1)).filter _
  · rw [hl]
    have f := flat_rput (r := (rat R s).filter (· ≠ k)) h0 h1
    have g := List.length_filter_le (· ≠ k) (rat R s)
    have := r.many
    omega
/-! ### both -/
def Ok (w : Way) (ks : List Int) (t : Tab) : Prop := match w, t with
  | .r h _ o, .r R => OkR h o ks R
  | .s _ _ _ _ gr, .s T => OkS gr ks T
  | _, _ => False
theorem Ok.begun {w : Way} (hw : w.Ok) (ks : List Int) : Ok w ks (begun w) := by
  cases w with
  | r h c o => exact OkR.begun hw.2.2
  | s h st c g gr => exact OkS.begun hw.2.2.2.2.1
theorem Ok.done {w : Way} {ks : List Int} {t : Tab} {kd : Deed3} {k : Int} (hw : w.Ok) (o : Ok w ks t) (hk : KeyOk k) (hm : k ∈ ks) (hl : ks.length ≤ 30) : Ok w ks (done w t kd k) := by
  cases w with
  | r h c oo =>
    cases t with
    | s T => exact o.elim
    | r R =>
      have o' : OkR h oo ks R := o
      obtain ⟨h0, h1⟩ := home_rng (h := h) (k := k) o'.hm.size
      have nf : (found (.r h c oo) (.r R) k).1 = none → k ∉ R.flatten := fun e z => by
        obtain ⟨s, s0, s1, hs⟩ := mem_flat.mp z
        have := o'.hm.home s s0 s1 k hs
        simp only [found] at e
        rw [this, if_pos hs] at e
        cases e
      have fd : ∀ s, (found (.r h c oo) (.r R) k).1 = some s → s = homeOf h k R.length := fun s e => by
        simp only [found] at e
        split at e
        · cases e
          rfl
        · cases e
      unfold TM.done
      cases kd with
      | ask => exact o
      | put =>
        cases e : (found (.r h c oo) (.r R) k).1 with
        | none =>
          obtain ⟨g1, g2, g3⟩ := o'.grown (c := c) hw.2.2 hl
          exact g1.placed (fun z => nf e ((g3 k).mp z)) g2 hk hm
        | some s => exact o
      | take =>
        cases e : (found (.r h c oo) (.r R) k).1 with
        | none => exact o
        | some s =>
          rw [fd s e]
          exact o'.removed h0 h1
  | s h st c g gr =>
    cases t with
    | r R => exact o.elim
    | s T =>
      have o' : OkS gr ks T := o
      unfold TM.done
      cases kd with
      | ask => exact o
      | put =>
        cases e : (found (.s h st c g gr) (.s T) k).1 with
        | none =>
          obtain ⟨g1, g2⟩ := o'.grown (h := h) (st := st) (c := c) hw.2.2.2.2.1 hl
          exact g1.placed hw.2.2.2.2.1 g2 hk hm
        | some s => exact o
      | take =>
        cases e : (found (.s h st c g gr) (.s T) k).1 with
        | none => exact o
        | some s =>
          obtain ⟨z1, z2, z3⟩ := (seek_spec T k (pathOf h st k T.length) 0).1 s e
          obtain ⟨s0, s1⟩ := (path_mem o'.size).mp z1
          exact o'.removed hw.2.2.2.2.1 s0 s1 z3
end TM

namespace TM
/-! ### one turn of a walk that moves keys -/
structure ShI (st : String) (n : Int) (f : Nat) (T : List Int) (s : Int) : Prop where
  len : (T.length : Int) = n
  s0 : 0 ≤ s
  s1 : s < n
  ex : ∃ j : Nat, j < f ∧ ga T (iter st n j s) < 0
theorem iter_rng {st : String} {n : Int} (hn : 0 < n) (j : Nat) {s : Int} (h0 : 0 ≤ s) (h1 : s < n) : 0 ≤ iter st n j s ∧ iter st n j s < n := by
  rw [iter_eq hn _ _ h0 h1]
  split <;> exact ⟨Int.emod_nonneg _ (by omega), Int.emod_lt_of_pos _ hn⟩
theorem ShI.step {st : String} {n : Int} {f : Nat} {T : List Int} {s : Int} (hn : 0 < n) (i : ShI st n f T s) (hg : 0 ≤ ga T s) (m : Int) : ∃ f', f = f' + 1 ∧ ShI st n f' (put T s m) (nxt st s n) ∧ ShI st n f' T (nxt st s n) := by
  obtain ⟨len, s0, s1, j, hj, ej⟩ := i
  obtain ⟨a, b⟩ := nxt_rng (st := st) (s := s) hn
  have hj0 : j ≠ 0 := fun z => by
    subst z
    unfold iter at ej
    omega
  obtain ⟨i, rfl⟩ : ∃ i, j = i + 1 := ⟨j - 1, by omega⟩
  have ej' : ga T (iter st n i (nxt st s n)) < 0 := ej
  have hne : s ≠ iter st n i (nxt st s n) := fun z => by
    rw [← z] at ej'
    omega
  refine ⟨f - 1, by omega, ⟨by rw [put_len]; exact len, a, b, i, by omega, ?_⟩, len, a, b, i, by omega, ej'⟩
  rw [ga_put s0 (iter_rng hn i a b).1 (by omega), if_neg hne]
  exact ej'
theorem ShI.free {st : String} {n : Int} {f : Nat} {T : List Int} {s : Int} (i : ShI st n f T s) : ∃ f', f = f' + 1 := by
  obtain ⟨j, hj, _⟩ := i.ex
  exact ⟨f - 1, by omega⟩
theorem ShI.start {st h : String} {T : List Int} {k : Int} (hn : SizeOk T.length) (hu : used T < T.length) : ShI st T.length T.length T (homeOf h k T.length) := by
  obtain ⟨n0, n1⟩ := small hn
  obtain ⟨e, e0, e1, ee⟩ := exists_empty hu
  obtain ⟨h0, h1⟩ := home_rng (h := h) (k := k) hn
  obtain ⟨j, hj, ej⟩ := iter_meets (st := st) n0 h0 h1 e0 e1
  exact ⟨rfl, h0, h1, j, by omega, by rw [ej, ee]; decide⟩
structure PuI (st : String) (n : Int) (f : Nat) (T : List Int) (s a : Int) : Prop where
  len : (T.length : Int) = n
  s0 : 0 ≤ s
  s1 : s < n
  a0 : 0 ≤ a
  a1 : a < n
  gap : ga T s = -1
  ex : ∃ j : Nat, j < f ∧ ga T (iter st n (j + 1) a) = -1 ∧ iter st n (j + 1) a ≠ s
theorem PuI.free {st : String} {n : Int} {f : Nat} {T : List Int} {s a : Int} (i : PuI st n f T s a) : ∃ f', f = f' + 1 := by
  obtain ⟨j, hj, _⟩ := i.ex
  exact ⟨f - 1, by omega⟩
theorem PuI.step {st : String} {n : Int} {f : Nat} {T : List Int} {s a : Int} (hn : 0 < n) (i : PuI st n f T s a) (hg : ga T (nxt st a n) ≠ -1) : ∃ f', f = f' + 1 ∧ PuI st n f' (put (put T s (ga T (nxt st a n))) (nxt st a n) (-1)) (nxt st a n) (nxt st a n) ∧ PuI st n f' T s (nxt st a n) := by
  obtain ⟨len, s0, s1, a0, a1, es, j, hj, ej, nj⟩ := i
  obtain ⟨b0, b1⟩ := nxt_rng (st := st) (s := a) hn
  have hj0 : j ≠ 0 := fun z => by
    subst z
    exact hg ej
  obtain ⟨i, rfl⟩ : ∃ i, j = i + 1 := ⟨j - 1, by omega⟩
  have ej' : ga T (iter st n (i + 1) (nxt st a n)) = -1 := ej
  have nj' : iter st n (i + 1) (nxt st a n) ≠ s := nj
  have r0 := (iter_rng (st := st) hn (i + 1) b0 b1).1
  have l1 : s < T.length := by omega
  have l2 : nxt st a n < (put T s (ga T (nxt st a n))).length := by rw [put_len]; omega
  have ne : nxt st a n ≠ iter st n (i + 1) (nxt st a n) := fun z => hg (by rw [z]; exact ej')
  refine ⟨f - 1, by omega, ⟨by rw [put_len, put_len]; exact len, b0, b1, b0, b1, by rw [ga_put b0 b0 l2, if_pos rfl], i, by omega, ?_, fun z => ne z.symm⟩, len, s0, s1, b0, b1, es, i, by omega, ej', nj'⟩
  rw [ga_put b0 r0 l2, if_neg ne, ga_put s0 r0 l1, if_neg (fun z => nj' z.symm)]
  exact ej'
theorem PuI.start {st : String} {T : List Int} {s : Int} (hn : SizeOk T.length) (hu : used T < T.length) (h0 : 0 ≤ s) (h1 : s < T.length) (hs : ga T s ≠ -1) : PuI st T.length T.length (put T s (-1)) s s := by
  obtain ⟨n0, n1⟩ := small hn
  obtain ⟨e, e0, e1, ee⟩ := exists_empty hu
  have ne : e ≠ s := fun z => hs (by rw [← z]; exact ee)
  obtain ⟨j, hj, ej⟩ := iter_meets (st := st) n0 h0 h1 e0 e1
  have j0 : j ≠ 0 := fun z => by
    subst z
    exact ne ej.symm
  obtain ⟨i, rfl⟩ : ∃ i, j = i + 1 := ⟨j - 1, by omega⟩
  exact ⟨by rw [put_len], h0, h1, h0, h1, by rw [ga_put h0 h0 h1, if_pos rfl], i, by omega, by rw [ej, ga_put h0 e0 h1, if_neg (fun z => ne z.symm)]; exact ee, by rw [ej]; exact ne⟩
theorem shove_turn (h st c : String) (n : Int) (f : Nat) (T : List Int) (s m : Int) : shove h st c n (f + 1) T s m = if 0 ≤ ga T s then
      (if c = "first" ∨ dist h st (ga T s) s n < dist h st m s n then shove h st c n f (put T s m) (nxt st s n) (ga T s) else shove h st c n f T (nxt st s n) m)
    else put T s m := rfl
theorem pull_turn (h st : String) (n : Int) (f : Nat) (T : List Int) (s a : Int) : pull h st n (f + 1) T s a = if ga T (nxt st a n) = -1 then T else
      if dist h st (ga T (nxt st a n)) s n ≤ dist h st (ga T (nxt st a n)) (nxt st a n) n then pull h st n f (put (put T s (ga T (nxt st a n))) (nxt st a n) (-1)) (nxt st a n) (nxt st a n)
      else pull h st n f T s (nxt st a n) := rfl
end TM
namespace TM
/-! ### rows of deeds -/
abbrev RowT := List (Deed3 × Int)
/-- behind each deed: the table, whether the key was found, the looks -/
def hist (w : Way) : Tab → RowT → List (Tab × Bool × Int)
  | _, [] => []
  | t, p :: r => (done w t p.1 p.2, (found w t p.2).1.isSome, (found w t p.2).2) :: hist w (done w t p.1 p.2) r
def endT (w : Way) : Tab → RowT → Tab
  | t, [] => t
  | t, p :: r => endT w (done w t p.1 p.2) r
structure RowOk (ks : List Int) (r : RowT) : Prop where
  keys : ∀ p ∈ r, KeyOk p.2 ∧ p.2 ∈ ks
  len : r.length ≤ 24
theorem hist_len (w : Way) : ∀ (t : Tab) (r : RowT), (hist w t r).length = r.length
  | _, [] => rfl
  | t, p :: r => by simp [hist, hist_len w _ r]
theorem Ok.hist {w : Way} {ks : List Int} (hw : w.Ok) (hl : ks.length ≤ 30) : ∀ {t : Tab} {r : RowT}, Ok w ks t → (∀ p ∈ r, KeyOk p.2 ∧ p.2 ∈ ks) → ∀ x ∈ TM.hist w t r, Ok w ks x.1
  | t, [], _, _, x, hx => by cases hx
  | t, p :: r, o, hr, x, hx => by
    have h1 := hr p List.mem_cons_self
    have o1 := o.done (kd := p.1) hw h1.1 h1.2 hl
    rcases List.mem_cons.mp hx with z | z
    · rw [z]
      exact o1
    · exact Ok.hist hw hl o1 (fun q hq => hr q (List.mem_cons_of_mem _ hq)) x z
theorem Ok.endT {w : Way} {ks : List Int} (hw : w.Ok) (hl : ks.length ≤ 30) : ∀ {t : Tab} {r : RowT}, Ok w ks t → (∀ p ∈ r, KeyOk p.2 ∧ p.2 ∈ ks) → Ok w ks (TM.endT w t r)
  | t, [], o, _ => o
  | t, p :: r, o, hr => by
    have o1 := o.done (kd := p.1) hw (hr p List.mem_cons_self).1 (hr p List.mem_cons_self).2 hl
    exact Ok.endT (t := TM.done w t p.1 p.2) (r := r) hw hl o1 fun q hq => hr q (List.mem_cons_of_mem _ hq)
theorem endT_hist (w : Way) : ∀ (t : Tab) (r : RowT), (t :: (hist w t r).map (·.1)).getLast? = some (endT w t r)
  | t, [] => rfl
  | t, p :: r => by
    simp only [hist, List.map_cons, endT]
    rw [List.getLast?_cons_cons]
    exact endT_hist w _ r
end TM

namespace TM
theorem hist_append (w : Way) : ∀ (t : Tab) (a b : RowT), hist w t (a ++ b) = hist w t a ++ hist w (endT w t a) b
  | t, [], b => rfl
  | t, p :: a, b => by
    show _ :: hist w _ (a ++ b) = _ :: (hist w _ a ++ _)
    rw [hist_append w _ a b]
    rfl
theorem endT_append (w : Way) : ∀ (t : Tab) (a b : RowT), endT w t (a ++ b) = endT w (endT w t a) b
  | t, [], b => rfl
  | t, p :: a, b => endT_append w _ a b
theorem hist_take (w : Way) (t : Tab) (r : RowT) (n : Nat) : hist w t (r.take n) = (hist w t r).take n := by
  have h := hist_append w t (r.take n) (r.drop n)
  rw [List.take_append_drop] at h
  rw [h]
  by_cases hn : n ≤ r.length
  · rw [List.take_left' (by rw [hist_len, List.length_take]; omega)]
  · rw [List.take_of_length_le (by omega : r.length ≤ n), List.drop_eq_nil_of_le (by omega : r.length ≤ n)]
    simp only [hist, List.append_nil]
    rw [List.take_of_length_le (by rw [hist_len]; omega)]
theorem hist_drop (w : Way) (t : Tab) (r : RowT) (n : Nat) (hn : n ≤ r.length) : hist w (endT w t (r.take n)) (r.drop n) = (hist w t r).drop n := by
  have h := hist_append w t (r.take n) (r.drop n)
  rw [List.take_append_drop] at h
  rw [h, List.drop_left' (by rw [hist_len, List.length_take]; omega)]
theorem done_ask (w : Way) (t : Tab) (k : Int) : done w t .ask k = t := by
  unfold done
  cases (found w t k).1 <;> rfl
theorem done_put_found {w : Way} {t : Tab} {k s : Int} (h : (found w t k).1 = some s) : done w t .put k = t := by
  unfold done
  rw [h]
theorem done_take_none {w : Way} {t : Tab} {k : Int} (h : (found w t k).1 = none) : done w t .take k = t := by
  unfold done
  rw [h]
/-! ### tables never shrink -/
theorem removedS_len {h st c g gr : String} {ks T : List Int} {s : Int} (o : OkS gr ks T) (hg : GrowOk gr) (h0 : 0 ≤ s) (h1 : s < T.length) (hs : ga T s ≠ -1) : (removedS h st c g T s).length = T.length := by
  have hl := grow_lt hg o.size
  have hu := o.used
  obtain ⟨n0, n1⟩ := small o.size
  unfold removedS
  split
  · exact put_len _ _ _
  · split
    · have i := PuI.start (st := st) o.size (by omega) h0 h1 hs
      have := (pull_spec (h := h) (st := st) n0 T.length (put T s (-1)) s s i.len i.s0 i.s1 i.a0 i.a1 i.gap i.ex).1
      rw [this, put_len]
    · split
      · exact put_len _ _ _
      · have u1 := used_put (x := -1) h0 h1
        rw [if_neg hs] at u1
        simp at u1
        have hm : (once [] (keysS (put T s (-1)))).length ≤ used (put T s (-1)) := Nat.le_trans (once_len _) (keys_le _)
        exact (anew_put (h := h) (st := st) (c := c) (T := put T s (-1)) (n := T.length) o.size (by omega)).1
theorem Ok.size_le {w : Way} {ks : List Int} {t : Tab} {kd : Deed3} {k : Int} (hw : w.Ok) (o : Ok w ks t) (hl : ks.length ≤ 30) : size t ≤ size (TM.done w t kd k) := by
  cases w with
  | r h c oo =>
    cases t with
    | s T => exact o.elim
    | r R =>
      have o' : OkR h oo ks R := o
      unfold TM.done
      cases kd with
      | ask => cases (found (.r h c oo) (.r R) k).1 <;> exact Nat.le_refl _
      | put =>
        cases e : (found (.r h c oo) (.r R) k).1 with
        | some s => exact Nat.le_refl _
        | none =>
          show R.length ≤ (placeR h c (grownR h c oo R) k).length
          unfold placeR
          rw [rput_len]
          unfold grownR
          split
          · exact Nat.le_refl _
          · rename_i e1
            have hs : SizeOk ((2 * R.length : Nat) : Int) := by
              have hl' := many_lt hw.2.2 o'.hm.size
              have ht := o'.total
              rcases o'.hm.size with z | z | z | z | z
              · exact .inr (.inl (by omega))
              · exact .inr (.inr (.inl (by omega)))
              · exact .inr (.inr (.inr (.inl (by omega))))
              · exact .inr (.inr (.inr (.inr (by omega))))
              · rw [z] at hl' e1
                omega
            rw [(anewR_spec (h := h) (c := c) R hs).2.2.2]
            omega
      | take =>
        cases e : (found (.r h c oo) (.r R) k).1 with
        | none => exact Nat.le_refl _
        | some s =>
          show R.length ≤ (rput R s _).length
          rw [rput_len]
          exact Nat.le_refl _
  | s h st c g gr =>
    cases t with
    | r R => exact o.elim
    | s T =>
      have o' : OkS gr ks T := o
      have hg : GrowOk gr := hw.2.2.2.2.1
      unfold TM.done
      cases kd with
      | ask => cases (found (.s h st c g gr) (.s T) k).1 <;> exact Nat.le_refl _
      | put =>
        cases e : (found (.s h st c g gr) (.s T) k).1 with
        | some s => exact Nat.le_refl _
        | none =>
          obtain ⟨g1, g2⟩ := o'.grown (h := h) (st := st) (c := c) hg hl
          have g3 := grow_lt hg g1.size
          show T.length ≤ (placeS h st c (grownS h st c gr T) k).length
          rw [(place_put (h := h) (st := st) (c := c) (k := k) g1.size (by omega)).len]
          have ho := o'.once
          have hl1 := grow_lt hg o'.size
          have hm : (TM.once [] (keysS T)).length ≤ TM.used T := Nat.le_trans (once_len _) (keys_le T)
          have hu := o'.used
          unfold grownS
          split
          · exact Nat.le_refl _
          · split
            · rename_i e1 e2
              rw [(anew_put (h := h) (st := st) (c := c) (T := T) (n := T.length) o'.size (by omega)).1]
              exact Nat.le_refl _
            · rename_i e1 e2
              have hs : SizeOk ((2 * T.length : Nat) : Int) := by
                have h64 : growOf gr 64 ≥ 32 := by unfold growOf; rcases hg with rfl | rfl | rfl <;> decide
                rcases o'.size with z | z | z | z | z
                · exact .inr (.inl (by omega))
                · exact .inr (.inr (.inl (by omega)))
                · exact .inr (.inr (.inr (.inl (by omega))))
                · exact .inr (.inr (.inr (.inr (by omega))))
                · rw [z] at e2
                  omega
              rw [(anew_put (h := h) (st := st) (c := c) (T := T) (n := 2 * T.length) hs (by omega)).1]
              omega
      | take =>
        cases e : (found (.s h st c g gr) (.s T) k).1 with
        | none => exact Nat.le_refl _
        | some s =>
          obtain ⟨z1, z2, z3⟩ := (seek_spec T k (pathOf h st k T.length) 0).1 s e
          obtain ⟨s0, s1⟩ := (path_mem o'.size).mp z1
          show T.length ≤ (removedS h st c g T s).length
          rw [removedS_len o' hg s0 s1 z3]
          exact Nat.le_refl _
theorem sizes_up {w : Way} {ks : List Int} (hw : w.Ok) (hl : ks.length ≤ 30) : ∀ {t : Tab} {r : RowT}, Ok w ks t → (∀ p ∈ r, KeyOk p.2 ∧ p.2 ∈ ks) → (size t :: (hist w t r).map fun x => size x.1).Pairwise (· ≤ ·)
  | t, [], _, _ => by simp [hist]
  | t, p :: r, o, hr => by
    have h1 := hr p List.mem_cons_self
    have o1 := o.done (kd := p.1) hw h1.1 h1.2 hl
    have ih := sizes_up hw hl o1 fun q hq => hr q (List.mem_cons_of_mem _ hq)
    have le := o.size_le (kd := p.1) (k := p.2) hw hl
    show (size t :: size (done w t p.1 p.2) :: _).Pairwise (· ≤ ·)
    refine List.pairwise_cons.mpr ⟨fun x hx => ?_, ih⟩
    rcases List.mem_cons.mp hx with z | z
    · rw [z]
      exact le
    · exact Nat.le_trans le ((List.pairwise_cons.mp ih).1 x z)
end TM

namespace TM
/-! ### the walk as the plain table has it -/
def jumpOf (st : String) (k n : Int) : Int := if st = "up" then 1 else if st = "down" then n - 1 else if k / 8 % 2 = 1 then 3 else 1
def pathL (h st : String) (k n : Int) : List Int := (List.range n.toNat).map fun i : Nat => if st = "wide" then (homeOf h k n + i * (i + 1) / 2) % n else (homeOf h k n + i * jumpOf st k n) % n
theorem path_eq {h st : String} {k n : Int} (hst : st = "up" ∨ st = "down" ∨ st = "wide" ∨ st = "own") : pathL h st k n = pathOf h st k n := by
  have h2 : k / 8 % 2 = 0 ∨ k / 8 % 2 = 1 := by omega
  unfold pathL pathOf stepOf jumpOf
  refine List.map_congr_left fun i _ => ?_
  rcases hst with rfl | rfl | rfl | rfl
  · simp
  · simp
    have e : homeOf h k n + (i : Int) * (n - 1) = homeOf h k n + -(i : Int) + n * i := by
      rw [Int.mul_sub, Int.mul_comm]
      omega
    rw [e, Int.add_mul_emod_self_left]
  · simp
  · simp
    rcases h2 with h2 | h2 <;> rw [h2] <;> simp
theorem path_0 {h st : String} {k n : Int} (hn : SizeOk n) : ∃ r, pathOf h st k n = homeOf h k n :: r := by
  obtain ⟨hn0, hn1⟩ := small hn
  obtain ⟨h0, h1⟩ := home_rng (h := h) (k := k) hn
  obtain ⟨m, hm⟩ : ∃ m, n.toNat = m + 1 := ⟨n.toNat - 1, by omega⟩
  have z0 : stepOf st k n ((0 : Nat) : Int) = 0 := by
    unfold stepOf
    by_cases e1 : st = "up"
    · simp [e1]
    · by_cases e2 : st = "down"
      · simp [e2]
      · by_cases e3 : st = "wide"
        · simp [e3]
        · simp [e1, e2, e3]
  unfold pathOf
  rw [hm, List.range_succ_eq_map, List.map_cons, z0, Int.add_zero, Int.emod_eq_of_lt h0 h1]
  exact ⟨_, rfl⟩
theorem path_nodup {h st : String} {k n : Int} (hn : SizeOk n) : (pathOf h st k n).Nodup := by
  obtain ⟨hn0, hn1⟩ := small hn
  unfold pathOf
  exact nodup_map fun i hi j hj e => off_step hn i hi j hj (emod_shift hn0 e)
theorem path_get {h st : String} {k n : Int} {i : Nat} (hi : i < (pathOf h st k n).length) : (pathOf h st k n)[i] = (homeOf h k n + stepOf st k n i) % n := by simp [pathOf]
/-- how far, by the place in the walk -/
theorem path_idx {h st : String} {k n s : Int} (hn : SizeOk n) (hst : st = "up" ∨ st = "down") (s0 : 0 ≤ s) (s1 : s < n) : ((pathOf h st k n).idxOf s : Int) = dist h st k s n := by
  obtain ⟨hn0, hn1⟩ := small hn
  obtain ⟨h0, h1⟩ := home_rng (h := h) (k := k) hn
  have d0 : 0 ≤ dist h st k s n ∧ dist h st k s n < n := by
    unfold dist
    split <;> exact ⟨Int.emod_nonneg _ (by omega), Int.emod_lt_of_pos _ hn0⟩
  have hl : (dist h st k s n).toNat < (pathOf h st k n).length := by rw [path_len]; omega
  have hg : (pathOf h st k n)[(dist h st k s n).toNat] = s := by
    rw [path_get hl, Int.toNat_of_nonneg d0.1]
    unfold stepOf dist
    rcases hst with rfl | rfl
    · simp only [if_true]
      rw [Int.add_emod_emod]
      have : homeOf h k n + (s - homeOf h k n) = s := by omega
      rw [this, Int.emod_eq_of_lt s0 s1]
    · have e1 : ¬ ("down" = "up") := by decide
      simp only [e1, if_false, if_true]
      have : homeOf h k n + -((homeOf h k n - s) % n) = homeOf h k n - (homeOf h k n - s) % n := by omega
      rw [this, Int.sub_emod_emod]
      have : homeOf h k n - (homeOf h k n - s) = s := by omega
      rw [this, Int.emod_eq_of_lt s0 s1]
  have := (path_nodup (h := h) (st := st) (k := k) hn).idxOf_getElem (dist h st k s n).toNat hl
  rw [hg] at this
  omega
/-- keys laid one by one, those that are known passed over -/
theorem once_fold {β : Type} (f : β → Int → β) : ∀ (l acc : List Int) (b : β), ∃ m, once acc l = acc ++ m ∧ m.foldl f b = (l.foldl (fun (p : β × List Int) x => if x ∈ p.2 then p else (f p.1 x, p.2 ++ [x])) (b, acc)).1
  | [], acc, b => ⟨[], by simp [once], rfl⟩
  | x :: l, acc, b => by
    rw [once_cons, List.foldl_cons]
    by_cases h : x ∈ acc
    · rw [if_pos h]
      simp only [h, if_true]
      exact once_fold f l acc b
    · rw [if_neg h]
      simp only [h, if_false]
      obtain ⟨m, e1, e2⟩ := once_fold f l (acc ++ [x]) (f b x)
      exact ⟨x :: m, by rw [e1]; simp, by rw [List.foldl_cons]; exact e2⟩
theorem nub_once (l : List Int) : (l.foldl (fun acc x => if x ∈ acc then acc else acc ++ [x]) []) = once [] l := by
  have key : ∀ (l acc : List Int), l.foldl (fun acc x => if x ∈ acc then acc else acc ++ [x]) acc = once acc l := by
    intro l
    induction l with
    | nil => intro acc; rfl
    | cons x r ih =>
      intro acc
      rw [List.foldl_cons, once_cons]
      split
      · exact ih acc
      · exact ih _
  exact key l []
theorem used_count (T : List Int) : (T.length : Int) - T.count (-1) = used T := by
  unfold used
  have h := List.length_eq_countP_add_countP (fun x : Int => x == -1) (l := T)
  have e : T.countP (fun a => decide ¬(a == -1) = true) = T.countP (· ≠ -1) := by
    congr 1
    funext x
    simp
  rw [e] at h
  have e2 : T.count (-1) = T.countP (fun x : Int => x == -1) := rfl
  omega
theorem hist_last (w : Way) (t : Tab) (p : Deed3 × Int) (r : RowT) : ∃ z, (hist w t (p :: r)).getLast? = some z ∧ z.1 = endT w t (p :: r) := by
  have h := endT_hist w t (p :: r)
  cases e : hist w t (p :: r) with
  | nil => simp [hist] at e
  | cons a l =>
    rw [e, List.map_cons, List.getLast?_cons_cons, ← List.map_cons, List.getLast?_map] at h
    cases q : (a :: l).getLast? with
    | none =>
      rw [q] at h
      cases h
    | some z =>
      rw [q] at h
      exact ⟨z, rfl, by simpa using h⟩
end TM

namespace TM
/-! ### late and empty, where no slot is marked -/
def NoMark (T : List Int) : Prop := ∀ x ∈ T, x ≠ -2
theorem NoMark.ga {T : List Int} (h : NoMark T) (s : Int) : ga T s ≠ -2 := by
  unfold TM.ga
  rw [List.getD_eq_getElem?_getD]
  cases e : T[s.toNat]? with
  | none => simp
  | some x =>
    have := h x (List.mem_of_getElem? e)
    simpa using this
theorem NoMark.put {T : List Int} (h : NoMark T) {s x : Int} (hx : x ≠ -2) : NoMark (put T s x) := fun y hy => by
  rcases mem_put hy with z | z
  · rw [z]; exact hx
  · exact h y z
theorem NoMark.rep (n : Nat) : NoMark (List.replicate n (-1)) := fun x hx => by rw [List.eq_of_mem_replicate hx]; decide
theorem place_same {h st : String} {T : List Int} {k : Int} (hm : NoMark T) : placeS h st "late" T k = placeS h st "empty" T k := by
  have e : frees h st "late" T k = frees h st "empty" T k := by
    unfold frees
    refine List.filter_congr fun s _ => ?_
    have := hm.ga s
    simp [isFree, this]
  unfold placeS
  simp only [true_or, or_true, if_true, e]
theorem NoMark.place {h st c : String} {T : List Int} {k : Int} (hc : c = "late" ∨ c = "empty") (hm : NoMark T) (hk : 0 ≤ k) : NoMark (placeS h st c T k) := by
  unfold placeS
  rw [if_pos hc]
  exact hm.put (by omega)
theorem fold_same {h st : String} : ∀ (L T : List Int), NoMark T → (∀ x ∈ L, 0 ≤ x) → L.foldl (placeS h st "late") T = L.foldl (placeS h st "empty") T ∧ NoMark (L.foldl (placeS h st "empty") T)
  | [], T, hm, _ => ⟨rfl, hm⟩
  | k :: L, T, hm, hL => by
    rw [List.foldl_cons, List.foldl_cons, place_same hm]
    exact fold_same L _ (hm.place (.inr rfl) (hL k List.mem_cons_self)) fun x hx => hL x (List.mem_cons_of_mem _ hx)
theorem once_pos (T : List Int) : ∀ x ∈ once [] (keysS T), 0 ≤ x := fun x hx => by
  have := (once_mem _ _).mp hx
  unfold keysS at this
  rw [List.mem_filter] at this
  simpa using this.2
theorem anew_same {h st : String} (T : List Int) (n : Nat) : anewS h st "late" T n = anewS h st "empty" T n ∧ NoMark (anewS h st "empty" T n) := fold_same _ _ (.rep n) (once_pos T)
theorem grown_same {h st gr : String} {T : List Int} (hm : NoMark T) : grownS h st "late" gr T = grownS h st "empty" gr T ∧ NoMark (grownS h st "empty" gr T) := by
  unfold grownS
  split
  · exact ⟨rfl, hm⟩
  · split
    · exact anew_same T _
    · exact anew_same T _
theorem NoMark.pull {h st : String} {n : Int} : ∀ (f : Nat) (T : List Int) (s a : Int), NoMark T → NoMark (pull h st n f T s a)
  | 0, T, s, a, hm => hm
  | f + 1, T, s, a, hm => by
    rw [pull_turn]
    split
    · exact hm
    · split
      · exact NoMark.pull f _ _ _ ((hm.put (hm.ga _)).put (by decide))
      · exact NoMark.pull f _ _ _ hm
theorem removed_same {h st g : String} {T : List Int} {s : Int} (hm : NoMark T) (hg : g ≠ "mark") : removedS h st "late" g T s = removedS h st "empty" g T s ∧ NoMark (removedS h st "empty" g T s) := by
  unfold removedS
  rw [if_neg hg, if_neg hg]
  have h1 := hm.put (s := s) (x := -1) (by decide)
  split
  · exact ⟨rfl, h1.pull _ _ _ _⟩
  · split
    · exact ⟨rfl, h1⟩
    · exact anew_same _ _
theorem done_same {h st g gr : String} {T : List Int} {kd : Deed3} {k : Int} (hm : NoMark T) (hk : 0 ≤ k) (hg : g ≠ "mark" ∨ kd ≠ .take) : ∃ T', done (.s h st "late" g gr) (.s T) kd k = .s T' ∧ done (.s h st "empty" g gr) (.s T) kd k = .s T' ∧ NoMark T' := by
  unfold done
  have ef : (found (.s h st "late" g gr) (.s T) k).1 = (found (.s h st "empty" g gr) (.s T) k).1 := rfl
  rw [ef]
  cases kd with
  | ask => cases (found (.s h st "empty" g gr) (.s T) k).1 <;> exact ⟨T, rfl, rfl, hm⟩
  | put =>
    cases (found (.s h st "empty" g gr) (.s T) k).1 with
    | some s => exact ⟨T, rfl, rfl, hm⟩
    | none =>
      obtain ⟨e1, e2⟩ := grown_same (h := h) (st := st) (gr := gr) hm
      refine ⟨placeS h st "empty" (grownS h st "empty" gr T) k, ?_, rfl, e2.place (.inr rfl) hk⟩
      show Tab.s (placeS h st "late" (grownS h st "late" gr T) k) = _
      rw [e1, place_same e2]
  | take =>
    cases (found (.s h st "empty" g gr) (.s T) k).1 with
    | none => exact ⟨T, rfl, rfl, hm⟩
    | some s =>
      have hg' : g ≠ "mark" := hg.elim id fun z => absurd rfl z
      obtain ⟨e1, e2⟩ := removed_same (h := h) (st := st) (s := s) hm hg'
      exact ⟨removedS h st "empty" g T s, by show Tab.s (removedS h st "late" g T s) = _; rw [e1], rfl, e2⟩
theorem hist_same {h st g gr : String} : ∀ (r : RowT) (T : List Int), NoMark T → (∀ p ∈ r, 0 ≤ p.2 ∧ (g ≠ "mark" ∨ p.1 ≠ .take)) → hist (.s h st "late" g gr) (.s T) r = hist (.s h st "empty" g gr) (.s T) r ∧ endT (.s h st "late" g gr) (.s T) r = endT (.s h st "empty" g gr) (.s T) r
  | [], T, _, _ => ⟨rfl, rfl⟩
  | p :: r, T, hm, hr => by
    obtain ⟨h0, h1⟩ := hr p List.mem_cons_self
    obtain ⟨T', e1, e2, hm'⟩ := done_same (h := h) (st := st) (gr := gr) (kd := p.1) (k := p.2) hm h0 h1
    obtain ⟨i1, i2⟩ := hist_same (h := h) (st := st) (g := g) (gr := gr) r T' hm' fun q hq => hr q (List.mem_cons_of_mem _ hq)
    have ef : found (.s h st "late" g gr) (.s T) p.2 = found (.s h st "empty" g gr) (.s T) p.2 := rfl
    constructor
    · simp only [hist]
      rw [e1, e2, i1, ef]
    · simp only [endT]
      rw [e1, e2, i2]
/-! ### what is there is found -/
/-- each key's walk meets no empty slot ahead of it; each key once -/
structure Snd (h st : String) (T : List Int) : Prop where
  reach : ∀ (s : Int) (pre suf : List Int), 0 ≤ s → s < T.length → 0 ≤ ga T s → pathOf h st (ga T s) T.length = pre ++ s :: suf → ∀ u ∈ pre, ga T u ≠ -1
  uniq : ∀ s u : Int, 0 ≤ s → s < T.length → 0 ≤ u → u < T.length → 0 ≤ ga T s → ga T s = ga T u → s = u
theorem mem_ga {T : List Int} {x : Int} : x ∈ T ↔ ∃ s : Int, 0 ≤ s ∧ s < T.length ∧ ga T s = x := by
  constructor
  · intro h
    obtain ⟨i, hi, e⟩ := List.getElem_of_mem h
    refine ⟨i, by omega, by omega, ?_⟩
    unfold ga
    rw [List.getD_eq_getElem?_getD]
    simp [List.getElem?_eq_getElem hi, e]
  · rintro ⟨s, h0, h1, e⟩
    exact e ▸ ga_mem h0 h1
theorem seek_some {T : List Int} {k : Int} : ∀ (pre : List Int) (s : Int) (suf : List Int) (l : Int), k ≠ -1 → (∀ u ∈ pre, ga T u ≠ -1) → ga T s = k → (seek T k (pre ++ s :: suf) l).1.isSome = true
  | [], s, suf, l, hk, _, e => by
    rw [List.nil_append]
    unfold seek
    rw [if_neg (by rw [e]; exact hk), if_pos e]
    rfl
  | u :: pre, s, suf, l, hk, hp, e => by
    rw [List.cons_append]
    unfold seek
    rw [if_neg (hp u List.mem_cons_self)]
    split
    · rfl
    · exact seek_some pre s suf _ hk (fun v hv => hp v (List.mem_cons_of_mem _ hv)) e
theorem Snd.found {h st : String} {T : List Int} (o : Snd h st T) (hn : SizeOk T.length) {k : Int} (hk : 0 ≤ k) : (seek T k (pathOf h st k T.length) 0).1.isSome = decide (k ∈ T) := by
  by_cases hm : k ∈ T
  · obtain ⟨s, s0, s1, e⟩ := mem_ga.mp hm
    obtain ⟨pre, suf, ep⟩ := List.append_of_mem ((path_mem (h := h) (st := st) (k := k) hn).mpr ⟨s0, s1⟩)
    rw [ep, seek_some pre s suf 0 (by omega) (o.reach s pre suf s0 s1 (by omega) (by rw [e]; exact ep)) e]
    simp [hm]
  · rw [decide_eq_false hm]
    cases q : (seek T k (pathOf h st k T.length) 0).1 with
    | none => rfl
    | some s =>
      obtain ⟨z1, z2, z3⟩ := (seek_spec T k (pathOf h st k T.length) 0).1 s q
      obtain ⟨s0, s1⟩ := (path_mem hn).mp z1
      exact absurd (z2 ▸ ga_mem s0 s1) hm
theorem Snd.empty (h st : String) (n : Nat) : Snd h st (List.replicate n (-1)) := by
  have e : ∀ s : Int, 0 ≤ s → s < (List.replicate n (-1 : Int)).length → ga (List.replicate n (-1)) s = -1 := fun s s0 s1 => List.eq_of_mem_replicate (ga_mem s0 s1)
  refine ⟨fun s _ _ s0 s1 h0 => ?_, fun s u s0 s1 _ _ h0 => ?_⟩
  · rw [e s s0 s1] at h0
    omega
  · rw [e s s0 s1] at h0
    omega
/-- the first free slot of a walk -/
theorem frees_split {h st c : String} {T : List Int} {k s : Int} {r : List Int} (e : frees h st c T k = s :: r) : ∃ pre suf, pathOf h st k T.length = pre ++ s :: suf ∧ ∀ u ∈ pre, isFree c (ga T u) = false := by
  unfold frees at e
  obtain ⟨l1, l2, e1, e2, e3, _⟩ := List.filter_eq_cons_iff.mp e
  exact ⟨l1, l2, e1, fun u hu => by simpa using e2 u hu⟩
theorem Snd.place {h st c : String} {T : List Int} {k : Int} (o : Snd h st T) (hc : c = "late" ∨ c = "empty") (hn : SizeOk T.length) (hu : used T < T.length) (hk : 0 ≤ k) (hf : k ∉ T) : Snd h st (placeS h st c T k) ∧ (∀ x, 0 ≤ x → (x ∈ placeS h st c T k ↔ x = k ∨ x ∈ T)) ∧ (placeS h st c T k).length = T.length := by
  obtain ⟨s, r, es, ⟨s0, s1⟩, sf⟩ := frees_ne (h := h) (st := st) (c := c) (k := k) hn hu
  obtain ⟨pre0, suf0, ep0, hp0⟩ := frees_split es
  have hs : ga T s < 0 := by
    unfold isFree at sf
    simp at sf
    rcases sf with z | z
    · omega
    · omega
  have eP : placeS h st c T k = put T s k := by
    unfold placeS
    rw [if_pos hc, es]
    rfl
  rw [eP]
  have ne1 : ∀ u : Int, 0 ≤ u → ga T u ≠ -1 → ga (put T s k) u ≠ -1 := fun u u0 hu => by
    rw [ga_put s0 u0 s1]
    split
    · omega
    · exact hu
  refine ⟨⟨fun a pre suf a0 a1 ha ep u hu => ?_, fun a b a0 a1 b0 b1 ha e => ?_⟩, fun x hx => ?_, put_len _ _ _⟩
  · rw [put_len] at a1 ep
    have u0 : 0 ≤ u := by
      have := (path_mem (h := h) (st := st) (k := ga (put T s k) a) hn).mp (by rw [ep]; exact List.mem_append_left _ hu)
      exact this.1
    rw [ga_put s0 a0 s1] at ep ha
    by_cases e : s = a
    · subst e
      rw [if_pos rfl] at ep
      have : pre = pre0 := by
        rw [ep0] at ep
        have nd := path_nodup (h := h) (st := st) (k := k) hn
        rw [ep0] at nd
        have h1 : s ∉ pre0 := fun z => by
          rw [List.nodup_append] at nd
          exact nd.2.2 s z s List.mem_cons_self rfl
        have nd2 := path_nodup (h := h) (st := st) (k := k) hn
        rw [ep0, ep] at nd2
        have h2 : s ∉ pre := fun z => by
          rw [List.nodup_append] at nd2
          exact nd2.2.2 s z s List.mem_cons_self rfl
        exact ((List.append_eq_append_iff.mp ep).elim (fun ⟨m, z1, z2⟩ => by
          cases m with
          | nil => simpa using z1
          | cons b m =>
            simp only [List.cons_append, List.cons.injEq] at z2
            exact absurd (by rw [z1, z2.1]; simp) h2) fun ⟨m, z1, z2⟩ => by
          cases m with
          | nil => simpa using z1.symm
          | cons b m =>
            simp only [List.cons_append, List.cons.injEq] at z2
            exact absurd (by rw [z1, z2.1]; simp) h1)
      rw [this] at hu
      refine ne1 u u0 fun z => ?_
      have := hp0 u hu
      simp [isFree, z] at this
    · rw [if_neg e] at ep ha
      exact ne1 u u0 (o.reach a pre suf a0 a1 ha ep u hu)
  · rw [put_len] at a1 b1
    rw [ga_put s0 a0 s1, ga_put s0 b0 s1] at e
    rw [ga_put s0 a0 s1] at ha
    by_cases ea : s = a
    · by_cases eb : s = b
      · omega
      · rw [if_pos ea, if_neg eb] at e
        exact absurd (e ▸ ga_mem b0 b1) hf
    · by_cases eb : s = b
      · rw [if_neg ea, if_pos eb] at e
        exact absurd (e ▸ ga_mem a0 a1) hf
      · rw [if_neg ea, if_neg eb] at e
        rw [if_neg ea] at ha
        exact o.uniq a b a0 a1 b0 b1 ha e
  · constructor
    · exact fun z => mem_put z
    · rintro (z | z)
      · rw [z]
        exact mem_ga.mpr ⟨s, s0, by rw [put_len]; exact s1, by rw [ga_put s0 s0 s1, if_pos rfl]⟩
      · obtain ⟨u, u0, u1, eu⟩ := mem_ga.mp z
        refine mem_ga.mpr ⟨u, u0, by rw [put_len]; exact u1, ?_⟩
        rw [ga_put s0 u0 s1, if_neg (fun w => by rw [w] at hs; omega)]
        exact eu
theorem Snd.fold {h st c : String} (hc : c = "late" ∨ c = "empty") : ∀ (L T : List Int), Snd h st T → SizeOk T.length → used T + L.length ≤ T.length → L.Nodup → (∀ x ∈ L, 0 ≤ x ∧ x ∉ T) → Snd h st (L.foldl (placeS h st c) T) ∧ ∀ x, 0 ≤ x → (x ∈ L.foldl (placeS h st c) T ↔ x ∈ L ∨ x ∈ T)
  | [], T, o, _, _, _, _ => ⟨o, fun x _ => by simp⟩
  | k :: L, T, o, hn, hu, nd, hL => by
    simp only [List.length_cons] at hu
    obtain ⟨nd1, nd2⟩ := List.nodup_cons.mp nd
    obtain ⟨k0, kT⟩ := hL k List.mem_cons_self
    obtain ⟨p1, p2, p3⟩ := o.place (k := k) hc hn (by omega) k0 kT
    have pu := (place_put (h := h) (st := st) (c := c) (k := k) hn (by omega)).used
    obtain ⟨q1, q2⟩ := Snd.fold hc L (placeS h st c T k) p1 (by rw [p3]; exact hn) (by omega) nd2 fun x hx => ⟨(hL x (List.mem_cons_of_mem _ hx)).1, fun z => by
      rcases (p2 x (hL x (List.mem_cons_of_mem _ hx)).1).mp z with w | w
      · exact nd1 (w ▸ hx)
      · exact (hL x (List.mem_cons_of_mem _ hx)).2 w⟩
    refine ⟨q1, fun x hx => ?_⟩
    rw [List.foldl_cons, q2 x hx, p2 x hx, List.mem_cons]
    constructor
    · rintro (z | z | z)
      · exact .inl (.inr z)
      · exact .inl (.inl z)
      · exact .inr z
    · rintro ((z | z) | z)
      · exact .inr (.inl z)
      · exact .inl z
      · exact .inr (.inr z)
theorem keys_mem {T : List Int} {x : Int} (hx : 0 ≤ x) : x ∈ keysS T ↔ x ∈ T := by
  unfold keysS
  rw [List.mem_filter]
  simp [hx]
theorem Snd.anew {h st c : String} (hc : c = "late" ∨ c = "empty") {T : List Int} {n : Nat} (hn : SizeOk n) (hu : (once [] (keysS T)).length ≤ n) : Snd h st (anewS h st c T n) ∧ ∀ x, 0 ≤ x → (x ∈ anewS h st c T n ↔ x ∈ T) := by
  obtain ⟨q1, q2⟩ := Snd.fold (h := h) (st := st) hc (once [] (keysS T)) (List.replicate n (-1)) (.empty h st n) (by simpa using hn) (by rw [used_replicate]; simpa using hu) (once_nodup _) fun x hx => ⟨once_pos T x hx, fun z => by
    have := List.eq_of_mem_replicate z
    have := once_pos T x hx
    omega⟩
  refine ⟨q1, fun x hx => ?_⟩
  unfold anewS
  rw [q2 x hx, once_mem, keys_mem hx]
  constructor
  · rintro (z | z)
    · exact z
    · have := List.eq_of_mem_replicate z
      omega
  · exact .inl
theorem Snd.grown {h st c gr : String} (hc : c = "late" ∨ c = "empty") {ks T : List Int} (s : Snd h st T) (o : OkS gr ks T) (hg : GrowOk gr) (hk : ks.length ≤ 30) : Snd h st (grownS h st c gr T) ∧ ∀ x, 0 ≤ x → (x ∈ grownS h st c gr T ↔ x ∈ T) := by
  have ho := o.once
  have hl := grow_lt hg o.size
  have hm : (TM.once [] (keysS T)).length ≤ TM.used T := Nat.le_trans (once_len _) (keys_le T)
  have hu := o.used
  unfold grownS
  split
  · exact ⟨s, fun x _ => Iff.rfl⟩
  · split
    · exact Snd.anew hc o.size (by omega)
    · rename_i e1 e2
      have hs : SizeOk ((2 * T.length : Nat) : Int) := by
        have h64 : growOf gr 64 ≥ 32 := by unfold growOf; rcases hg with rfl | rfl | rfl <;> decide
        rcases o.size with z | z | z | z | z
        · exact .inr (.inl (by omega))
        · exact .inr (.inr (.inl (by omega)))
        · exact .inr (.inr (.inr (.inl (by omega))))
        · exact .inr (.inr (.inr (.inr (by omega))))
        · rw [z] at e2
          omega
      exact Snd.anew hc hs (by omega)
theorem Snd.mark {h st : String} {T : List Int} {s : Int} (o : Snd h st T) (s0 : 0 ≤ s) (s1 : s < T.length) (hs : 0 ≤ ga T s) : Snd h st (put T s (-2)) ∧ ∀ x, 0 ≤ x → (x ∈ put T s (-2) ↔ x ∈ T ∧ x ≠ ga T s) := by
  refine ⟨⟨fun a pre suf a0 a1 ha ep u hu => ?_, fun a b a0 a1 b0 b1 ha e => ?_⟩, fun x hx => ?_⟩
  · rw [put_len] at a1 ep
    rw [ga_put s0 a0 s1] at ep ha
    by_cases e : s = a
    · rw [if_pos e] at ha
      omega
    · rw [if_neg e] at ep ha
      have := o.reach a pre suf a0 a1 ha ep u hu
      unfold ga put at *
      rw [List.getD_eq_getElem?_getD, List.getElem?_set]
      split
      · split <;> simp
      · rw [← List.getD_eq_getElem?_getD]
        exact this
  · rw [put_len] at a1 b1
    rw [ga_put s0 a0 s1, ga_put s0 b0 s1] at e
    rw [ga_put s0 a0 s1] at ha
    by_cases ea : s = a
    · rw [if_pos ea] at ha
      omega
    · rw [if_neg ea] at ha e
      by_cases eb : s = b
      · rw [if_pos eb] at e
        omega
      · rw [if_neg eb] at e
        exact o.uniq a b a0 a1 b0 b1 ha e
  · constructor
    · intro z
      obtain ⟨u, u0, u1, eu⟩ := mem_ga.mp z
      rw [put_len] at u1
      rw [ga_put s0 u0 s1] at eu
      by_cases e : s = u
      · rw [if_pos e] at eu
        omega
      · rw [if_neg e] at eu
        refine ⟨eu ▸ ga_mem u0 u1, fun w => e ?_⟩
        exact o.uniq s u s0 s1 u0 u1 hs (by rw [eu, w])
    · rintro ⟨z, ne⟩
      obtain ⟨u, u0, u1, eu⟩ := mem_ga.mp z
      refine mem_ga.mpr ⟨u, u0, by rw [put_len]; exact u1, ?_⟩
      rw [ga_put s0 u0 s1, if_neg (fun w => ne (by rw [← eu, w]))]
      exact eu
/-- with marks: found are just those that are there; what is there changes by the deed alone -/
theorem mark_done {h st c gr : String} {ks T : List Int} {kd : Deed3} {k : Int} (hw : (Way.s h st c "mark" gr).Ok) (hc : c = "late" ∨ c = "empty") (s : Snd h st T) (o : OkS gr ks T) (hk : KeyOk k) (hm : k ∈ ks) (hl : ks.length ≤ 30) :
    (found (.s h st c "mark" gr) (.s T) k).1.isSome = decide (k ∈ T) ∧ ∃ T', done (.s h st c "mark" gr) (.s T) kd k = .s T' ∧ Snd h st T' ∧ OkS gr ks T' ∧ ∀ x, 0 ≤ x → (x ∈ T' ↔ (x ∈ T ∧ (kd = .take → x ≠ k)) ∨ (x = k ∧ kd = .put)) := by
  have hf : (found (.s h st c "mark" gr) (.s T) k).1.isSome = decide (k ∈ T) := s.found o.size hk.1
  have hg : GrowOk gr := hw.2.2.2.2.1
  have od : Ok (.s h st c "mark" gr) ks (done (.s h st c "mark" gr) (.s T) kd k) := Ok.done (w := .s h st c "mark" gr) (t := .s T) hw o hk hm hl
  refine ⟨hf, ?_⟩
  cases e : (found (.s h st c "mark" gr) (.s T) k).1 with
  | none =>
    rw [e] at hf
    have kT : k ∉ T := fun z => by simp [z] at hf
    cases kd with
    | ask =>
      refine ⟨T, done_ask _ _ _, s, o, fun x hx => by simp⟩
    | take =>
      refine ⟨T, done_take_none e, s, o, fun x hx => ?_⟩
      constructor
      · exact fun z => .inl ⟨z, fun _ w => kT (w ▸ z)⟩
      · rintro (z | z)
        · exact z.1
        · cases z.2
    | put =>
      have ed : done (.s h st c "mark" gr) (.s T) .put k = .s (placeS h st c (grownS h st c gr T) k) := by
        unfold done
        rw [e]
        rfl
      rw [ed] at od
      obtain ⟨g1, g2⟩ := o.grown (h := h) (st := st) (c := c) hg hl
      have g3 := grow_lt hg g1.size
      obtain ⟨s1, s2⟩ := s.grown hc o hg hl
      obtain ⟨p1, p2, p3⟩ := s1.place (k := k) hc g1.size (by omega) hk.1 fun z => kT ((s2 k hk.1).mp z)
      refine ⟨_, ed, p1, od, fun x hx => ?_⟩
      rw [p2 x hx, s2 x hx]
      constructor
      · rintro (z | z)
        · exact .inr ⟨z, rfl⟩
        · exact .inl ⟨z, fun w => nomatch w⟩
      · rintro (z | z)
        · exact .inr z.1
        · exact .inl z.1
  | some u =>
    rw [e] at hf
    have kT : k ∈ T := by simpa using hf
    obtain ⟨z1, z2, z3⟩ := (seek_spec T k (pathOf h st k T.length) 0).1 u e
    obtain ⟨u0, u1⟩ := (path_mem o.size).mp z1
    cases kd with
    | ask => exact ⟨T, done_ask _ _ _, s, o, fun x hx => by simp⟩
    | put =>
      refine ⟨T, done_put_found e, s, o, fun x hx => ?_⟩
      constructor
      · exact fun z => .inl ⟨z, fun w => nomatch w⟩
      · rintro (z | z)
        · exact z.1
        · rw [z.1]; exact kT
    | take =>
      have ed : done (.s h st c "mark" gr) (.s T) .take k = .s (put T u (-2)) := by
        unfold done
        rw [e]
        show Tab.s (removedS h st c "mark" T u) = _
        unfold removedS
        rw [if_pos rfl]
      rw [ed] at od
      obtain ⟨m1, m2⟩ := s.mark u0 u1 (by rw [z2]; exact hk.1)
      refine ⟨_, ed, m1, od, fun x hx => ?_⟩
      rw [m2 x hx, z2]
      constructor
      · exact fun z => .inl ⟨z.1, fun _ => z.2⟩
      · rintro (z | z)
        · exact ⟨z.1, z.2 rfl⟩
        · cases z.2
theorem mark_hist {h st gr : String} {ks : List Int} (hw1 : (Way.s h st "late" "mark" gr).Ok) (hw2 : (Way.s h st "empty" "mark" gr).Ok) (hl : ks.length ≤ 30) : ∀ (r : RowT) (T U : List Int), Snd h st T → OkS gr ks T → Snd h st U → OkS gr ks U → (∀ x, 0 ≤ x → (x ∈ T ↔ x ∈ U)) → (∀ p ∈ r, KeyOk p.2 ∧ p.2 ∈ ks) →
    (hist (.s h st "late" "mark" gr) (.s T) r).map (·.2.1) = (hist (.s h st "empty" "mark" gr) (.s U) r).map (·.2.1)
  | [], _, _, _, _, _, _, _, _ => rfl
  | p :: r, T, U, s1, o1, s2, o2, he, hr => by
    obtain ⟨hk, hm⟩ := hr p List.mem_cons_self
    obtain ⟨f1, T', d1, s1', o1', m1⟩ := mark_done (kd := p.1) hw1 (.inl rfl) s1 o1 hk hm hl
    obtain ⟨f2, U', d2, s2', o2', m2⟩ := mark_done (kd := p.1) hw2 (.inr rfl) s2 o2 hk hm hl
    simp only [hist, List.map_cons]
    rw [f1, f2, d1, d2, mark_hist hw1 hw2 hl r T' U' s1' o1' s2' o2' (fun x hx => by rw [m1 x hx, m2 x hx, he x hx]) fun q hq => hr q (List.mem_cons_of_mem _ hq)]
    have : decide (p.2 ∈ T) = decide (p.2 ∈ U) := by
      rw [decide_eq_decide]
      exact he p.2 hk.1
    rw [this]
end TM

namespace G6
open PySem PySem.Spec L2 DL
/-! ### what each def does -/
def c_HOMES : D := .tuple [.str "low", .str "fold"]
def c_STEPS : D := .tuple [.str "up", .str "down", .str "wide", .str "own"]
def c_COMES : D := .tuple [.str "late", .str "empty", .str "near", .str "first"]
def c_GONES : D := .tuple [.str "mark", .str "hole", .str "again", .str "pull"]
def c_GROWS : D := .tuple [.str "half", .str "three", .str "full"]
def c_KINDS : D := .tuple [.str "ask", .str "put", .str "take"]
def c_SIGHTS : D := .tuple [.str "both", .str "looks", .str "order"]
def b1_is_between : FS := (sRet (eAnd (eUn1 (isiD "int") (eVar 0)) (eAnd (eNot (eUn1 (isiD "bool") (eVar 0))) (eChain leD leD (eVar 1) (eVar 0) (eVar 2)))))
theorem b1_is_between_r (Γ : DL.Env) (k : KS) : b1_is_between Γ k = (sRet (eAnd (eUn1 (isiD "int") (eVar 0)) (eAnd (eNot (eUn1 (isiD "bool") (eVar 0))) (eChain leD leD (eVar 1) (eVar 0) (eVar 2))))) Γ k := propext Iff.rfl
def m_is_between : List D → WD D := fn0 3
    b1_is_between
theorem m_is_between_r (ds : List D) (Q : D → Prop) (E : Str → Prop) : m_is_between ds Q E = fn0 3 b1_is_between ds Q E := propext Iff.rfl
def b1_is_word : FS := (sRet (eAnd (eUn1 (isiD "str") (eVar 0)) (eOp (inD false) (eVar 0) (eVar 1))))
theorem b1_is_word_r (Γ : DL.Env) (k : KS) : b1_is_word Γ k = (sRet (eAnd (eUn1 (isiD "str") (eVar 0)) (eOp (inD false) (eVar 0) (eVar 1)))) Γ k := propext Iff.rfl
def m_is_word : List D → WD D := fn0 2
    b1_is_word
theorem m_is_word_r (ds : List D) (Q : D → Prop) (E : Str → Prop) : m_is_word ds Q E = fn0 2 b1_is_word ds Q E := propext Iff.rfl
def b1_home_of : FS := (sRet (eOp modD (eIf (tB1 (eOp (eqD false) (eOp idxD (eVar 0) (eC (.int 1))) (eC (.str "low")))) (eVar 1) (eOp addD (eVar 1) (eOp fdivD (eVar 1) (eC (.int 4))))) (eVar 2)))
theorem b1_home_of_r (Γ : DL.Env) (k : KS) : b1_home_of Γ k = (sRet (eOp modD (eIf (tB1 (eOp (eqD false) (eOp idxD (eVar 0) (eC (.int 1))) (eC (.str "low")))) (eVar 1) (eOp addD (eVar 1) (eOp fdivD (eVar 1) (eC (.int 4))))) (eVar 2))) Γ k := propext Iff.rfl
def m_home_of : List D → WD D := fn0 3
    b1_home_of
theorem m_home_of_r (ds : List D) (Q : D → Prop) (E : Str → Prop) : m_home_of ds Q E = fn0 3 b1_home_of ds Q E := propext Iff.rfl
def b1_bound_of : FS := (sRet (eIf (tB1 (eOp (eqD false) (eOp idxD (eVar 0) (eC (.int 3))) (eC (.str "one")))) (eVar 1) (eOp mulD (eC (.int 2)) (eVar 1))))
theorem b1_bound_of_r (Γ : DL.Env) (k : KS) : b1_bound_of Γ k = (sRet (eIf (tB1 (eOp (eqD false) (eOp idxD (eVar 0) (eC (.int 3))) (eC (.str "one")))) (eVar 1) (eOp mulD (eC (.int 2)) (eVar 1)))) Γ k := propext Iff.rfl
def b2_bound_of : FS := (sIf (tB1 (eOp (eqD false) (eOp idxD (eVar 0) (eC (.int 0))) (eC (.str "rows")))) b1_bound_of sNext)
theorem b2_bound_of_r (Γ : DL.Env) (k : KS) : b2_bound_of Γ k = (sIf (tB1 (eOp (eqD false) (eOp idxD (eVar 0) (eC (.int 0))) (eC (.str "rows")))) b1_bound_of sNext) Γ k := propext Iff.rfl
def b3_bound_of : FS := (sRet (eOp dgetD (eOfD (dDisp (pCons (eC (.str "half")) (eOp fdivD (eVar 1) (eC (.int 2))) (pCons (eC (.str "three")) (eOp fdivD (eOp mulD (eVar 1) (eC (.int 3))) (eC (.int 4))) (pCons (eC (.str "full")) (eOp subD (eVar 1) (eC (.int 1))) pNil))))) (eOp idxD (eVar 0) (eC (.int 5)))))
theorem b3_bound_of_r (Γ : DL.Env) (k : KS) : b3_bound_of Γ k = (sRet (eOp dgetD (eOfD (dDisp (pCons (eC (.str "half")) (eOp fdivD (eVar 1) (eC (.int 2))) (pCons (eC (.str "three")) (eOp fdivD (eOp mulD (eVar 1) (eC (.int 3))) (eC (.int 4))) (pCons (eC (.str "full")) (eOp subD (eVar 1) (eC (.int 1))) pNil))))) (eOp idxD (eVar 0) (eC (.int 5))))) Γ k := propext Iff.rfl
def m_bound_of : List D → WD D := fn0 2
    (sSeq b2_bound_of
    b3_bound_of)
theorem m_bound_of_r (ds : List D) (Q : D → Prop) (E : Str → Prop) : m_bound_of ds Q E = fn0 2 (sSeq b2_bound_of
    b3_bound_of) ds Q E := propext Iff.rfl
def b1_begun : FS := (sRet (eIf (tB1 (eOp (eqD false) (eOp idxD (eVar 0) (eC (.int 0))) (eC (.str "rows")))) (eOp mulD (eTup (aCons (eTup aNil) aNil)) (eVar 1)) (eOp mulD (eTup (aCons (eC (.int (-1))) aNil)) (eVar 1))))
theorem b1_begun_r (Γ : DL.Env) (k : KS) : b1_begun Γ k = (sRet (eIf (tB1 (eOp (eqD false) (eOp idxD (eVar 0) (eC (.int 0))) (eC (.str "rows")))) (eOp mulD (eTup (aCons (eTup aNil) aNil)) (eVar 1)) (eOp mulD (eTup (aCons (eC (.int (-1))) aNil)) (eVar 1)))) Γ k := propext Iff.rfl
def m_begun : List D → WD D := fn0 2
    b1_begun
theorem m_begun_r (ds : List D) (Q : D → Prop) (E : Str → Prop) : m_begun ds Q E = fn0 2 b1_begun ds Q E := propext Iff.rfl
def b1_keys_in : FS := (sRet (eOfF (eLc2 (sItems (eVar 1)) (.name 3) [3, 2] tYesD (sItems (eVar 3)) (.name 2) [2] tYesD (eVar 2))))
theorem b1_keys_in_r (Γ : DL.Env) (k : KS) : b1_keys_in Γ k = (sRet (eOfF (eLc2 (sItems (eVar 1)) (.name 3) [3, 2] tYesD (sItems (eVar 3)) (.name 2) [2] tYesD (eVar 2)))) Γ k := propext Iff.rfl
def b2_keys_in : FS := (sIf (tB1 (eOp (eqD false) (eOp idxD (eVar 0) (eC (.int 0))) (eC (.str "rows")))) b1_keys_in sNext)
theorem b2_keys_in_r (Γ : DL.Env) (k : KS) : b2_keys_in Γ k = (sIf (tB1 (eOp (eqD false) (eOp idxD (eVar 0) (eC (.int 0))) (eC (.str "rows")))) b1_keys_in sNext) Γ k := propext Iff.rfl
def b3_keys_in : FS := (sRet (eOfF (eLc (sItems (eVar 1)) (.name 2) [2] (tB1 (eOp geD (eVar 2) (eC (.int 0)))) (eVar 2))))
theorem b3_keys_in_r (Γ : DL.Env) (k : KS) : b3_keys_in Γ k = (sRet (eOfF (eLc (sItems (eVar 1)) (.name 2) [2] (tB1 (eOp geD (eVar 2) (eC (.int 0)))) (eVar 2)))) Γ k := propext Iff.rfl
def m_keys_in : List D → WD D := fn0 4
    (sSeq b2_keys_in
    b3_keys_in)
theorem m_keys_in_r (ds : List D) (Q : D → Prop) (E : Str → Prop) : m_keys_in ds Q E = fn0 4 (sSeq b2_keys_in
    b3_keys_in) ds Q E := propext Iff.rfl
def b1_each_once : FS := (sIf (tB1 (eOp (inD true) (eVar 2) (eVar 1))) (sApp 1 (eVar 2)) sNext)
theorem b1_each_once_r (Γ : DL.Env) (k : KS) : b1_each_once Γ k = (sIf (tB1 (eOp (inD true) (eVar 2) (eVar 1))) (sApp 1 (eVar 2)) sNext) Γ k := propext Iff.rfl
def m_each_once : List D → WD D := fn0 3
    (sSeq (sSetF 1 (eLst aNil))
    (sSeq (sFor (sItems (eVar 0)) (.name 2) b1_each_once)
    (sRet (eVar 1))))
theorem m_each_once_r (ds : List D) (Q : D → Prop) (E : Str → Prop) : m_each_once ds Q E = fn0 3 (sSeq (sSetF 1 (eLst aNil))
    (sSeq (sFor (sItems (eVar 0)) (.name 2) b1_each_once)
    (sRet (eVar 1)))) ds Q E := propext Iff.rfl
def b1_with_slot : FS := (sRet (eOp addD (eOp addD (eSl (eVar 0) oNone (oSome (eVar 1))) (eTup (aCons (eVar 2) aNil))) (eSl (eVar 0) (oSome (eOp addD (eVar 1) (eC (.int 1)))) oNone)))
theorem b1_with_slot_r (Γ : DL.Env) (k : KS) : b1_with_slot Γ k = (sRet (eOp addD (eOp addD (eSl (eVar 0) oNone (oSome (eVar 1))) (eTup (aCons (eVar 2) aNil))) (eSl (eVar 0) (oSome (eOp addD (eVar 1) (eC (.int 1)))) oNone))) Γ k := propext Iff.rfl
def m_with_slot : List D → WD D := fn0 3
    b1_with_slot
theorem m_with_slot_r (ds : List D) (Q : D → Prop) (E : Str → Prop) : m_with_slot ds Q E = fn0 3 b1_with_slot ds Q E := propext Iff.rfl
def b1_is_slot_way : FS := (sIf (tOrD (tB1 (eOp (eqD true) (eCb (one1 lenD) (aCons (eVar 0) aNil)) (eC (.int 6)))) (tOrD (tNotD (tB1 (eCb m_is_word (aCons (eOp idxD (eVar 0) (eC (.int 1))) (aCons (eC c_HOMES) aNil))))) (tNotD (tB1 (eCb m_is_word (aCons (eOp idxD (eVar 0) (eC (.int 2))) (aCons (eC c_STEPS) aNil))))))) (sRet (eC (.bool false))) sNext)
theorem b1_is_slot_way_r (Γ : DL.Env) (k : KS) : b1_is_slot_way Γ k = (sIf (tOrD (tB1 (eOp (eqD true) (eCb (one1 lenD) (aCons (eVar 0) aNil)) (eC (.int 6)))) (tOrD (tNotD (tB1 (eCb m_is_word (aCons (eOp idxD (eVar 0) (eC (.int 1))) (aCons (eC c_HOMES) aNil))))) (tNotD (tB1 (eCb m_is_word (aCons (eOp idxD (eVar 0) (eC (.int 2))) (aCons (eC c_STEPS) aNil))))))) (sRet (eC (.bool false))) sNext) Γ k := propext Iff.rfl
def b2_is_slot_way : FS := (sIf (tOrD (tNotD (tB1 (eCb m_is_word (aCons (eOp idxD (eVar 0) (eC (.int 3))) (aCons (eC c_COMES) aNil))))) (tOrD (tNotD (tB1 (eCb m_is_word (aCons (eOp idxD (eVar 0) (eC (.int 4))) (aCons (eC c_GONES) aNil))))) (tNotD (tB1 (eCb m_is_word (aCons (eOp idxD (eVar 0) (eC (.int 5))) (aCons (eC c_GROWS) aNil))))))) (sRet (eC (.bool false))) sNext)
theorem b2_is_slot_way_r (Γ : DL.Env) (k : KS) : b2_is_slot_way Γ k = (sIf (tOrD (tNotD (tB1 (eCb m_is_word (aCons (eOp idxD (eVar 0) (eC (.int 3))) (aCons (eC c_COMES) aNil))))) (tOrD (tNotD (tB1 (eCb m_is_word (aCons (eOp idxD (eVar 0) (eC (.int 4))) (aCons (eC c_GONES) aNil))))) (tNotD (tB1 (eCb m_is_word (aCons (eOp idxD (eVar 0) (eC (.int 5))) (aCons (eC c_GROWS) aNil))))))) (sRet (eC (.bool false))) sNext) Γ k := propext Iff.rfl
def b3_is_slot_way : FS := (sRet (eOr (eOp (inD false) (eOp idxD (eVar 0) (eC (.int 2))) (eTup (aCons (eC (.str "up")) (aCons (eC (.str "down")) aNil)))) (eAnd (eOp (inD false) (eOp idxD (eVar 0) (eC (.int 3))) (eTup (aCons (eC (.str "late")) (aCons (eC (.str "empty")) aNil)))) (eOp (eqD true) (eOp idxD (eVar 0) (eC (.int 4))) (eC (.str "pull"))))))
theorem b3_is_slot_way_r (Γ : DL.Env) (k : KS) : b3_is_slot_way Γ k = (sRet (eOr (eOp (inD false) (eOp idxD (eVar 0) (eC (.int 2))) (eTup (aCons (eC (.str "up")) (aCons (eC (.str "down")) aNil)))) (eAnd (eOp (inD false) (eOp idxD (eVar 0) (eC (.int 3))) (eTup (aCons (eC (.str "late")) (aCons (eC (.str "empty")) aNil)))) (eOp (eqD true) (eOp idxD (eVar 0) (eC (.int 4))) (eC (.str "pull")))))) Γ k := propext Iff.rfl
def m_is_slot_way : List D → WD D := fn0 1
    (sSeq b1_is_slot_way
    (sSeq b2_is_slot_way
    b3_is_slot_way))
theorem m_is_slot_way_r (ds : List D) (Q : D → Prop) (E : Str → Prop) : m_is_slot_way ds Q E = fn0 1 (sSeq b1_is_slot_way
    (sSeq b2_is_slot_way
    b3_is_slot_way)) ds Q E := propext Iff.rfl
def b1_is_key : FS := (sRet (eCb m_is_between (aCons (eVar 0) (aCons (eC (.int 0)) (aCons (eC (.int 31)) aNil)))))
theorem b1_is_key_r (Γ : DL.Env) (k : KS) : b1_is_key Γ k = (sRet (eCb m_is_between (aCons (eVar 0) (aCons (eC (.int 0)) (aCons (eC (.int 31)) aNil))))) Γ k := propext Iff.rfl
def m_is_key : List D → WD D := fn0 1
    b1_is_key
theorem m_is_key_r (ds : List D) (Q : D → Prop) (E : Str → Prop) : m_is_key ds Q E = fn0 1 b1_is_key ds Q E := propext Iff.rfl
def b1_check_sight : FS := (sIf (tNotD (tB1 (eCb m_is_word (aCons (eVar 0) (aCons (eC c_SIGHTS) aNil))))) sNever sNext)
theorem b1_check_sight_r (Γ : DL.Env) (k : KS) : b1_check_sight Γ k = (sIf (tNotD (tB1 (eCb m_is_word (aCons (eVar 0) (aCons (eC c_SIGHTS) aNil))))) sNever sNext) Γ k := propext Iff.rfl
def m_check_sight : List D → WD D := fn0 1
    b1_check_sight
theorem m_check_sight_r (ds : List D) (Q : D → Prop) (E : Str → Prop) : m_check_sight ds Q E = fn0 1 b1_check_sight ds Q E := propext Iff.rfl
def b1_walk_of : FS := (sSet 3 (eCb m_home_of (aCons (eVar 0) (aCons (eVar 1) (aCons (eVar 2) aNil)))))
theorem b1_walk_of_r (Γ : DL.Env) (k : KS) : b1_walk_of Γ k = (sSet 3 (eCb m_home_of (aCons (eVar 0) (aCons (eVar 1) (aCons (eVar 2) aNil))))) Γ k := propext Iff.rfl
def b2_walk_of : FS := (sIf (tB1 (eOp (eqD false) (eOp idxD (eVar 0) (eC (.int 0))) (eC (.str "rows")))) (sRet (eTup (aCons (eVar 3) aNil))) sNext)
theorem b2_walk_of_r (Γ : DL.Env) (k : KS) : b2_walk_of Γ k = (sIf (tB1 (eOp (eqD false) (eOp idxD (eVar 0) (eC (.int 0))) (eC (.str "rows")))) (sRet (eTup (aCons (eVar 3) aNil))) sNext) Γ k := propext Iff.rfl
def b3_walk_of : FS := (sRet (eCb (one1 tupleD) (aCons (eOfF (eLc (eCbF rng1 (aCons (eVar 2) aNil)) (.name 4) [4] tYesD (eOp modD (eOp addD (eVar 3) (eVar 4)) (eVar 2)))) aNil)))
theorem b3_walk_of_r (Γ : DL.Env) (k : KS) : b3_walk_of Γ k = (sRet (eCb (one1 tupleD) (aCons (eOfF (eLc (eCbF rng1 (aCons (eVar 2) aNil)) (.name 4) [4] tYesD (eOp modD (eOp addD (eVar 3) (eVar 4)) (eVar 2)))) aNil))) Γ k := propext Iff.rfl
def b4_walk_of : FS := (sIf (tB1 (eOp (eqD false) (eOp idxD (eVar 0) (eC (.int 2))) (eC (.str "up")))) b3_walk_of sNext)
theorem b4_walk_of_r (Γ : DL.Env) (k : KS) : b4_walk_of Γ k = (sIf (tB1 (eOp (eqD false) (eOp idxD (eVar 0) (eC (.int 2))) (eC (.str "up")))) b3_walk_of sNext) Γ k := propext Iff.rfl
def b5_walk_of : FS := (sRet (eCb (one1 tupleD) (aCons (eOfF (eLc (eCbF rng1 (aCons (eVar 2) aNil)) (.name 4) [4] tYesD (eOp modD (eOp subD (eVar 3) (eVar 4)) (eVar 2)))) aNil)))
theorem b5_walk_of_r (Γ : DL.Env) (k : KS) : b5_walk_of Γ k = (sRet (eCb (one1 tupleD) (aCons (eOfF (eLc (eCbF rng1 (aCons (eVar 2) aNil)) (.name 4) [4] tYesD (eOp modD (eOp subD (eVar 3) (eVar 4)) (eVar 2)))) aNil))) Γ k := propext Iff.rfl
def b6_walk_of : FS := (sIf (tB1 (eOp (eqD false) (eOp idxD (eVar 0) (eC (.int 2))) (eC (.str "down")))) b5_walk_of sNext)
theorem b6_walk_of_r (Γ : DL.Env) (k : KS) : b6_walk_of Γ k = (sIf (tB1 (eOp (eqD false) (eOp idxD (eVar 0) (eC (.int 2))) (eC (.str "down")))) b5_walk_of sNext) Γ k := propext Iff.rfl
def b7_walk_of : FS := (sRet (eCb (one1 tupleD) (aCons (eOfF (eLc (eCbF rng1 (aCons (eVar 2) aNil)) (.name 4) [4] tYesD (eOp modD (eOp addD (eVar 3) (eOp fdivD (eOp mulD (eVar 4) (eOp addD (eVar 4) (eC (.int 1)))) (eC (.int 2)))) (eVar 2)))) aNil)))
theorem b7_walk_of_r (Γ : DL.Env) (k : KS) : b7_walk_of Γ k = (sRet (eCb (one1 tupleD) (aCons (eOfF (eLc (eCbF rng1 (aCons (eVar 2) aNil)) (.name 4) [4] tYesD (eOp modD (eOp addD (eVar 3) (eOp fdivD (eOp mulD (eVar 4) (eOp addD (eVar 4) (eC (.int 1)))) (eC (.int 2)))) (eVar 2)))) aNil))) Γ k := propext Iff.rfl
def b8_walk_of : FS := (sIf (tB1 (eOp (eqD false) (eOp idxD (eVar 0) (eC (.int 2))) (eC (.str "wide")))) b7_walk_of sNext)
theorem b8_walk_of_r (Γ : DL.Env) (k : KS) : b8_walk_of Γ k = (sIf (tB1 (eOp (eqD false) (eOp idxD (eVar 0) (eC (.int 2))) (eC (.str "wide")))) b7_walk_of sNext) Γ k := propext Iff.rfl
def b9_walk_of : FS := (sRet (eCb (one1 tupleD) (aCons (eOfF (eLc (eCbF rng1 (aCons (eVar 2) aNil)) (.name 4) [4] tYesD (eOp modD (eOp addD (eVar 3) (eOp mulD (eVar 4) (eOp addD (eC (.int 1)) (eOp mulD (eC (.int 2)) (eOp modD (eOp fdivD (eVar 1) (eC (.int 8))) (eC (.int 2))))))) (eVar 2)))) aNil)))
theorem b9_walk_of_r (Γ : DL.Env) (k : KS) : b9_walk_of Γ k = (sRet (eCb (one1 tupleD) (aCons (eOfF (eLc (eCbF rng1 (aCons (eVar 2) aNil)) (.name 4) [4] tYesD (eOp modD (eOp addD (eVar 3) (eOp mulD (eVar 4) (eOp addD (eC (.int 1)) (eOp mulD (eC (.int 2)) (eOp modD (eOp fdivD (eVar 1) (eC (.int 8))) (eC (.int 2))))))) (eVar 2)))) aNil))) Γ k := propext Iff.rfl
def m_walk_of : List D → WD D := fn0 5
    (sSeq b1_walk_of
    (sSeq b2_walk_of
    (sSeq b4_walk_of
    (sSeq b6_walk_of
    (sSeq b8_walk_of
    b9_walk_of)))))
theorem m_walk_of_r (ds : List D) (Q : D → Prop) (E : Str → Prop) : m_walk_of ds Q E = fn0 5 (sSeq b1_walk_of
    (sSeq b2_walk_of
    (sSeq b4_walk_of
    (sSeq b6_walk_of
    (sSeq b8_walk_of
    b9_walk_of))))) ds Q E := propext Iff.rfl
def b1_order_in : FS := (sRet (eCb (one1 tupleD) (aCons (eCb m_keys_in (aCons (eVar 0) (aCons (eVar 1) aNil))) aNil)))
theorem b1_order_in_r (Γ : DL.Env) (k : KS) : b1_order_in Γ k = (sRet (eCb (one1 tupleD) (aCons (eCb m_keys_in (aCons (eVar 0) (aCons (eVar 1) aNil))) aNil))) Γ k := propext Iff.rfl
def m_order_in : List D → WD D := fn0 2
    b1_order_in
theorem m_order_in_r (ds : List D) (Q : D → Prop) (E : Str → Prop) : m_order_in ds Q E = fn0 2 b1_order_in ds Q E := propext Iff.rfl
def b1_distance : FS := (sSet 4 (eCb m_home_of (aCons (eVar 0) (aCons (eVar 1) (aCons (eVar 3) aNil)))))
theorem b1_distance_r (Γ : DL.Env) (k : KS) : b1_distance Γ k = (sSet 4 (eCb m_home_of (aCons (eVar 0) (aCons (eVar 1) (aCons (eVar 3) aNil))))) Γ k := propext Iff.rfl
def b2_distance : FS := (sRet (eIf (tB1 (eOp (eqD false) (eOp idxD (eVar 0) (eC (.int 2))) (eC (.str "up")))) (eOp modD (eOp subD (eVar 2) (eVar 4)) (eVar 3)) (eOp modD (eOp subD (eVar 4) (eVar 2)) (eVar 3))))
theorem b2_distance_r (Γ : DL.Env) (k : KS) : b2_distance Γ k = (sRet (eIf (tB1 (eOp (eqD false) (eOp idxD (eVar 0) (eC (.int 2))) (eC (.str "up")))) (eOp modD (eOp subD (eVar 2) (eVar 4)) (eVar 3)) (eOp modD (eOp subD (eVar 4) (eVar 2)) (eVar 3)))) Γ k := propext Iff.rfl
def m_distance : List D → WD D := fn0 5
    (sSeq b1_distance
    b2_distance)
theorem m_distance_r (ds : List D) (Q : D → Prop) (E : Str → Prop) : m_distance ds Q E = fn0 5 (sSeq b1_distance
    b2_distance) ds Q E := propext Iff.rfl
def b1_used_in : FS := (sRet (eCb (one1 lenD) (aCons (eCb m_keys_in (aCons (eVar 0) (aCons (eVar 1) aNil))) aNil)))
theorem b1_used_in_r (Γ : DL.Env) (k : KS) : b1_used_in Γ k = (sRet (eCb (one1 lenD) (aCons (eCb m_keys_in (aCons (eVar 0) (aCons (eVar 1) aNil))) aNil))) Γ k := propext Iff.rfl
def b2_used_in : FS := (sIf (tB1 (eOp (eqD false) (eOp idxD (eVar 0) (eC (.int 0))) (eC (.str "rows")))) b1_used_in sNext)
theorem b2_used_in_r (Γ : DL.Env) (k : KS) : b2_used_in Γ k = (sIf (tB1 (eOp (eqD false) (eOp idxD (eVar 0) (eC (.int 0))) (eC (.str "rows")))) b1_used_in sNext) Γ k := propext Iff.rfl
def b3_used_in : FS := (sRet (eCb (one1 lenD) (aCons (eOfF (eLc (sItems (eVar 1)) (.name 2) [2] (tB1 (eOp (eqD true) (eVar 2) (eC (.int (-1))))) (eVar 2))) aNil)))
theorem b3_used_in_r (Γ : DL.Env) (k : KS) : b3_used_in Γ k = (sRet (eCb (one1 lenD) (aCons (eOfF (eLc (sItems (eVar 1)) (.name 2) [2] (tB1 (eOp (eqD true) (eVar 2) (eC (.int (-1))))) (eVar 2))) aNil))) Γ k := propext Iff.rfl
def m_used_in : List D → WD D := fn0 3
    (sSeq b2_used_in
    b3_used_in)
theorem m_used_in_r (ds : List D) (Q : D → Prop) (E : Str → Prop) : m_used_in ds Q E = fn0 3 (sSeq b2_used_in
    b3_used_in) ds Q E := propext Iff.rfl
def b1__law_some : FS := (sPar3F 3 4 5 (eOp addD (eC (.int 1)) (eCb m__law_draw (aCons (eVar 0) (aCons (eVar 1) (aCons (eVar 2) aNil))))) (eCb m__law_draw (aCons (eVar 0) (aCons (eVar 1) (aCons (eC (.int 4)) aNil)))) (eLst aNil))
theorem b1__law_some_r (Γ : DL.Env) (k : KS) : b1__law_some Γ k = (sPar3F 3 4 5 (eOp addD (eC (.int 1)) (eCb m__law_draw (aCons (eVar 0) (aCons (eVar 1) (aCons (eVar 2) aNil))))) (eCb m__law_draw (aCons (eVar 0) (aCons (eVar 1) (aCons (eC (.int 4)) aNil)))) (eLst aNil)) Γ k := propext Iff.rfl
def b2__law_some : FS := (sSet 6 (eCb m__law_draw (aCons (eVar 0) (aCons (eVar 1) (aCons (eC (.int 32)) aNil)))))
theorem b2__law_some_r (Γ : DL.Env) (k : KS) : b2__law_some Γ k = (sSet 6 (eCb m__law_draw (aCons (eVar 0) (aCons (eVar 1) (aCons (eC (.int 32)) aNil))))) Γ k := propext Iff.rfl
def b3__law_some : FS := (sSet 6 (eOp addD (eVar 4) (eOp mulD (eOp fdivD (eVar 6) (eC (.int 4))) (eC (.int 4)))))
theorem b3__law_some_r (Γ : DL.Env) (k : KS) : b3__law_some Γ k = (sSet 6 (eOp addD (eVar 4) (eOp mulD (eOp fdivD (eVar 6) (eC (.int 4))) (eC (.int 4))))) Γ k := propext Iff.rfl
def b4__law_some : FS := (sIf (tB1 (eOp gtD (eCb m__law_draw (aCons (eVar 0) (aCons (eVar 1) (aCons (eC (.int 3)) aNil)))) (eC (.int 0)))) b3__law_some sNext)
theorem b4__law_some_r (Γ : DL.Env) (k : KS) : b4__law_some Γ k = (sIf (tB1 (eOp gtD (eCb m__law_draw (aCons (eVar 0) (aCons (eVar 1) (aCons (eC (.int 3)) aNil)))) (eC (.int 0)))) b3__law_some sNext) Γ k := propext Iff.rfl
def b5__law_some : FS := (sSet 6 (eOp modD (eOp addD (eVar 6) (eC (.int 1))) (eC (.int 32))))
theorem b5__law_some_r (Γ : DL.Env) (k : KS) : b5__law_some Γ k = (sSet 6 (eOp modD (eOp addD (eVar 6) (eC (.int 1))) (eC (.int 32)))) Γ k := propext Iff.rfl
def b6__law_some : FS := (sWhile (tB1 (eOp (inD false) (eVar 6) (eVar 5))) b5__law_some)
theorem b6__law_some_r (Γ : DL.Env) (k : KS) : b6__law_some Γ k = (sWhile (tB1 (eOp (inD false) (eVar 6) (eVar 5))) b5__law_some) Γ k := propext Iff.rfl
def b7__law_some : FS := (sSeq b2__law_some
    (sSeq b4__law_some
    (sSeq b6__law_some
    (sApp 5 (eVar 6)))))
theorem b7__law_some_r (Γ : DL.Env) (k : KS) : b7__law_some Γ k = (sSeq b2__law_some
    (sSeq b4__law_some
    (sSeq b6__law_some
    (sApp 5 (eVar 6))))) Γ k := propext Iff.rfl
def b8__law_some : FS := (sWhile (tB1 (eOp ltD (eCb (one1 lenD) (aCons (eVar 5) aNil)) (eVar 3))) b7__law_some)
theorem b8__law_some_r (Γ : DL.Env) (k : KS) : b8__law_some Γ k = (sWhile (tB1 (eOp ltD (eCb (one1 lenD) (aCons (eVar 5) aNil)) (eVar 3))) b7__law_some) Γ k := propext Iff.rfl
def b9__law_some : FS := (sRet (eCb (one1 tupleD) (aCons (eOfF (eCbF (one1F sortD) (aCons (eVar 5) aNil))) aNil)))
theorem b9__law_some_r (Γ : DL.Env) (k : KS) : b9__law_some Γ k = (sRet (eCb (one1 tupleD) (aCons (eOfF (eCbF (one1F sortD) (aCons (eVar 5) aNil))) aNil))) Γ k := propext Iff.rfl
def m__law_some : List D → WD D := fn0 7
    (sSeq b1__law_some
    (sSeq b8__law_some
    b9__law_some))
theorem m__law_some_r (ds : List D) (Q : D → Prop) (E : Str → Prop) : m__law_some ds Q E = fn0 7 (sSeq b1__law_some
    (sSeq b8__law_some
    b9__law_some)) ds Q E := propext Iff.rfl
def b1__law_deeds : FS := (sSet 6 (eOp idxD (eTup (aCons (eC (.str "put")) (aCons (eC (.str "put")) (aCons (eC (.str "put")) (aCons (eC (.str "take")) (aCons (eC (.str "take")) (aCons (eC (.str "ask")) aNil))))))) (eCb m__law_draw (aCons (eVar 0) (aCons (eVar 1) (aCons (eC (.int 6)) aNil))))))
theorem b1__law_deeds_r (Γ : DL.Env) (k : KS) : b1__law_deeds Γ k = (sSet 6 (eOp idxD (eTup (aCons (eC (.str "put")) (aCons (eC (.str "put")) (aCons (eC (.str "put")) (aCons (eC (.str "take")) (aCons (eC (.str "take")) (aCons (eC (.str "ask")) aNil))))))) (eCb m__law_draw (aCons (eVar 0) (aCons (eVar 1) (aCons (eC (.int 6)) aNil)))))) Γ k := propext Iff.rfl
def b2__law_deeds : FS := (sApp 4 (eTup (aCons (eVar 6) (aCons (eOp idxD (eVar 2) (eCb m__law_draw (aCons (eVar 0) (aCons (eVar 1) (aCons (eCb (one1 lenD) (aCons (eVar 2) aNil)) aNil))))) aNil))))
theorem b2__law_deeds_r (Γ : DL.Env) (k : KS) : b2__law_deeds Γ k = (sApp 4 (eTup (aCons (eVar 6) (aCons (eOp idxD (eVar 2) (eCb m__law_draw (aCons (eVar 0) (aCons (eVar 1) (aCons (eCb (one1 lenD) (aCons (eVar 2) aNil)) aNil))))) aNil)))) Γ k := propext Iff.rfl
def b3__law_deeds : FS := (sFor (eCbF rng1 (aCons (eCb m__law_draw (aCons (eVar 0) (aCons (eVar 1) (aCons (eOp addD (eVar 3) (eC (.int 1))) aNil)))) aNil)) (.name 5) (sSeq b1__law_deeds
    b2__law_deeds))
theorem b3__law_deeds_r (Γ : DL.Env) (k : KS) : b3__law_deeds Γ k = (sFor (eCbF rng1 (aCons (eCb m__law_draw (aCons (eVar 0) (aCons (eVar 1) (aCons (eOp addD (eVar 3) (eC (.int 1))) aNil)))) aNil)) (.name 5) (sSeq b1__law_deeds
    b2__law_deeds)) Γ k := propext Iff.rfl
def m__law_deeds : List D → WD D := fn0 7
    (sSeq (sSetF 4 (eLst aNil))
    (sSeq b3__law_deeds
    (sRet (eCb (one1 tupleD) (aCons (eVar 4) aNil)))))
theorem m__law_deeds_r (ds : List D) (Q : D → Prop) (E : Str → Prop) : m__law_deeds ds Q E = fn0 7 (sSeq (sSetF 4 (eLst aNil))
    (sSeq b3__law_deeds
    (sRet (eCb (one1 tupleD) (aCons (eVar 4) aNil))))) ds Q E := propext Iff.rfl
def b1_is_way : FS := (sIf (tOrD (tNotD (tB1 (eUn1 (isiD "tuple") (eVar 0)))) (tOrD (tB1 (eOp (eqD false) (eVar 0) (eTup aNil))) (tNotD (tB1 (eCb m_is_word (aCons (eOp idxD (eVar 0) (eC (.int 0))) (aCons (eTup (aCons (eC (.str "slots")) (aCons (eC (.str "rows")) aNil))) aNil))))))) (sRet (eC (.bool false))) sNext)
theorem b1_is_way_r (Γ : DL.Env) (k : KS) : b1_is_way Γ k = (sIf (tOrD (tNotD (tB1 (eUn1 (isiD "tuple") (eVar 0)))) (tOrD (tB1 (eOp (eqD false) (eVar 0) (eTup aNil))) (tNotD (tB1 (eCb m_is_word (aCons (eOp idxD (eVar 0) (eC (.int 0))) (aCons (eTup (aCons (eC (.str "slots")) (aCons (eC (.str "rows")) aNil))) aNil))))))) (sRet (eC (.bool false))) sNext) Γ k := propext Iff.rfl
def b2_is_way : FS := (sIf (tB1 (eOp (eqD false) (eOp idxD (eVar 0) (eC (.int 0))) (eC (.str "slots")))) (sRet (eCb m_is_slot_way (aCons (eVar 0) aNil))) sNext)
theorem b2_is_way_r (Γ : DL.Env) (k : KS) : b2_is_way Γ k = (sIf (tB1 (eOp (eqD false) (eOp idxD (eVar 0) (eC (.int 0))) (eC (.str "slots")))) (sRet (eCb m_is_slot_way (aCons (eVar 0) aNil))) sNext) Γ k := propext Iff.rfl
def b3_is_way : FS := (sIf (tOrD (tB1 (eOp (eqD true) (eCb (one1 lenD) (aCons (eVar 0) aNil)) (eC (.int 4)))) (tNotD (tB1 (eCb m_is_word (aCons (eOp idxD (eVar 0) (eC (.int 1))) (aCons (eC c_HOMES) aNil)))))) (sRet (eC (.bool false))) sNext)
theorem b3_is_way_r (Γ : DL.Env) (k : KS) : b3_is_way Γ k = (sIf (tOrD (tB1 (eOp (eqD true) (eCb (one1 lenD) (aCons (eVar 0) aNil)) (eC (.int 4)))) (tNotD (tB1 (eCb m_is_word (aCons (eOp idxD (eVar 0) (eC (.int 1))) (aCons (eC c_HOMES) aNil)))))) (sRet (eC (.bool false))) sNext) Γ k := propext Iff.rfl
def b4_is_way : FS := (sRet (eAnd (eCb m_is_word (aCons (eOp idxD (eVar 0) (eC (.int 2))) (aCons (eTup (aCons (eC (.str "front")) (aCons (eC (.str "end")) aNil))) aNil))) (eCb m_is_word (aCons (eOp idxD (eVar 0) (eC (.int 3))) (aCons (eTup (aCons (eC (.str "one")) (aCons (eC (.str "two")) aNil))) aNil)))))
theorem b4_is_way_r (Γ : DL.Env) (k : KS) : b4_is_way Γ k = (sRet (eAnd (eCb m_is_word (aCons (eOp idxD (eVar 0) (eC (.int 2))) (aCons (eTup (aCons (eC (.str "front")) (aCons (eC (.str "end")) aNil))) aNil))) (eCb m_is_word (aCons (eOp idxD (eVar 0) (eC (.int 3))) (aCons (eTup (aCons (eC (.str "one")) (aCons (eC (.str "two")) aNil))) aNil))))) Γ k := propext Iff.rfl
def m_is_way : List D → WD D := fn0 1
    (sSeq b1_is_way
    (sSeq b2_is_way
    (sSeq b3_is_way
    b4_is_way)))
theorem m_is_way_r (ds : List D) (Q : D → Prop) (E : Str → Prop) : m_is_way ds Q E = fn0 1 (sSeq b1_is_way
    (sSeq b2_is_way
    (sSeq b3_is_way
    b4_is_way))) ds Q E := propext Iff.rfl
def b1_is_deed : FS := (sRet (eAnd (eUn1 (isiD "tuple") (eVar 0)) (eAnd (eOp (eqD false) (eCb (one1 lenD) (aCons (eVar 0) aNil)) (eC (.int 2))) (eAnd (eCb m_is_word (aCons (eOp idxD (eVar 0) (eC (.int 0))) (aCons (eC c_KINDS) aNil))) (eCb m_is_key (aCons (eOp idxD (eVar 0) (eC (.int 1))) aNil))))))
theorem b1_is_deed_r (Γ : DL.Env) (k : KS) : b1_is_deed Γ k = (sRet (eAnd (eUn1 (isiD "tuple") (eVar 0)) (eAnd (eOp (eqD false) (eCb (one1 lenD) (aCons (eVar 0) aNil)) (eC (.int 2))) (eAnd (eCb m_is_word (aCons (eOp idxD (eVar 0) (eC (.int 0))) (aCons (eC c_KINDS) aNil))) (eCb m_is_key (aCons (eOp idxD (eVar 0) (eC (.int 1))) aNil)))))) Γ k := propext Iff.rfl
def m_is_deed : List D → WD D := fn0 1
    b1_is_deed
theorem m_is_deed_r (ds : List D) (Q : D → Prop) (E : Str → Prop) : m_is_deed ds Q E = fn0 1 b1_is_deed ds Q E := propext Iff.rfl
def b1_found_at : FS := (sSet 5 (eOp idxD (eVar 1) (eCb m_home_of (aCons (eVar 0) (aCons (eVar 2) (aCons (eCb (one1 lenD) (aCons (eVar 1) aNil)) aNil))))))
theorem b1_found_at_r (Γ : DL.Env) (k : KS) : b1_found_at Γ k = (sSet 5 (eOp idxD (eVar 1) (eCb m_home_of (aCons (eVar 0) (aCons (eVar 2) (aCons (eCb (one1 lenD) (aCons (eVar 1) aNil)) aNil)))))) Γ k := propext Iff.rfl
def b2_found_at : FS := (sRet (eTup (aCons (eCb m_home_of (aCons (eVar 0) (aCons (eVar 2) (aCons (eCb (one1 lenD) (aCons (eVar 1) aNil)) aNil)))) (aCons (eOp addD (eMt plcD (eVar 5) (eVar 2)) (eC (.int 1))) aNil))))
theorem b2_found_at_r (Γ : DL.Env) (k : KS) : b2_found_at Γ k = (sRet (eTup (aCons (eCb m_home_of (aCons (eVar 0) (aCons (eVar 2) (aCons (eCb (one1 lenD) (aCons (eVar 1) aNil)) aNil)))) (aCons (eOp addD (eMt plcD (eVar 5) (eVar 2)) (eC (.int 1))) aNil)))) Γ k := propext Iff.rfl
def b3_found_at : FS := (sIf (tB1 (eOp (inD false) (eVar 2) (eVar 5))) b2_found_at sNext)
theorem b3_found_at_r (Γ : DL.Env) (k : KS) : b3_found_at Γ k = (sIf (tB1 (eOp (inD false) (eVar 2) (eVar 5))) b2_found_at sNext) Γ k := propext Iff.rfl
def b4_found_at : FS := (sRet (eTup (aCons (eC .none) (aCons (eCb (one1 lenD) (aCons (eVar 5) aNil)) aNil))))
theorem b4_found_at_r (Γ : DL.Env) (k : KS) : b4_found_at Γ k = (sRet (eTup (aCons (eC .none) (aCons (eCb (one1 lenD) (aCons (eVar 5) aNil)) aNil)))) Γ k := propext Iff.rfl
def b5_found_at : FS := (sIf (tB1 (eOp (eqD false) (eOp idxD (eVar 0) (eC (.int 0))) (eC (.str "rows")))) (sSeq b1_found_at
    (sSeq b3_found_at
    b4_found_at)) sNext)
theorem b5_found_at_r (Γ : DL.Env) (k : KS) : b5_found_at Γ k = (sIf (tB1 (eOp (eqD false) (eOp idxD (eVar 0) (eC (.int 0))) (eC (.str "rows")))) (sSeq b1_found_at
    (sSeq b3_found_at
    b4_found_at)) sNext) Γ k := propext Iff.rfl
def b6_found_at : FS := (sIf (tB1 (eOp (eqD false) (eOp idxD (eVar 1) (eVar 4)) (eC (.int (-1))))) (sRet (eTup (aCons (eC .none) (aCons (eVar 3) aNil)))) sNext)
theorem b6_found_at_r (Γ : DL.Env) (k : KS) : b6_found_at Γ k = (sIf (tB1 (eOp (eqD false) (eOp idxD (eVar 1) (eVar 4)) (eC (.int (-1))))) (sRet (eTup (aCons (eC .none) (aCons (eVar 3) aNil)))) sNext) Γ k := propext Iff.rfl
def b7_found_at : FS := (sIf (tB1 (eOp (eqD false) (eOp idxD (eVar 1) (eVar 4)) (eVar 2))) (sRet (eTup (aCons (eVar 4) (aCons (eVar 3) aNil)))) sNext)
theorem b7_found_at_r (Γ : DL.Env) (k : KS) : b7_found_at Γ k = (sIf (tB1 (eOp (eqD false) (eOp idxD (eVar 1) (eVar 4)) (eVar 2))) (sRet (eTup (aCons (eVar 4) (aCons (eVar 3) aNil)))) sNext) Γ k := propext Iff.rfl
def b8_found_at : FS := (sSeq (sAug 3 (fun i j => i + j) (eC (.int 1)))
    (sSeq b6_found_at
    b7_found_at))
theorem b8_found_at_r (Γ : DL.Env) (k : KS) : b8_found_at Γ k = (sSeq (sAug 3 (fun i j => i + j) (eC (.int 1)))
    (sSeq b6_found_at
    b7_found_at)) Γ k := propext Iff.rfl
def b9_found_at : FS := (sFor (sItems (eCb m_walk_of (aCons (eVar 0) (aCons (eVar 2) (aCons (eCb (one1 lenD) (aCons (eVar 1) aNil)) aNil))))) (.name 4) b8_found_at)
theorem b9_found_at_r (Γ : DL.Env) (k : KS) : b9_found_at Γ k = (sFor (sItems (eCb m_walk_of (aCons (eVar 0) (aCons (eVar 2) (aCons (eCb (one1 lenD) (aCons (eVar 1) aNil)) aNil))))) (.name 4) b8_found_at) Γ k := propext Iff.rfl
def m_found_at : List D → WD D := fn0 6
    (sSeq b5_found_at
    (sSeq (sSet 3 (eC (.int 0)))
    (sSeq b9_found_at
    (sRet (eTup (aCons (eC .none) (aCons (eVar 3) aNil)))))))
theorem m_found_at_r (ds : List D) (Q : D → Prop) (E : Str → Prop) : m_found_at ds Q E = fn0 6 (sSeq b5_found_at
    (sSeq (sSet 3 (eC (.int 0)))
    (sSeq b9_found_at
    (sRet (eTup (aCons (eC .none) (aCons (eVar 3) aNil))))))) ds Q E := propext Iff.rfl
def b1_placed : FS := (sSet 4 (eCb m_home_of (aCons (eVar 0) (aCons (eVar 2) (aCons (eVar 3) aNil)))))
theorem b1_placed_r (Γ : DL.Env) (k : KS) : b1_placed Γ k = (sSet 4 (eCb m_home_of (aCons (eVar 0) (aCons (eVar 2) (aCons (eVar 3) aNil))))) Γ k := propext Iff.rfl
def b2_placed : FS := (sRet (eCb m_with_slot (aCons (eVar 1) (aCons (eVar 4) (aCons (eIf (tB1 (eOp (eqD false) (eOp idxD (eVar 0) (eC (.int 2))) (eC (.str "front")))) (eOp addD (eTup (aCons (eVar 2) aNil)) (eVar 5)) (eOp addD (eVar 5) (eTup (aCons (eVar 2) aNil)))) aNil)))))
theorem b2_placed_r (Γ : DL.Env) (k : KS) : b2_placed Γ k = (sRet (eCb m_with_slot (aCons (eVar 1) (aCons (eVar 4) (aCons (eIf (tB1 (eOp (eqD false) (eOp idxD (eVar 0) (eC (.int 2))) (eC (.str "front")))) (eOp addD (eTup (aCons (eVar 2) aNil)) (eVar 5)) (eOp addD (eVar 5) (eTup (aCons (eVar 2) aNil)))) aNil))))) Γ k := propext Iff.rfl
def b3_placed : FS := (sIf (tB1 (eOp (eqD false) (eOp idxD (eVar 0) (eC (.int 0))) (eC (.str "rows")))) (sSeq b1_placed
    (sSeq (sSet 5 (eOp idxD (eVar 1) (eVar 4)))
    b2_placed)) sNext)
theorem b3_placed_r (Γ : DL.Env) (k : KS) : b3_placed Γ k = (sIf (tB1 (eOp (eqD false) (eOp idxD (eVar 0) (eC (.int 0))) (eC (.str "rows")))) (sSeq b1_placed
    (sSeq (sSet 5 (eOp idxD (eVar 1) (eVar 4)))
    b2_placed)) sNext) Γ k := propext Iff.rfl
def b4_placed : FS := (sSet 6 (eIf (tB1 (eOp (eqD false) (eOp idxD (eVar 0) (eC (.int 3))) (eC (.str "late")))) (eTup (aCons (eC (.int (-1))) (aCons (eC (.int (-2))) aNil))) (eTup (aCons (eC (.int (-1))) aNil))))
theorem b4_placed_r (Γ : DL.Env) (k : KS) : b4_placed Γ k = (sSet 6 (eIf (tB1 (eOp (eqD false) (eOp idxD (eVar 0) (eC (.int 3))) (eC (.str "late")))) (eTup (aCons (eC (.int (-1))) (aCons (eC (.int (-2))) aNil))) (eTup (aCons (eC (.int (-1))) aNil)))) Γ k := propext Iff.rfl
def b5_placed : FS := (sRet (eCb m_with_slot (aCons (eVar 1) (aCons (eOp idxD (eOfF (eLc (sItems (eCb m_walk_of (aCons (eVar 0) (aCons (eVar 2) (aCons (eVar 3) aNil))))) (.name 4) [4] (tB1 (eOp (inD false) (eOp idxD (eVar 1) (eVar 4)) (eVar 6))) (eVar 4))) (eC (.int 0))) (aCons (eVar 2) aNil)))))
theorem b5_placed_r (Γ : DL.Env) (k : KS) : b5_placed Γ k = (sRet (eCb m_with_slot (aCons (eVar 1) (aCons (eOp idxD (eOfF (eLc (sItems (eCb m_walk_of (aCons (eVar 0) (aCons (eVar 2) (aCons (eVar 3) aNil))))) (.name 4) [4] (tB1 (eOp (inD false) (eOp idxD (eVar 1) (eVar 4)) (eVar 6))) (eVar 4))) (eC (.int 0))) (aCons (eVar 2) aNil))))) Γ k := propext Iff.rfl
def b6_placed : FS := (sIf (tB1 (eOp (inD false) (eOp idxD (eVar 0) (eC (.int 3))) (eTup (aCons (eC (.str "late")) (aCons (eC (.str "empty")) aNil))))) (sSeq b4_placed
    b5_placed) sNext)
theorem b6_placed_r (Γ : DL.Env) (k : KS) : b6_placed Γ k = (sIf (tB1 (eOp (inD false) (eOp idxD (eVar 0) (eC (.int 3))) (eTup (aCons (eC (.str "late")) (aCons (eC (.str "empty")) aNil))))) (sSeq b4_placed
    b5_placed) sNext) Γ k := propext Iff.rfl
def b7_placed : FS := (sPar 4 7 (aCons (eCb m_home_of (aCons (eVar 0) (aCons (eVar 2) (aCons (eVar 3) aNil)))) (aCons (eVar 2) aNil)))
theorem b7_placed_r (Γ : DL.Env) (k : KS) : b7_placed Γ k = (sPar 4 7 (aCons (eCb m_home_of (aCons (eVar 0) (aCons (eVar 2) (aCons (eVar 3) aNil)))) (aCons (eVar 2) aNil))) Γ k := propext Iff.rfl
def b8_placed : FS := (sTgt (.tup [(.name 1), (.name 7)]) (eTup (aCons (eCb m_with_slot (aCons (eVar 1) (aCons (eVar 4) (aCons (eVar 7) aNil)))) (aCons (eVar 8) aNil))))
theorem b8_placed_r (Γ : DL.Env) (k : KS) : b8_placed Γ k = (sTgt (.tup [(.name 1), (.name 7)]) (eTup (aCons (eCb m_with_slot (aCons (eVar 1) (aCons (eVar 4) (aCons (eVar 7) aNil)))) (aCons (eVar 8) aNil)))) Γ k := propext Iff.rfl
def b9_placed : FS := (sIf (tOrD (tB1 (eOp (eqD false) (eOp idxD (eVar 0) (eC (.int 3))) (eC (.str "first")))) (tB1 (eOp ltD (eCb m_distance (aCons (eVar 0) (aCons (eVar 8) (aCons (eVar 4) (aCons (eVar 3) aNil))))) (eCb m_distance (aCons (eVar 0) (aCons (eVar 7) (aCons (eVar 4) (aCons (eVar 3) aNil)))))))) b8_placed sNext)
theorem b9_placed_r (Γ : DL.Env) (k : KS) : b9_placed Γ k = (sIf (tOrD (tB1 (eOp (eqD false) (eOp idxD (eVar 0) (eC (.int 3))) (eC (.str "first")))) (tB1 (eOp ltD (eCb m_distance (aCons (eVar 0) (aCons (eVar 8) (aCons (eVar 4) (aCons (eVar 3) aNil))))) (eCb m_distance (aCons (eVar 0) (aCons (eVar 7) (aCons (eVar 4) (aCons (eVar 3) aNil)))))))) b8_placed sNext) Γ k := propext Iff.rfl
def b10_placed : FS := (sSet 4 (eIf (tB1 (eOp (eqD false) (eOp idxD (eVar 0) (eC (.int 2))) (eC (.str "up")))) (eOp modD (eOp addD (eVar 4) (eC (.int 1))) (eVar 3)) (eOp modD (eOp subD (eVar 4) (eC (.int 1))) (eVar 3))))
theorem b10_placed_r (Γ : DL.Env) (k : KS) : b10_placed Γ k = (sSet 4 (eIf (tB1 (eOp (eqD false) (eOp idxD (eVar 0) (eC (.int 2))) (eC (.str "up")))) (eOp modD (eOp addD (eVar 4) (eC (.int 1))) (eVar 3)) (eOp modD (eOp subD (eVar 4) (eC (.int 1))) (eVar 3)))) Γ k := propext Iff.rfl
def b11_placed : FS := (sSeq (sSet 8 (eOp idxD (eVar 1) (eVar 4)))
    (sSeq b9_placed
    b10_placed))
theorem b11_placed_r (Γ : DL.Env) (k : KS) : b11_placed Γ k = (sSeq (sSet 8 (eOp idxD (eVar 1) (eVar 4)))
    (sSeq b9_placed
    b10_placed)) Γ k := propext Iff.rfl
def b12_placed : FS := (sWhile (tB1 (eOp geD (eOp idxD (eVar 1) (eVar 4)) (eC (.int 0)))) b11_placed)
theorem b12_placed_r (Γ : DL.Env) (k : KS) : b12_placed Γ k = (sWhile (tB1 (eOp geD (eOp idxD (eVar 1) (eVar 4)) (eC (.int 0)))) b11_placed) Γ k := propext Iff.rfl
def b13_placed : FS := (sRet (eCb m_with_slot (aCons (eVar 1) (aCons (eVar 4) (aCons (eVar 7) aNil)))))
theorem b13_placed_r (Γ : DL.Env) (k : KS) : b13_placed Γ k = (sRet (eCb m_with_slot (aCons (eVar 1) (aCons (eVar 4) (aCons (eVar 7) aNil))))) Γ k := propext Iff.rfl
def m_placed : List D → WD D := fn0 9
    (sSeq (sSet 3 (eCb (one1 lenD) (aCons (eVar 1) aNil)))
    (sSeq b3_placed
    (sSeq b6_placed
    (sSeq b7_placed
    (sSeq b12_placed
    b13_placed)))))
theorem m_placed_r (ds : List D) (Q : D → Prop) (E : Str → Prop) : m_placed ds Q E = fn0 9 (sSeq (sSet 3 (eCb (one1 lenD) (aCons (eVar 1) aNil)))
    (sSeq b3_placed
    (sSeq b6_placed
    (sSeq b7_placed
    (sSeq b12_placed
    b13_placed))))) ds Q E := propext Iff.rfl
def b1_pulled : FS := (sPar 1 4 (aCons (eCb m_with_slot (aCons (eVar 1) (aCons (eVar 2) (aCons (eC (.int (-1))) aNil)))) (aCons (eVar 2) aNil)))
theorem b1_pulled_r (Γ : DL.Env) (k : KS) : b1_pulled Γ k = (sPar 1 4 (aCons (eCb m_with_slot (aCons (eVar 1) (aCons (eVar 2) (aCons (eC (.int (-1))) aNil)))) (aCons (eVar 2) aNil))) Γ k := propext Iff.rfl
def b2_pulled : FS := (sSet 4 (eIf (tB1 (eOp (eqD false) (eOp idxD (eVar 0) (eC (.int 2))) (eC (.str "up")))) (eOp modD (eOp addD (eVar 4) (eC (.int 1))) (eVar 3)) (eOp modD (eOp subD (eVar 4) (eC (.int 1))) (eVar 3))))
theorem b2_pulled_r (Γ : DL.Env) (k : KS) : b2_pulled Γ k = (sSet 4 (eIf (tB1 (eOp (eqD false) (eOp idxD (eVar 0) (eC (.int 2))) (eC (.str "up")))) (eOp modD (eOp addD (eVar 4) (eC (.int 1))) (eVar 3)) (eOp modD (eOp subD (eVar 4) (eC (.int 1))) (eVar 3)))) Γ k := propext Iff.rfl
def b3_pulled : FS := (sIf (tB1 (eOp (eqD false) (eOp idxD (eVar 1) (eVar 4)) (eC (.int (-1))))) (sRet (eVar 1)) sNext)
theorem b3_pulled_r (Γ : DL.Env) (k : KS) : b3_pulled Γ k = (sIf (tB1 (eOp (eqD false) (eOp idxD (eVar 1) (eVar 4)) (eC (.int (-1))))) (sRet (eVar 1)) sNext) Γ k := propext Iff.rfl
def b4_pulled : FS := (sSet 1 (eCb m_with_slot (aCons (eCb m_with_slot (aCons (eVar 1) (aCons (eVar 2) (aCons (eVar 5) aNil)))) (aCons (eVar 4) (aCons (eC (.int (-1))) aNil)))))
theorem b4_pulled_r (Γ : DL.Env) (k : KS) : b4_pulled Γ k = (sSet 1 (eCb m_with_slot (aCons (eCb m_with_slot (aCons (eVar 1) (aCons (eVar 2) (aCons (eVar 5) aNil)))) (aCons (eVar 4) (aCons (eC (.int (-1))) aNil))))) Γ k := propext Iff.rfl
def b5_pulled : FS := (sIf (tB1 (eOp leD (eCb m_distance (aCons (eVar 0) (aCons (eVar 5) (aCons (eVar 2) (aCons (eVar 3) aNil))))) (eCb m_distance (aCons (eVar 0) (aCons (eVar 5) (aCons (eVar 4) (aCons (eVar 3) aNil))))))) (sSeq b4_pulled
    (sSet 2 (eVar 4))) sNext)
theorem b5_pulled_r (Γ : DL.Env) (k : KS) : b5_pulled Γ k = (sIf (tB1 (eOp leD (eCb m_distance (aCons (eVar 0) (aCons (eVar 5) (aCons (eVar 2) (aCons (eVar 3) aNil))))) (eCb m_distance (aCons (eVar 0) (aCons (eVar 5) (aCons (eVar 4) (aCons (eVar 3) aNil))))))) (sSeq b4_pulled
    (sSet 2 (eVar 4))) sNext) Γ k := propext Iff.rfl
def b6_pulled : FS := (sSeq b2_pulled
    (sSeq b3_pulled
    (sSeq (sSet 5 (eOp idxD (eVar 1) (eVar 4)))
    b5_pulled)))
theorem b6_pulled_r (Γ : DL.Env) (k : KS) : b6_pulled Γ k = (sSeq b2_pulled
    (sSeq b3_pulled
    (sSeq (sSet 5 (eOp idxD (eVar 1) (eVar 4)))
    b5_pulled))) Γ k := propext Iff.rfl
def m_pulled : List D → WD D := fn0 6
    (sSeq (sSet 3 (eCb (one1 lenD) (aCons (eVar 1) aNil)))
    (sSeq b1_pulled
    (sWhile (tB1 (eC (.bool true))) b6_pulled)))
theorem m_pulled_r (ds : List D) (Q : D → Prop) (E : Str → Prop) : m_pulled ds Q E = fn0 6 (sSeq (sSet 3 (eCb (one1 lenD) (aCons (eVar 1) aNil)))
    (sSeq b1_pulled
    (sWhile (tB1 (eC (.bool true))) b6_pulled))) ds Q E := propext Iff.rfl
def b1_seen_of : FS := (sIf (tB1 (eOp (eqD false) (eVar 3) (eC (.str "looks")))) (sRet (eVar 2)) sNext)
theorem b1_seen_of_r (Γ : DL.Env) (k : KS) : b1_seen_of Γ k = (sIf (tB1 (eOp (eqD false) (eVar 3) (eC (.str "looks")))) (sRet (eVar 2)) sNext) Γ k := propext Iff.rfl
def b2_seen_of : FS := (sRet (eIf (tB1 (eOp (eqD false) (eVar 3) (eC (.str "order")))) (eCb m_order_in (aCons (eVar 0) (aCons (eVar 1) aNil))) (eTup (aCons (eVar 2) (aCons (eCb m_order_in (aCons (eVar 0) (aCons (eVar 1) aNil))) aNil)))))
theorem b2_seen_of_r (Γ : DL.Env) (k : KS) : b2_seen_of Γ k = (sRet (eIf (tB1 (eOp (eqD false) (eVar 3) (eC (.str "order")))) (eCb m_order_in (aCons (eVar 0) (aCons (eVar 1) aNil))) (eTup (aCons (eVar 2) (aCons (eCb m_order_in (aCons (eVar 0) (aCons (eVar 1) aNil))) aNil))))) Γ k := propext Iff.rfl
def m_seen_of : List D → WD D := fn0 4
    (sSeq b1_seen_of
    b2_seen_of)
theorem m_seen_of_r (ds : List D) (Q : D → Prop) (E : Str → Prop) : m_seen_of ds Q E = fn0 4 (sSeq b1_seen_of
    b2_seen_of) ds Q E := propext Iff.rfl
def b1_check_way : FS := (sIf (tNotD (tB1 (eCb m_is_way (aCons (eVar 0) aNil)))) sNever sNext)
theorem b1_check_way_r (Γ : DL.Env) (k : KS) : b1_check_way Γ k = (sIf (tNotD (tB1 (eCb m_is_way (aCons (eVar 0) aNil)))) sNever sNext) Γ k := propext Iff.rfl
def m_check_way : List D → WD D := fn0 1
    b1_check_way
theorem m_check_way_r (ds : List D) (Q : D → Prop) (E : Str → Prop) : m_check_way ds Q E = fn0 1 b1_check_way ds Q E := propext Iff.rfl
def b1_is_row : FS := (sRet (eAnd (eUn1 (isiD "tuple") (eVar 0)) (eAnd (eOp leD (eCb (one1 lenD) (aCons (eVar 0) aNil)) (eC (.int 24))) (eCb (one1 allD) (aCons (eOfF (eLc (sItems (eVar 0)) (.name 1) [1] tYesD (eCb m_is_deed (aCons (eVar 1) aNil)))) aNil)))))
theorem b1_is_row_r (Γ : DL.Env) (k : KS) : b1_is_row Γ k = (sRet (eAnd (eUn1 (isiD "tuple") (eVar 0)) (eAnd (eOp leD (eCb (one1 lenD) (aCons (eVar 0) aNil)) (eC (.int 24))) (eCb (one1 allD) (aCons (eOfF (eLc (sItems (eVar 0)) (.name 1) [1] tYesD (eCb m_is_deed (aCons (eVar 1) aNil)))) aNil))))) Γ k := propext Iff.rfl
def m_is_row : List D → WD D := fn0 2
    b1_is_row
theorem m_is_row_r (ds : List D) (Q : D → Prop) (E : Str → Prop) : m_is_row ds Q E = fn0 2 b1_is_row ds Q E := propext Iff.rfl
def b1_laid_anew : FS := (sSet 3 (eCb m_begun (aCons (eVar 0) (aCons (eVar 2) aNil))))
theorem b1_laid_anew_r (Γ : DL.Env) (k : KS) : b1_laid_anew Γ k = (sSet 3 (eCb m_begun (aCons (eVar 0) (aCons (eVar 2) aNil)))) Γ k := propext Iff.rfl
def b2_laid_anew : FS := (sSet 3 (eCb m_placed (aCons (eVar 0) (aCons (eVar 3) (aCons (eVar 4) aNil)))))
theorem b2_laid_anew_r (Γ : DL.Env) (k : KS) : b2_laid_anew Γ k = (sSet 3 (eCb m_placed (aCons (eVar 0) (aCons (eVar 3) (aCons (eVar 4) aNil))))) Γ k := propext Iff.rfl
def b3_laid_anew : FS := (sFor (sItems (eCb m_each_once (aCons (eCb m_keys_in (aCons (eVar 0) (aCons (eVar 1) aNil))) aNil))) (.name 4) b2_laid_anew)
theorem b3_laid_anew_r (Γ : DL.Env) (k : KS) : b3_laid_anew Γ k = (sFor (sItems (eCb m_each_once (aCons (eCb m_keys_in (aCons (eVar 0) (aCons (eVar 1) aNil))) aNil))) (.name 4) b2_laid_anew) Γ k := propext Iff.rfl
def m_laid_anew : List D → WD D := fn0 5
    (sSeq b1_laid_anew
    (sSeq b3_laid_anew
    (sRet (eVar 3))))
theorem m_laid_anew_r (ds : List D) (Q : D → Prop) (E : Str → Prop) : m_laid_anew ds Q E = fn0 5 (sSeq b1_laid_anew
    (sSeq b3_laid_anew
    (sRet (eVar 3)))) ds Q E := propext Iff.rfl
def b1_check_row : FS := (sIf (tNotD (tB1 (eCb m_is_row (aCons (eVar 0) aNil)))) sNever sNext)
theorem b1_check_row_r (Γ : DL.Env) (k : KS) : b1_check_row Γ k = (sIf (tNotD (tB1 (eCb m_is_row (aCons (eVar 0) aNil)))) sNever sNext) Γ k := propext Iff.rfl
def m_check_row : List D → WD D := fn0 1
    b1_check_row
theorem m_check_row_r (ds : List D) (Q : D → Prop) (E : Str → Prop) : m_check_row ds Q E = fn0 1 b1_check_row ds Q E := propext Iff.rfl
def b1_grown : FS := (sIf (tB1 (eOp leD (eOp addD (eCb m_used_in (aCons (eVar 0) (aCons (eVar 1) aNil))) (eC (.int 1))) (eCb m_bound_of (aCons (eVar 0) (aCons (eVar 2) aNil))))) (sRet (eVar 1)) sNext)
theorem b1_grown_r (Γ : DL.Env) (k : KS) : b1_grown Γ k = (sIf (tB1 (eOp leD (eOp addD (eCb m_used_in (aCons (eVar 0) (aCons (eVar 1) aNil))) (eC (.int 1))) (eCb m_bound_of (aCons (eVar 0) (aCons (eVar 2) aNil))))) (sRet (eVar 1)) sNext) Γ k := propext Iff.rfl
def b2_grown : FS := (sRet (eCb m_laid_anew (aCons (eVar 0) (aCons (eVar 1) (aCons (eVar 2) aNil)))))
theorem b2_grown_r (Γ : DL.Env) (k : KS) : b2_grown Γ k = (sRet (eCb m_laid_anew (aCons (eVar 0) (aCons (eVar 1) (aCons (eVar 2) aNil))))) Γ k := propext Iff.rfl
def b3_grown : FS := (sIf (tAndD (tB1 (eOp (eqD false) (eOp idxD (eVar 0) (eC (.int 0))) (eC (.str "slots")))) (tB1 (eOp leD (eOp addD (eCb (one1 lenD) (aCons (eCb m_each_once (aCons (eCb m_keys_in (aCons (eVar 0) (aCons (eVar 1) aNil))) aNil)) aNil)) (eC (.int 1))) (eCb m_bound_of (aCons (eVar 0) (aCons (eVar 2) aNil)))))) b2_grown sNext)
theorem b3_grown_r (Γ : DL.Env) (k : KS) : b3_grown Γ k = (sIf (tAndD (tB1 (eOp (eqD false) (eOp idxD (eVar 0) (eC (.int 0))) (eC (.str "slots")))) (tB1 (eOp leD (eOp addD (eCb (one1 lenD) (aCons (eCb m_each_once (aCons (eCb m_keys_in (aCons (eVar 0) (aCons (eVar 1) aNil))) aNil)) aNil)) (eC (.int 1))) (eCb m_bound_of (aCons (eVar 0) (aCons (eVar 2) aNil)))))) b2_grown sNext) Γ k := propext Iff.rfl
def b4_grown : FS := (sRet (eCb m_laid_anew (aCons (eVar 0) (aCons (eVar 1) (aCons (eOp mulD (eC (.int 2)) (eVar 2)) aNil)))))
theorem b4_grown_r (Γ : DL.Env) (k : KS) : b4_grown Γ k = (sRet (eCb m_laid_anew (aCons (eVar 0) (aCons (eVar 1) (aCons (eOp mulD (eC (.int 2)) (eVar 2)) aNil))))) Γ k := propext Iff.rfl
def m_grown : List D → WD D := fn0 3
    (sSeq (sSet 2 (eCb (one1 lenD) (aCons (eVar 1) aNil)))
    (sSeq b1_grown
    (sSeq b3_grown
    b4_grown)))
theorem m_grown_r (ds : List D) (Q : D → Prop) (E : Str → Prop) : m_grown ds Q E = fn0 3 (sSeq (sSet 2 (eCb (one1 lenD) (aCons (eVar 1) aNil)))
    (sSeq b1_grown
    (sSeq b3_grown
    b4_grown))) ds Q E := propext Iff.rfl
def b1_removed : FS := (sRet (eCb m_with_slot (aCons (eVar 1) (aCons (eVar 2) (aCons (eCb (one1 tupleD) (aCons (eOfF (eLc (sItems (eVar 4)) (.name 5) [5] (tB1 (eOp (eqD true) (eVar 5) (eVar 3))) (eVar 5))) aNil)) aNil)))))
theorem b1_removed_r (Γ : DL.Env) (k : KS) : b1_removed Γ k = (sRet (eCb m_with_slot (aCons (eVar 1) (aCons (eVar 2) (aCons (eCb (one1 tupleD) (aCons (eOfF (eLc (sItems (eVar 4)) (.name 5) [5] (tB1 (eOp (eqD true) (eVar 5) (eVar 3))) (eVar 5))) aNil)) aNil))))) Γ k := propext Iff.rfl
def b2_removed : FS := (sIf (tB1 (eOp (eqD false) (eOp idxD (eVar 0) (eC (.int 0))) (eC (.str "rows")))) (sSeq (sSet 4 (eOp idxD (eVar 1) (eVar 2)))
    b1_removed) sNext)
theorem b2_removed_r (Γ : DL.Env) (k : KS) : b2_removed Γ k = (sIf (tB1 (eOp (eqD false) (eOp idxD (eVar 0) (eC (.int 0))) (eC (.str "rows")))) (sSeq (sSet 4 (eOp idxD (eVar 1) (eVar 2)))
    b1_removed) sNext) Γ k := propext Iff.rfl
def b3_removed : FS := (sRet (eCb m_with_slot (aCons (eVar 1) (aCons (eVar 2) (aCons (eC (.int (-2))) aNil)))))
theorem b3_removed_r (Γ : DL.Env) (k : KS) : b3_removed Γ k = (sRet (eCb m_with_slot (aCons (eVar 1) (aCons (eVar 2) (aCons (eC (.int (-2))) aNil))))) Γ k := propext Iff.rfl
def b4_removed : FS := (sIf (tB1 (eOp (eqD false) (eOp idxD (eVar 0) (eC (.int 4))) (eC (.str "mark")))) b3_removed sNext)
theorem b4_removed_r (Γ : DL.Env) (k : KS) : b4_removed Γ k = (sIf (tB1 (eOp (eqD false) (eOp idxD (eVar 0) (eC (.int 4))) (eC (.str "mark")))) b3_removed sNext) Γ k := propext Iff.rfl
def b5_removed : FS := (sRet (eCb m_pulled (aCons (eVar 0) (aCons (eVar 1) (aCons (eVar 2) aNil)))))
theorem b5_removed_r (Γ : DL.Env) (k : KS) : b5_removed Γ k = (sRet (eCb m_pulled (aCons (eVar 0) (aCons (eVar 1) (aCons (eVar 2) aNil))))) Γ k := propext Iff.rfl
def b6_removed : FS := (sIf (tB1 (eOp (eqD false) (eOp idxD (eVar 0) (eC (.int 4))) (eC (.str "pull")))) b5_removed sNext)
theorem b6_removed_r (Γ : DL.Env) (k : KS) : b6_removed Γ k = (sIf (tB1 (eOp (eqD false) (eOp idxD (eVar 0) (eC (.int 4))) (eC (.str "pull")))) b5_removed sNext) Γ k := propext Iff.rfl
def b7_removed : FS := (sSet 1 (eCb m_with_slot (aCons (eVar 1) (aCons (eVar 2) (aCons (eC (.int (-1))) aNil)))))
theorem b7_removed_r (Γ : DL.Env) (k : KS) : b7_removed Γ k = (sSet 1 (eCb m_with_slot (aCons (eVar 1) (aCons (eVar 2) (aCons (eC (.int (-1))) aNil))))) Γ k := propext Iff.rfl
def b8_removed : FS := (sRet (eIf (tB1 (eOp (eqD false) (eOp idxD (eVar 0) (eC (.int 4))) (eC (.str "hole")))) (eVar 1) (eCb m_laid_anew (aCons (eVar 0) (aCons (eVar 1) (aCons (eCb (one1 lenD) (aCons (eVar 1) aNil)) aNil))))))
theorem b8_removed_r (Γ : DL.Env) (k : KS) : b8_removed Γ k = (sRet (eIf (tB1 (eOp (eqD false) (eOp idxD (eVar 0) (eC (.int 4))) (eC (.str "hole")))) (eVar 1) (eCb m_laid_anew (aCons (eVar 0) (aCons (eVar 1) (aCons (eCb (one1 lenD) (aCons (eVar 1) aNil)) aNil)))))) Γ k := propext Iff.rfl
def m_removed : List D → WD D := fn0 6
    (sSeq b2_removed
    (sSeq b4_removed
    (sSeq b6_removed
    (sSeq b7_removed
    b8_removed))))
theorem m_removed_r (ds : List D) (Q : D → Prop) (E : Str → Prop) : m_removed ds Q E = fn0 6 (sSeq b2_removed
    (sSeq b4_removed
    (sSeq b6_removed
    (sSeq b7_removed
    b8_removed)))) ds Q E := propext Iff.rfl
def b1_done : FS := (sTgt (.tup [(.name 5), (.name 6)]) (eCb m_found_at (aCons (eVar 0) (aCons (eVar 1) (aCons (eVar 4) aNil)))))
theorem b1_done_r (Γ : DL.Env) (k : KS) : b1_done Γ k = (sTgt (.tup [(.name 5), (.name 6)]) (eCb m_found_at (aCons (eVar 0) (aCons (eVar 1) (aCons (eVar 4) aNil))))) Γ k := propext Iff.rfl
def b2_done : FS := (sSet 1 (eCb m_placed (aCons (eVar 0) (aCons (eCb m_grown (aCons (eVar 0) (aCons (eVar 1) aNil))) (aCons (eVar 4) aNil)))))
theorem b2_done_r (Γ : DL.Env) (k : KS) : b2_done Γ k = (sSet 1 (eCb m_placed (aCons (eVar 0) (aCons (eCb m_grown (aCons (eVar 0) (aCons (eVar 1) aNil))) (aCons (eVar 4) aNil))))) Γ k := propext Iff.rfl
def b3_done : FS := (sIf (tAndD (tB1 (eOp (eqD false) (eVar 3) (eC (.str "put")))) (tB1 (eOp (isND false) (eVar 5) (eC .none)))) b2_done sNext)
theorem b3_done_r (Γ : DL.Env) (k : KS) : b3_done Γ k = (sIf (tAndD (tB1 (eOp (eqD false) (eVar 3) (eC (.str "put")))) (tB1 (eOp (isND false) (eVar 5) (eC .none)))) b2_done sNext) Γ k := propext Iff.rfl
def b4_done : FS := (sSet 1 (eCb m_removed (aCons (eVar 0) (aCons (eVar 1) (aCons (eVar 5) (aCons (eVar 4) aNil))))))
theorem b4_done_r (Γ : DL.Env) (k : KS) : b4_done Γ k = (sSet 1 (eCb m_removed (aCons (eVar 0) (aCons (eVar 1) (aCons (eVar 5) (aCons (eVar 4) aNil)))))) Γ k := propext Iff.rfl
def b5_done : FS := (sIf (tAndD (tB1 (eOp (eqD false) (eVar 3) (eC (.str "take")))) (tB1 (eOp (isND true) (eVar 5) (eC .none)))) b4_done sNext)
theorem b5_done_r (Γ : DL.Env) (k : KS) : b5_done Γ k = (sIf (tAndD (tB1 (eOp (eqD false) (eVar 3) (eC (.str "take")))) (tB1 (eOp (isND true) (eVar 5) (eC .none)))) b4_done sNext) Γ k := propext Iff.rfl
def b6_done : FS := (sRet (eTup (aCons (eVar 1) (aCons (eOp (isND true) (eVar 5) (eC .none)) (aCons (eVar 6) aNil)))))
theorem b6_done_r (Γ : DL.Env) (k : KS) : b6_done Γ k = (sRet (eTup (aCons (eVar 1) (aCons (eOp (isND true) (eVar 5) (eC .none)) (aCons (eVar 6) aNil))))) Γ k := propext Iff.rfl
def m_done : List D → WD D := fn0 7
    (sSeq (sTgt (.tup [(.name 3), (.name 4)]) (eVar 2))
    (sSeq b1_done
    (sSeq b3_done
    (sSeq b5_done
    b6_done))))
theorem m_done_r (ds : List D) (Q : D → Prop) (E : Str → Prop) : m_done ds Q E = fn0 7 (sSeq (sTgt (.tup [(.name 3), (.name 4)]) (eVar 2))
    (sSeq b1_done
    (sSeq b3_done
    (sSeq b5_done
    b6_done)))) ds Q E := propext Iff.rfl
def b1_work : FS := (sParFF 3 4 (eLst (aCons (eCb m_begun (aCons (eVar 0) (aCons (eC (.int 4)) aNil))) aNil)) (eLst aNil))
theorem b1_work_r (Γ : DL.Env) (k : KS) : b1_work Γ k = (sParFF 3 4 (eLst (aCons (eCb m_begun (aCons (eVar 0) (aCons (eC (.int 4)) aNil))) aNil)) (eLst aNil)) Γ k := propext Iff.rfl
def b2_work : FS := (sTgtP (.tup [(.name 5), (.name 6), (.name 7)]) (eCb m_done (aCons (eVar 0) (aCons (eOp idxD (eVar 3) (eUn negD (eC (.int 1)))) (aCons (eVar 2) aNil)))))
theorem b2_work_r (Γ : DL.Env) (k : KS) : b2_work Γ k = (sTgtP (.tup [(.name 5), (.name 6), (.name 7)]) (eCb m_done (aCons (eVar 0) (aCons (eOp idxD (eVar 3) (eUn negD (eC (.int 1)))) (aCons (eVar 2) aNil))))) Γ k := propext Iff.rfl
def b3_work : FS := (sSeq b2_work
    (sSeq (sApp 3 (eVar 5))
    (sApp 4 (eTup (aCons (eVar 6) (aCons (eVar 7) aNil))))))
theorem b3_work_r (Γ : DL.Env) (k : KS) : b3_work Γ k = (sSeq b2_work
    (sSeq (sApp 3 (eVar 5))
    (sApp 4 (eTup (aCons (eVar 6) (aCons (eVar 7) aNil)))))) Γ k := propext Iff.rfl
def m_work : List D → WD D := fn0 8
    (sSeq b1_work
    (sSeq (sFor (sItems (eVar 1)) (.name 2) b3_work)
    (sRet (eTup (aCons (eVar 3) (aCons (eVar 4) aNil))))))
theorem m_work_r (ds : List D) (Q : D → Prop) (E : Str → Prop) : m_work ds Q E = fn0 8 (sSeq b1_work
    (sSeq (sFor (sItems (eVar 1)) (.name 2) b3_work)
    (sRet (eTup (aCons (eVar 3) (aCons (eVar 4) aNil)))))) ds Q E := propext Iff.rfl
def b1_seen_along : FS := (sTgt (.tup [(.name 3), (.name 4)]) (eCb m_work (aCons (eVar 0) (aCons (eVar 1) aNil))))
theorem b1_seen_along_r (Γ : DL.Env) (k : KS) : b1_seen_along Γ k = (sTgt (.tup [(.name 3), (.name 4)]) (eCb m_work (aCons (eVar 0) (aCons (eVar 1) aNil)))) Γ k := propext Iff.rfl
def b2_seen_along : FS := (sRet (eCb (one1 tupleD) (aCons (eOfF (eLc (eCbF zipD (aCons (eSl (eVar 3) (oSome (eC (.int 1))) oNone) (aCons (eVar 4) aNil))) (.tup [(.name 5), (.name 6)]) [5, 6] tYesD (eCb m_seen_of (aCons (eVar 0) (aCons (eVar 5) (aCons (eOp idxD (eVar 6) (eC (.int 1))) (aCons (eVar 2) aNil))))))) aNil)))
theorem b2_seen_along_r (Γ : DL.Env) (k : KS) : b2_seen_along Γ k = (sRet (eCb (one1 tupleD) (aCons (eOfF (eLc (eCbF zipD (aCons (eSl (eVar 3) (oSome (eC (.int 1))) oNone) (aCons (eVar 4) aNil))) (.tup [(.name 5), (.name 6)]) [5, 6] tYesD (eCb m_seen_of (aCons (eVar 0) (aCons (eVar 5) (aCons (eOp idxD (eVar 6) (eC (.int 1))) (aCons (eVar 2) aNil))))))) aNil))) Γ k := propext Iff.rfl
def m_seen_along : List D → WD D := fn0 7
    (sSeq b1_seen_along
    b2_seen_along)
theorem m_seen_along_r (ds : List D) (Q : D → Prop) (E : Str → Prop) : m_seen_along ds Q E = fn0 7 (sSeq b1_seen_along
    b2_seen_along) ds Q E := propext Iff.rfl
def m_checked_work : List D → WD D := fn0 2
    (sSeq (sDrop (eCb m_check_way (aCons (eVar 0) aNil)))
    (sSeq (sDrop (eCb m_check_row (aCons (eVar 1) aNil)))
    (sRet (eCb m_work (aCons (eVar 0) (aCons (eVar 1) aNil))))))
theorem m_checked_work_r (ds : List D) (Q : D → Prop) (E : Str → Prop) : m_checked_work ds Q E = fn0 2 (sSeq (sDrop (eCb m_check_way (aCons (eVar 0) aNil)))
    (sSeq (sDrop (eCb m_check_row (aCons (eVar 1) aNil)))
    (sRet (eCb m_work (aCons (eVar 0) (aCons (eVar 1) aNil)))))) ds Q E := propext Iff.rfl
def b1_run : FS := (sRet (eCb m_seen_along (aCons (eVar 0) (aCons (eVar 1) (aCons (eVar 2) aNil)))))
theorem b1_run_r (Γ : DL.Env) (k : KS) : b1_run Γ k = (sRet (eCb m_seen_along (aCons (eVar 0) (aCons (eVar 1) (aCons (eVar 2) aNil))))) Γ k := propext Iff.rfl
def m_run : List D → WD D := fn0 3
    (sSeq (sDrop (eCb m_check_way (aCons (eVar 0) aNil)))
    (sSeq (sDrop (eCb m_check_row (aCons (eVar 1) aNil)))
    (sSeq (sDrop (eCb m_check_sight (aCons (eVar 2) aNil)))
    b1_run)))
theorem m_run_r (ds : List D) (Q : D → Prop) (E : Str → Prop) : m_run ds Q E = fn0 3 (sSeq (sDrop (eCb m_check_way (aCons (eVar 0) aNil)))
    (sSeq (sDrop (eCb m_check_row (aCons (eVar 1) aNil)))
    (sSeq (sDrop (eCb m_check_sight (aCons (eVar 2) aNil)))
    b1_run))) ds Q E := propext Iff.rfl
def b1_table_after : FS := (sRet (eOp idxD (eOp idxD (eCb m_checked_work (aCons (eVar 0) (aCons (eVar 1) aNil))) (eC (.int 0))) (eUn negD (eC (.int 1)))))
theorem b1_table_after_r (Γ : DL.Env) (k : KS) : b1_table_after Γ k = (sRet (eOp idxD (eOp idxD (eCb m_checked_work (aCons (eVar 0) (aCons (eVar 1) aNil))) (eC (.int 0))) (eUn negD (eC (.int 1))))) Γ k := propext Iff.rfl
def m_table_after : List D → WD D := fn0 2
    b1_table_after
theorem m_table_after_r (ds : List D) (Q : D → Prop) (E : Str → Prop) : m_table_after ds Q E = fn0 2 b1_table_after ds Q E := propext Iff.rfl
def b1_were_found : FS := (sRet (eCb (one1 tupleD) (aCons (eOfF (eLc (sItems (eOp idxD (eCb m_checked_work (aCons (eVar 0) (aCons (eVar 1) aNil))) (eC (.int 1)))) (.name 2) [2] tYesD (eOp idxD (eVar 2) (eC (.int 0))))) aNil)))
theorem b1_were_found_r (Γ : DL.Env) (k : KS) : b1_were_found Γ k = (sRet (eCb (one1 tupleD) (aCons (eOfF (eLc (sItems (eOp idxD (eCb m_checked_work (aCons (eVar 0) (aCons (eVar 1) aNil))) (eC (.int 1)))) (.name 2) [2] tYesD (eOp idxD (eVar 2) (eC (.int 0))))) aNil))) Γ k := propext Iff.rfl
def m_were_found : List D → WD D := fn0 3
    b1_were_found
theorem m_were_found_r (ds : List D) (Q : D → Prop) (E : Str → Prop) : m_were_found ds Q E = fn0 3 b1_were_found ds Q E := propext Iff.rfl
def b1_law : FS := (sPar 7 8 (aCons (eCb m__law_some (aCons (eVar 0) (aCons (eVar 1) (aCons (eC (.int 5)) aNil)))) (aCons (eOp idxD (eTup (aCons (eC (.str "up")) (aCons (eC (.str "down")) (aCons (eC (.str "wide")) (aCons (eC (.str "own")) aNil))))) (eCb m__law_draw (aCons (eVar 0) (aCons (eVar 1) (aCons (eC (.int 4)) aNil))))) aNil)))
theorem b1_law_r (Γ : DL.Env) (k : KS) : b1_law Γ k = (sPar 7 8 (aCons (eCb m__law_some (aCons (eVar 0) (aCons (eVar 1) (aCons (eC (.int 5)) aNil)))) (aCons (eOp idxD (eTup (aCons (eC (.str "up")) (aCons (eC (.str "down")) (aCons (eC (.str "wide")) (aCons (eC (.str "own")) aNil))))) (eCb m__law_draw (aCons (eVar 0) (aCons (eVar 1) (aCons (eC (.int 4)) aNil))))) aNil))) Γ k := propext Iff.rfl
def b2_law : FS := (sSet 3 (eOp idxD (eTup (aCons (eC (.str "mark")) (aCons (eC (.str "hole")) (aCons (eC (.str "again")) (aCons (eC (.str "pull")) aNil))))) (eCb m__law_draw (aCons (eVar 0) (aCons (eVar 1) (aCons (eIf (tB1 (eOp (inD false) (eVar 8) (eTup (aCons (eC (.str "up")) (aCons (eC (.str "down")) aNil))))) (eC (.int 4)) (eC (.int 3))) aNil))))))
theorem b2_law_r (Γ : DL.Env) (k : KS) : b2_law Γ k = (sSet 3 (eOp idxD (eTup (aCons (eC (.str "mark")) (aCons (eC (.str "hole")) (aCons (eC (.str "again")) (aCons (eC (.str "pull")) aNil))))) (eCb m__law_draw (aCons (eVar 0) (aCons (eVar 1) (aCons (eIf (tB1 (eOp (inD false) (eVar 8) (eTup (aCons (eC (.str "up")) (aCons (eC (.str "down")) aNil))))) (eC (.int 4)) (eC (.int 3))) aNil)))))) Γ k := propext Iff.rfl
def b3_law : FS := (sPar 9 10 (aCons (eCb m__law_deeds (aCons (eVar 0) (aCons (eVar 1) (aCons (eVar 7) (aCons (eC (.int 20)) aNil))))) (aCons (eOp idxD (eTup (aCons (eC (.str "half")) (aCons (eC (.str "three")) (aCons (eC (.str "full")) aNil)))) (eCb m__law_draw (aCons (eVar 0) (aCons (eVar 1) (aCons (eC (.int 3)) aNil))))) aNil)))
theorem b3_law_r (Γ : DL.Env) (k : KS) : b3_law Γ k = (sPar 9 10 (aCons (eCb m__law_deeds (aCons (eVar 0) (aCons (eVar 1) (aCons (eVar 7) (aCons (eC (.int 20)) aNil))))) (aCons (eOp idxD (eTup (aCons (eC (.str "half")) (aCons (eC (.str "three")) (aCons (eC (.str "full")) aNil)))) (eCb m__law_draw (aCons (eVar 0) (aCons (eVar 1) (aCons (eC (.int 3)) aNil))))) aNil))) Γ k := propext Iff.rfl
def b4_law : FS := (sSet 4 (eOp idxD (eTup (aCons (eC (.str "low")) (aCons (eC (.str "fold")) aNil))) (eCb m__law_draw (aCons (eVar 0) (aCons (eVar 1) (aCons (eC (.int 2)) aNil))))))
theorem b4_law_r (Γ : DL.Env) (k : KS) : b4_law Γ k = (sSet 4 (eOp idxD (eTup (aCons (eC (.str "low")) (aCons (eC (.str "fold")) aNil))) (eCb m__law_draw (aCons (eVar 0) (aCons (eVar 1) (aCons (eC (.int 2)) aNil)))))) Γ k := propext Iff.rfl
def b5_law : FS := (sSet 5 (eTup (aCons (eC (.str "slots")) (aCons (eVar 4) (aCons (eVar 8) (aCons (eC (.str "late")) (aCons (eVar 3) (aCons (eVar 10) aNil))))))))
theorem b5_law_r (Γ : DL.Env) (k : KS) : b5_law Γ k = (sSet 5 (eTup (aCons (eC (.str "slots")) (aCons (eVar 4) (aCons (eVar 8) (aCons (eC (.str "late")) (aCons (eVar 3) (aCons (eVar 10) aNil)))))))) Γ k := propext Iff.rfl
def b6_law : FS := (sSet 6 (eTup (aCons (eC (.str "slots")) (aCons (eVar 4) (aCons (eVar 8) (aCons (eC (.str "empty")) (aCons (eVar 3) (aCons (eVar 10) aNil))))))))
theorem b6_law_r (Γ : DL.Env) (k : KS) : b6_law Γ k = (sSet 6 (eTup (aCons (eC (.str "slots")) (aCons (eVar 4) (aCons (eVar 8) (aCons (eC (.str "empty")) (aCons (eVar 3) (aCons (eVar 10) aNil)))))))) Γ k := propext Iff.rfl
def b7_law : FS := (sIf (tAndD (tB1 (eOp (eqD true) (eCb m_were_found (aCons (eVar 5) (aCons (eVar 9) aNil))) (eCb m_were_found (aCons (eVar 6) (aCons (eVar 9) aNil))))) (tB1 (eOp (eqD true) (eVar 3) (eC (.str "hole"))))) (sRet (eC (.bool false))) sNext)
theorem b7_law_r (Γ : DL.Env) (k : KS) : b7_law Γ k = (sIf (tAndD (tB1 (eOp (eqD true) (eCb m_were_found (aCons (eVar 5) (aCons (eVar 9) aNil))) (eCb m_were_found (aCons (eVar 6) (aCons (eVar 9) aNil))))) (tB1 (eOp (eqD true) (eVar 3) (eC (.str "hole"))))) (sRet (eC (.bool false))) sNext) Γ k := propext Iff.rfl
def b8_law : FS := (sSet 9 (eCb (one1 tupleD) (aCons (eOfF (eLc (sItems (eVar 9)) (.name 11) [11] (tB1 (eOp (eqD true) (eOp idxD (eVar 11) (eC (.int 0))) (eC (.str "take")))) (eVar 11))) aNil)))
theorem b8_law_r (Γ : DL.Env) (k : KS) : b8_law Γ k = (sSet 9 (eCb (one1 tupleD) (aCons (eOfF (eLc (sItems (eVar 9)) (.name 11) [11] (tB1 (eOp (eqD true) (eOp idxD (eVar 11) (eC (.int 0))) (eC (.str "take")))) (eVar 11))) aNil))) Γ k := propext Iff.rfl
def b9_law : FS := (sIf (tB1 (eOp (eqD false) (eVar 3) (eC (.str "mark")))) b8_law sNext)
theorem b9_law_r (Γ : DL.Env) (k : KS) : b9_law Γ k = (sIf (tB1 (eOp (eqD false) (eVar 3) (eC (.str "mark")))) b8_law sNext) Γ k := propext Iff.rfl
def b10_law : FS := (sIf (tB1 (eOp (eqD true) (eCb m_table_after (aCons (eVar 5) (aCons (eVar 9) aNil))) (eCb m_table_after (aCons (eVar 6) (aCons (eVar 9) aNil))))) (sRet (eC (.bool false))) sNext)
theorem b10_law_r (Γ : DL.Env) (k : KS) : b10_law Γ k = (sIf (tB1 (eOp (eqD true) (eCb m_table_after (aCons (eVar 5) (aCons (eVar 9) aNil))) (eCb m_table_after (aCons (eVar 6) (aCons (eVar 9) aNil))))) (sRet (eC (.bool false))) sNext) Γ k := propext Iff.rfl
def b11_law : FS := (sIf (tB1 (eOp (eqD true) (eCb m_run (aCons (eVar 5) (aCons (eVar 9) (aCons (eC (.str "looks")) aNil)))) (eCb m_run (aCons (eVar 6) (aCons (eVar 9) (aCons (eC (.str "looks")) aNil)))))) (sRet (eC (.bool false))) sNext)
theorem b11_law_r (Γ : DL.Env) (k : KS) : b11_law Γ k = (sIf (tB1 (eOp (eqD true) (eCb m_run (aCons (eVar 5) (aCons (eVar 9) (aCons (eC (.str "looks")) aNil)))) (eCb m_run (aCons (eVar 6) (aCons (eVar 9) (aCons (eC (.str "looks")) aNil)))))) (sRet (eC (.bool false))) sNext) Γ k := propext Iff.rfl
def b12_law : FS := (sSeq b1_law
    (sSeq b2_law
    (sSeq b3_law
    (sSeq b4_law
    (sSeq b5_law
    (sSeq b6_law
    (sSeq b7_law
    (sSeq b9_law
    (sSeq b10_law
    b11_law)))))))))
theorem b12_law_r (Γ : DL.Env) (k : KS) : b12_law Γ k = (sSeq b1_law
    (sSeq b2_law
    (sSeq b3_law
    (sSeq b4_law
    (sSeq b5_law
    (sSeq b6_law
    (sSeq b7_law
    (sSeq b9_law
    (sSeq b10_law
    b11_law))))))))) Γ k := propext Iff.rfl
def b13_law : FS := (sFor (eCbF rng1 (aCons (eC (.int 8)) aNil)) (.name 2) b12_law)
theorem b13_law_r (Γ : DL.Env) (k : KS) : b13_law Γ k = (sFor (eCbF rng1 (aCons (eC (.int 8)) aNil)) (.name 2) b12_law) Γ k := propext Iff.rfl
def m_law : List D → WD D := fn0 12
    (sSeq (sSet 1 (fun _ Q Ed => m__law_begun [] Q Ed))
    (sSeq b13_law
    (sRet (eC (.bool true)))))
theorem m_law_r (ds : List D) (Q : D → Prop) (E : Str → Prop) : m_law ds Q E = fn0 12 (sSeq (sSet 1 (fun _ Q Ed => m__law_begun [] Q Ed))
    (sSeq b13_law
    (sRet (eC (.bool true))))) ds Q E := propext Iff.rfl
end G6

namespace G6
open PySem PySem.Spec L2 DL TM
/-! ### ways -/
def rowsW (h c o : String) : D := .tuple [.str (Str.ofString "rows"), .str (Str.ofString h), .str (Str.ofString c), .str (Str.ofString o)]
def slotsW (h st c g gr : String) : D := .tuple [.str (Str.ofString "slots"), .str (Str.ofString h), .str (Str.ofString st), .str (Str.ofString c), .str (Str.ofString g), .str (Str.ofString gr)]
def wayD : Way → D
  | .r h c o => rowsW h c o
  | .s h st c g gr => slotsW h st c g gr
def tabD : Tab → D
  | .r R => .tuple (R.map fun r => .tuple (intsD r))
  | .s T => .tuple (intsD T)
theorem tabD_r (R : List (List Int)) : tabD (.r R) = .tuple (R.map fun r => .tuple (intsD r)) := rfl
theorem tabD_s (T : List Int) : tabD (.s T) = .tuple (intsD T) := rfl
section
variable {Q : D → Prop} {E : Str → Prop}
theorem between_ok {v lo hi : Int} (q : Q (.bool (decide (lo ≤ v ∧ v ≤ hi)))) : m_is_between [.int v, .int lo, .int hi] Q E := by
  simp [b1_is_between_r, m_is_between_r, zaa, zab, zac, zad, zae, zaf, zag, zah, zai, zaj, zak, zal, zam, zan, zao, zap, zaq, zar, zas, zat, zau, zav, zaw, zax, zay, zaz, zaA, zaB, zaC, zaD, zaE, zaF, zaG, zaH, zaI, zaJ, zaK, zaL, zaM, zaN, zaO, zaP, zaQ, zaR, zaS, zaT, zaU, zaV, startE, full, fullE, clean, cleanE, zaW, zaX, zaY, zaZ, zba, zbb, zbc, zbd, zbe, zbf, zbg, zbh, zbi, zbj, zbk, zbl, zbm, zbn, zbo, zbp, zbq, zbr, zbs, zbt, zbu, zbv, zbw, zbx, zby, zbz, zbA, zbB, zbC, zbD, zbE, zbF, zbG, zbH, zbI, zbJ, zbK, zbL, zbM, zbN, zbO, zbP, Bool.bne_false, Bool.bne_true, zbQ, zbR, zbS, zbT, zbU, zbV, zbW, zbX, zbY, zbZ, zca, zcb, zcc, zcd, zce, zcf, zcg, zch, zci, zcj, zck, zcl, zcm, zcn, zco, setAll, wipeR, setV, zcp, zcq, zcr, zcs, zct, zcu, zcv, zcw, zcx, zcy, zcz, zcA, zcB, zcC, List.any_cons, List.any_nil, List.map_cons, List.map_nil, List.length_cons, List.length_nil, List.replicate, Nat.sub_self, List.cons_append, List.nil_append, List.append_nil, List.getElem?_cons_zero, List.getElem?_cons_succ, List.set_cons_zero, List.set_cons_succ, List.set_nil, zcD, zcE, zcF, zcG, zcH, zcI, zcJ, zcK, zcL, zcM, zcN, zcO, zcP, zcQ, zcR, zcS, zcT, zcU, zcV, zcW, zcX, zcY, zcZ, zda, zdb, zdc, zdd, zde, zdf, zdg, zdh, zdi, zdj, zdk, zdl, zdm, zdn, zdo, zdp, zdq, zdr, zds, zdt, zdu, zdv, zdw, zdx, zdy, zdz, zdA, zdB, zdC, zdD, zdE, zdF, zdG]
  by_cases h : lo ≤ v
  · simpa [h] using q
  · simpa [h] using q
theorem way_ok {w : Way} (hd : w.Ok) (q : Q (.bool true)) : m_is_way [wayD w] Q E := by
  cases w with
  | r h c o =>
    obtain ⟨h1, h2, h3⟩ := hd
    simp [b1_is_way_r, b2_is_way_r, b3_is_way_r, b4_is_way_r, m_is_way_r, b1_is_word_r, m_is_word_r, wayD, rowsW, c_HOMES, zaa, zab, zac, zad, zae, zaf, zag, zah, zai, zaj, zak, zal, zam, zan, zao, zap, zaq, zar, zas, zat, zau, zav, zaw, zax, zay, zaz, zaA, zaB, zaC, zaD, zaE, zaF, zaG, zaH, zaI, zaJ, zaK, zaL, zaM, zaN, zaO, zaP, zaQ, zaR, zaS, zaT, zaU, zaV, startE, full, fullE, clean, cleanE, zaW, zaX, zaY, zaZ, zba, zbb, zbc, zbd, zbe, zbf, zbg, zbh, zbi, zbj, zbk, zbl, zbm, zbn, zbo, zbp, zbq, zbr, zbs, zbt, zbu, zbv, zbw, zbx, zby, zbz, zbA, zbB, zbC, zbD, zbE, zbF, zbG, zbH, zbI, zbJ, zbK, zbL, zbM, zbN, zbO, zbP, Bool.bne_false, Bool.bne_true, zbQ, zbR, zbS, zbT, zbU, zbV, zbW, zbX, zbY, zbZ, zca, zcb, zcc, zcd, zce, zcf, zcg, zch, zci, zcj, zck, zcl, zcm, zcn, zco, setAll, wipeR, setV, zcp, zcq, zcr, zcs, zct, zcu, zcv, zcw, zcx, zcy, zcz, zcA, zcB, zcC, List.any_cons, List.any_nil, List.map_cons, List.map_nil, List.length_cons, List.length_nil, List.replicate, Nat.sub_self, List.cons_append, List.nil_append, List.append_nil, List.getElem?_cons_zero, List.getElem?_cons_succ, List.set_cons_zero, List.set_cons_succ, List.set_nil, zcD, zcE, zcF, zcG, zcH, zcI, zcJ, zcK, zcL, zcM, zcN, zcO, zcP, zcQ, zcR, zcS, zcT, zcU, zcV, zcW, zcX, zcY, zcZ, zda, zdb, zdc, zdd, zde, zdf, zdg, zdh, zdi, zdj, zdk, zdl, zdm, zdn, zdo, zdp, zdq, zdr, zds, zdt, zdu, zdv, zdw, zdx, zdy, zdz, zdA, zdB, zdC, zdD, zdE, zdF, zdG]
    rw [if_pos (by rcases h1 with rfl | rfl <;> simp), if_pos (by rcases h2 with rfl | rfl <;> simp)]
    rcases h3 with rfl | rfl <;> simpa using q
  | s h st c g gr =>
    obtain ⟨h1, h2, h3, h4, h5, h6⟩ := hd
    simp [b1_is_way_r, b2_is_way_r, b3_is_way_r, b4_is_way_r, m_is_way_r, b1_is_slot_way_r, b2_is_slot_way_r, b3_is_slot_way_r, m_is_slot_way_r, b1_is_word_r, m_is_word_r, wayD, slotsW, c_HOMES, c_STEPS, c_COMES, c_GONES, c_GROWS, zaa, zab, zac, zad, zae, zaf, zag, zah, zai, zaj, zak, zal, zam, zan, zao, zap, zaq, zar, zas, zat, zau, zav, zaw, zax, zay, zaz, zaA, zaB, zaC, zaD, zaE, zaF, zaG, zaH, zaI, zaJ, zaK, zaL, zaM, zaN, zaO, zaP, zaQ, zaR, zaS, zaT, zaU, zaV, startE, full, fullE, clean, cleanE, zaW, zaX, zaY, zaZ, zba, zbb, zbc, zbd, zbe, zbf, zbg, zbh, zbi, zbj, zbk, zbl, zbm, zbn, zbo, zbp, zbq, zbr, zbs, zbt, zbu, zbv, zbw, zbx, zby, zbz, zbA, zbB, zbC, zbD, zbE, zbF, zbG, zbH, zbI, zbJ, zbK, zbL, zbM, zbN, zbO, zbP, Bool.bne_false, Bool.bne_true, zbQ, zbR, zbS, zbT, zbU, zbV, zbW, zbX, zbY, zbZ, zca, zcb, zcc, zcd, zce, zcf, zcg, zch, zci, zcj, zck, zcl, zcm, zcn, zco, setAll, wipeR, setV, zcp, zcq, zcr, zcs, zct, zcu, zcv, zcw, zcx, zcy, zcz, zcA, zcB, zcC, List.any_cons, List.any_nil, List.map_cons, List.map_nil, List.length_cons, List.length_nil, List.replicate, Nat.sub_self, List.cons_append, List.nil_append, List.append_nil, List.getElem?_cons_zero, List.getElem?_cons_succ, List.set_cons_zero, List.set_cons_succ, List.set_nil, zcD, zcE, zcF, zcG, zcH, zcI, zcJ, zcK, zcL, zcM, zcN, zcO, zcP, zcQ, zcR, zcS, zcT, zcU, zcV, zcW, zcX, zcY, zcZ, zda, zdb, zdc, zdd, zde, zdf, zdg, zdh, zdi, zdj, zdk, zdl, zdm, zdn, zdo, zdp, zdq, zdr, zds, zdt, zdu, zdv, zdw, zdx, zdy, zdz, zdA, zdB, zdC, zdD, zdE, zdF, zdG]
    rw [if_pos (by rcases h1 with rfl | rfl <;> simp), if_pos (by rcases h2 with rfl | rfl | rfl | rfl <;> simp), if_pos (by rcases h3 with rfl | rfl | rfl | rfl <;> simp), if_pos (by rcases h4 with rfl | rfl | rfl | rfl <;> simp), if_pos (by rcases h5 with rfl | rfl | rfl <;> simp)]
    rcases h6 with h6 | ⟨h6, h7⟩
    · rw [if_pos (by rcases h6 with rfl | rfl <;> simp)]
      exact q
    · split
      · exact q
      · rw [if_pos (by rcases h6 with rfl | rfl <;> simp)]
        simpa [h7] using q
theorem check_way_ok {w : Way} (hd : w.Ok) (q : Q .none) : m_check_way [wayD w] Q E := by
  simp only [b1_check_way_r, m_check_way_r, zaa, zab, zac, zad, zae, zaf, zag, zah, zai, zaj, zak, zal, zam, zan, zao, zap, zaq, zar, zas, zat, zau, zav, zaw, zax, zay, zaz, zaA, zaB, zaC, zaD, zaE, zaF, zaG, zaH, zaI, zaJ, zaK, zaL, zaM, zaN, zaO, zaP, zaQ, zaR, zaS, zaT, zaU, zaV, startE, full, fullE, clean, cleanE, zaW, zaX, zaY, zaZ, zba, zbb, zbc, zbd, zbe, zbf, zbg, zbh, zbi, zbj, zbk, zbl, zbm, zbn, zbo, zbp, zbq, zbr, zbs, zbt, zbu, zbv, zbw, zbx, zby, zbz, zbA, zbB, zbC, zbD, zbE, zbF, zbG, zbH, zbI, zbJ, zbK, zbL, zbM, zbN, zbO, zbP, Bool.bne_false, Bool.bne_true, zbQ, zbR, zbS, zbT, zbU, zbV, zbW, zbX, zbY, zbZ, zca, zcb, zcc, zcd, zce, zcf, zcg, zch, zci, zcj, zck, zcl, zcm, zcn, zco, setAll, wipeR, setV, zcp, zcq, zcr, zcs, zct, zcu, zcv, zcw, zcx, zcy, zcz, zcA, zcB, zcC, List.any_cons, List.any_nil, List.map_cons, List.map_nil, List.length_cons, List.length_nil, List.replicate, Nat.sub_self, List.cons_append, List.nil_append, List.append_nil, List.getElem?_cons_zero, List.getElem?_cons_succ, List.set_cons_zero, List.set_cons_succ, List.set_nil, zcD, zcE, zcF, zcG, zcH, zcI, zcJ, zcK, zcL, zcM, zcN, zcO, zcP, zcQ, zcR, zcS, zcT, zcU, zcV, zcW, zcX, zcY, zcZ, zda, zdb, zdc, zdd, zde, zdf, zdg, zdh, zdi, zdj, zdk, zdl, zdm, zdn, zdo, zdp, zdq, zdr, zds, zdt, zdu, zdv, zdw, zdx, zdy, zdz, zdA, zdB, zdC, zdD, zdE, zdF, zdG]
  refine way_ok hd ?_
  simpa [zaa, zab, zac, zad, zae, zaf, zag, zah, zai, zaj, zak, zal, zam, zan, zao, zap, zaq, zar, zas, zat, zau, zav, zaw, zax, zay, zaz, zaA, zaB, zaC, zaD, zaE, zaF, zaG, zaH, zaI, zaJ, zaK, zaL, zaM, zaN, zaO, zaP, zaQ, zaR, zaS, zaT, zaU, zaV, startE, full, fullE, clean, cleanE, zaW, zaX, zaY, zaZ, zba, zbb, zbc, zbd, zbe, zbf, zbg, zbh, zbi, zbj, zbk, zbl, zbm, zbn, zbo, zbp, zbq, zbr, zbs, zbt, zbu, zbv, zbw, zbx, zby, zbz, zbA, zbB, zbC, zbD, zbE, zbF, zbG, zbH, zbI, zbJ, zbK, zbL, zbM, zbN, zbO, zbP, Bool.bne_false, Bool.bne_true, zbQ, zbR, zbS, zbT, zbU, zbV, zbW, zbX, zbY, zbZ, zca, zcb, zcc, zcd, zce, zcf, zcg, zch, zci, zcj, zck, zcl, zcm, zcn, zco, setAll, wipeR, setV, zcp, zcq, zcr, zcs, zct, zcu, zcv, zcw, zcx, zcy, zcz, zcA, zcB, zcC, List.any_cons, List.any_nil, List.map_cons, List.map_nil, List.length_cons, List.length_nil, List.replicate, Nat.sub_self, List.cons_append, List.nil_append, List.append_nil, List.getElem?_cons_zero, List.getElem?_cons_succ, List.set_cons_zero, List.set_cons_succ, List.set_nil, zcD, zcE, zcF, zcG, zcH, zcI, zcJ, zcK, zcL, zcM, zcN, zcO, zcP, zcQ, zcR, zcS, zcT, zcU, zcV, zcW, zcX, zcY, zcZ, zda, zdb, zdc, zdd, zde, zdf, zdg, zdh, zdi, zdj, zdk, zdl, zdm, zdn, zdo, zdp, zdq, zdr, zds, zdt, zdu, zdv, zdw, zdx, zdy, zdz, zdA, zdB, zdC, zdD, zdE, zdF, zdG] using q
/-! ### homes and walks -/
theorem home_rows {h c o : String} {k n : Int} (hn : SizeOk n) (q : Q (.int (homeOf h k n))) : m_home_of [rowsW h c o, .int k, .int n] Q E := by
  have hn0 := (small hn).1
  unfold homeOf foldK at q
  simp [b1_home_of_r, m_home_of_r, rowsW, zaa, zab, zac, zad, zae, zaf, zag, zah, zai, zaj, zak, zal, zam, zan, zao, zap, zaq, zar, zas, zat, zau, zav, zaw, zax, zay, zaz, zaA, zaB, zaC, zaD, zaE, zaF, zaG, zaH, zaI, zaJ, zaK, zaL, zaM, zaN, zaO, zaP, zaQ, zaR, zaS, zaT, zaU, zaV, startE, full, fullE, clean, cleanE, zaW, zaX, zaY, zaZ, zba, zbb, zbc, zbd, zbe, zbf, zbg, zbh, zbi, zbj, zbk, zbl, zbm, zbn, zbo, zbp, zbq, zbr, zbs, zbt, zbu, zbv, zbw, zbx, zby, zbz, zbA, zbB, zbC, zbD, zbE, zbF, zbG, zbH, zbI, zbJ, zbK, zbL, zbM, zbN, zbO, zbP, Bool.bne_false, Bool.bne_true, zbQ, zbR, zbS, zbT, zbU, zbV, zbW, zbX, zbY, zbZ, zca, zcb, zcc, zcd, zce, zcf, zcg, zch, zci, zcj, zck, zcl, zcm, zcn, zco, setAll, wipeR, setV, zcp, zcq, zcr, zcs, zct, zcu, zcv, zcw, zcx, zcy, zcz, zcA, zcB, zcC, List.any_cons, List.any_nil, List.map_cons, List.map_nil, List.length_cons, List.length_nil, List.replicate, Nat.sub_self, List.cons_append, List.nil_append, List.append_nil, List.getElem?_cons_zero, List.getElem?_cons_succ, List.set_cons_zero, List.set_cons_succ, List.set_nil, zcD, zcE, zcF, zcG, zcH, zcI, zcJ, zcK, zcL, zcM, zcN, zcO, zcP, zcQ, zcR, zcS, zcT, zcU, zcV, zcW, zcX, zcY, zcZ, zda, zdb, zdc, zdd, zde, zdf, zdg, zdh, zdi, zdj, zdk, zdl, zdm, zdn, zdo, zdp, zdq, zdr, zds, zdt, zdu, zdv, zdw, zdx, zdy, zdz, zdA, zdB, zdC, zdD, zdE, zdF, zdG]
  split
  · rename_i e
    simp only [e, if_true] at q
    exact ⟨hn0, q⟩
  · rename_i e
    simp only [e, if_false] at q
    exact ⟨⟨by decide, by decide⟩, hn0, q⟩
theorem home_slots {h st c g gr : String} {k n : Int} (hn : SizeOk n) (q : Q (.int (homeOf h k n))) : m_home_of [slotsW h st c g gr, .int k, .int n] Q E := by
  have hn0 := (small hn).1
  unfold homeOf foldK at q
  simp [b1_home_of_r, m_home_of_r, slotsW, zaa, zab, zac, zad, zae, zaf, zag, zah, zai, zaj, zak, zal, zam, zan, zao, zap, zaq, zar, zas, zat, zau, zav, zaw, zax, zay, zaz, zaA, zaB, zaC, zaD, zaE, zaF, zaG, zaH, zaI, zaJ, zaK, zaL, zaM, zaN, zaO, zaP, zaQ, zaR, zaS, zaT, zaU, zaV, startE, full, fullE, clean, cleanE, zaW, zaX, zaY, zaZ, zba, zbb, zbc, zbd, zbe, zbf, zbg, zbh, zbi, zbj, zbk, zbl, zbm, zbn, zbo, zbp, zbq, zbr, zbs, zbt, zbu, zbv, zbw, zbx, zby, zbz, zbA, zbB, zbC, zbD, zbE, zbF, zbG, zbH, zbI, zbJ, zbK, zbL, zbM, zbN, zbO, zbP, Bool.bne_false, Bool.bne_true, zbQ, zbR, zbS, zbT, zbU, zbV, zbW, zbX, zbY, zbZ, zca, zcb, zcc, zcd, zce, zcf, zcg, zch, zci, zcj, zck, zcl, zcm, zcn, zco, setAll, wipeR, setV, zcp, zcq, zcr, zcs, zct, zcu, zcv, zcw, zcx, zcy, zcz, zcA, zcB, zcC, List.any_cons, List.any_nil, List.map_cons, List.map_nil, List.length_cons, List.length_nil, List.replicate, Nat.sub_self, List.cons_append, List.nil_append, List.append_nil, List.getElem?_cons_zero, List.getElem?_cons_succ, List.set_cons_zero, List.set_cons_succ, List.set_nil, zcD, zcE, zcF, zcG, zcH, zcI, zcJ, zcK, zcL, zcM, zcN, zcO, zcP, zcQ, zcR, zcS, zcT, zcU, zcV, zcW, zcX, zcY, zcZ, zda, zdb, zdc, zdd, zde, zdf, zdg, zdh, zdi, zdj, zdk, zdl, zdm, zdn, zdo, zdp, zdq, zdr, zds, zdt, zdu, zdv, zdw, zdx, zdy, zdz, zdA, zdB, zdC, zdD, zdE, zdF, zdG]
  split
  · rename_i e
    simp only [e, if_true] at q
    exact ⟨hn0, q⟩
  · rename_i e
    simp only [e, if_false] at q
    exact ⟨⟨by decide, by decide⟩, hn0, q⟩
theorem cm {i j : Int} (h : -1000000 < i ∧ i < 1000000) : CMul i j := .inl ⟨by omega, by omega⟩
theorem upLen (n : Int) (h : n ≤ 64) : (upTo 0 n.toNat).length ≤ 1000000 := by
  rw [upTo_len]
  omega
theorem walk_slots {h st c g gr : String} {k n : Int} (hn : SizeOk n) (q : Q (.tuple (intsD (pathOf h st k n)))) : m_walk_of [slotsW h st c g gr, .int k, .int n] Q E := by
  obtain ⟨hn0, hn1⟩ := small hn
  simp only [m_walk_of_r, b1_walk_of_r, zaa, zab, zac, zad, zae, zaf, zag, zah, zai, zaj, zak, zal, zam, zan, zao, zap, zaq, zar, zas, zat, zau, zav, zaw, zax, zay, zaz, zaA, zaB, zaC, zaD, zaE, zaF, zaG, zaH, zaI, zaJ, zaK, zaL, zaM, zaN, zaO, zaP, zaQ, zaR, zaS, zaT, zaU, zaV, startE, full, fullE, clean, cleanE, zaW, zaX, zaY, zaZ, zba, zbb, zbc, zbd, zbe, zbf, zbg, zbh, zbi, zbj, zbk, zbl, zbm, zbn, zbo, zbp, zbq, zbr, zbs, zbt, zbu, zbv, zbw, zbx, zby, zbz, zbA, zbB, zbC, zbD, zbE, zbF, zbG, zbH, zbI, zbJ, zbK, zbL, zbM, zbN, zbO, zbP, Bool.bne_false, Bool.bne_true, zbQ, zbR, zbS, zbT, zbU, zbV, zbW, zbX, zbY, zbZ, zca, zcb, zcc, zcd, zce, zcf, zcg, zch, zci, zcj, zck, zcl, zcm, zcn, zco, setAll, wipeR, setV, zcp, zcq, zcr, zcs, zct, zcu, zcv, zcw, zcx, zcy, zcz, zcA, zcB, zcC, List.any_cons, List.any_nil, List.map_cons, List.map_nil, List.length_cons, List.length_nil, List.replicate, Nat.sub_self, List.cons_append, List.nil_append, List.append_nil, List.getElem?_cons_zero, List.getElem?_cons_succ, List.set_cons_zero, List.set_cons_succ, List.set_nil, zcD, zcE, zcF, zcG, zcH, zcI, zcJ, zcK, zcL, zcM, zcN, zcO, zcP, zcQ, zcR, zcS, zcT, zcU, zcV, zcW, zcX, zcY, zcZ, zda, zdb, zdc, zdd, zde, zdf, zdg, zdh, zdi, zdj, zdk, zdl, zdm, zdn, zdo, zdp, zdq, zdr, zds, zdt, zdu, zdv, zdw, zdx, zdy, zdz, zdA, zdB, zdC, zdD, zdE, zdF, zdG]
  refine home_slots hn ?_
  unfold pathOf stepOf at q
  simp [b1_walk_of_r, b2_walk_of_r, b3_walk_of_r, b4_walk_of_r, b5_walk_of_r, b6_walk_of_r, b7_walk_of_r, b8_walk_of_r, b9_walk_of_r, m_walk_of_r, slotsW, zaa, zab, zac, zad, zae, zaf, zag, zah, zai, zaj, zak, zal, zam, zan, zao, zap, zaq, zar, zas, zat, zau, zav, zaw, zax, zay, zaz, zaA, zaB, zaC, zaD, zaE, zaF, zaG, zaH, zaI, zaJ, zaK, zaL, zaM, zaN, zaO, zaP, zaQ, zaR, zaS, zaT, zaU, zaV, startE, full, fullE, clean, cleanE, zaW, zaX, zaY, zaZ, zba, zbb, zbc, zbd, zbe, zbf, zbg, zbh, zbi, zbj, zbk, zbl, zbm, zbn, zbo, zbp, zbq, zbr, zbs, zbt, zbu, zbv, zbw, zbx, zby, zbz, zbA, zbB, zbC, zbD, zbE, zbF, zbG, zbH, zbI, zbJ, zbK, zbL, zbM, zbN, zbO, zbP, Bool.bne_false, Bool.bne_true, zbQ, zbR, zbS, zbT, zbU, zbV, zbW, zbX, zbY, zbZ, zca, zcb, zcc, zcd, zce, zcf, zcg, zch, zci, zcj, zck, zcl, zcm, zcn, zco, setAll, wipeR, setV, zcp, zcq, zcr, zcs, zct, zcu, zcv, zcw, zcx, zcy, zcz, zcA, zcB, zcC, List.any_cons, List.any_nil, List.map_cons, List.map_nil, List.length_cons, List.length_nil, List.replicate, Nat.sub_self, List.cons_append, List.nil_append, List.append_nil, List.getElem?_cons_zero, List.getElem?_cons_succ, List.set_cons_zero, List.set_cons_succ, List.set_nil, zcD, zcE, zcF, zcG, zcH, zcI, zcJ, zcK, zcL, zcM, zcN, zcO, zcP, zcQ, zcR, zcS, zcT, zcU, zcV, zcW, zcX, zcY, zcZ, zda, zdb, zdc, zdd, zde, zdf, zdg, zdh, zdi, zdj, zdk, zdl, zdm, zdn, zdo, zdp, zdq, zdr, zds, zdt, zdu, zdv, zdw, zdx, zdy, zdz, zdA, zdB, zdC, zdD, zdE, zdF, zdG]
  split
  · rename_i e
    subst e
    refine ⟨by omega, by omega, upLen n hn1, lcLoop_ints (fun i => (homeOf h k n + i) % n) _ (fun i hi kk hk => ?_) ?_⟩
    · simp only [zaa, zab, zac, zad, zae, zaf, zag, zah, zai, zaj, zak, zal, zam, zan, zao, zap, zaq, zar, zas, zat, zau, zav, zaw, zax, zay, zaz, zaA, zaB, zaC, zaD, zaE, zaF, zaG, zaH, zaI, zaJ, zaK, zaL, zaM, zaN, zaO, zaP, zaQ, zaR, zaS, zaT, zaU, zaV, startE, full, fullE, clean, cleanE, zaW, zaX, zaY, zaZ, zba, zbb, zbc, zbd, zbe, zbf, zbg, zbh, zbi, zbj, zbk, zbl, zbm, zbn, zbo, zbp, zbq, zbr, zbs, zbt, zbu, zbv, zbw, zbx, zby, zbz, zbA, zbB, zbC, zbD, zbE, zbF, zbG, zbH, zbI, zbJ, zbK, zbL, zbM, zbN, zbO, zbP, Bool.bne_false, Bool.bne_true, zbQ, zbR, zbS, zbT, zbU, zbV, zbW, zbX, zbY, zbZ, zca, zcb, zcc, zcd, zce, zcf, zcg, zch, zci, zcj, zck, zcl, zcm, zcn, zco, setAll, wipeR, setV, zcp, zcq, zcr, zcs, zct, zcu, zcv, zcw, zcx, zcy, zcz, zcA, zcB, zcC, List.any_cons, List.any_nil, List.map_cons, List.map_nil, List.length_cons, List.length_nil, List.replicate, Nat.sub_self, List.cons_append, List.nil_append, List.append_nil, List.getElem?_cons_zero, List.getElem?_cons_succ, List.set_cons_zero, List.set_cons_succ, List.set_nil, zcD, zcE, zcF, zcG, zcH, zcI, zcJ, zcK, zcL, zcM, zcN, zcO, zcP, zcQ, zcR, zcS, zcT, zcU, zcV, zcW, zcX, zcY, zcZ, zda, zdb, zdc, zdd, zde, zdf, zdg, zdh, zdi, zdj, zdk, zdl, zdm, zdn, zdo, zdp, zdq, zdr, zds, zdt, zdu, zdv, zdw, zdx, zdy, zdz, zdA, zdB, zdC, zdD, zdE, zdF, zdG, if_true]
      exact ⟨hn0, hk⟩
    · simpa using q
  · rename_i e1
    split
    · rename_i e
      subst e
      refine ⟨by omega, by omega, upLen n hn1, lcLoop_ints (fun i => (homeOf h k n + -i) % n) _ (fun i hi kk hk => ?_) ?_⟩
      · simp only [zaa, zab, zac, zad, zae, zaf, zag, zah, zai, zaj, zak, zal, zam, zan, zao, zap, zaq, zar, zas, zat, zau, zav, zaw, zax, zay, zaz, zaA, zaB, zaC, zaD, zaE, zaF, zaG, zaH, zaI, zaJ, zaK, zaL, zaM, zaN, zaO, zaP, zaQ, zaR, zaS, zaT, zaU, zaV, startE, full, fullE, clean, cleanE, zaW, zaX, zaY, zaZ, zba, zbb, zbc, zbd, zbe, zbf, zbg, zbh, zbi, zbj, zbk, zbl, zbm, zbn, zbo, zbp, zbq, zbr, zbs, zbt, zbu, zbv, zbw, zbx, zby, zbz, zbA, zbB, zbC, zbD, zbE, zbF, zbG, zbH, zbI, zbJ, zbK, zbL, zbM, zbN, zbO, zbP, Bool.bne_false, Bool.bne_true, zbQ, zbR, zbS, zbT, zbU, zbV, zbW, zbX, zbY, zbZ, zca, zcb, zcc, zcd, zce, zcf, zcg, zch, zci, zcj, zck, zcl, zcm, zcn, zco, setAll, wipeR, setV, zcp, zcq, zcr, zcs, zct, zcu, zcv, zcw, zcx, zcy, zcz, zcA, zcB, zcC, List.any_cons, List.any_nil, List.map_cons, List.map_nil, List.length_cons, List.length_nil, List.replicate, Nat.sub_self, List.cons_append, List.nil_append, List.append_nil, List.getElem?_cons_zero, List.getElem?_cons_succ, List.set_cons_zero, List.set_cons_succ, List.set_nil, zcD, zcE, zcF, zcG, zcH, zcI, zcJ, zcK, zcL, zcM, zcN, zcO, zcP, zcQ, zcR, zcS, zcT, zcU, zcV, zcW, zcX, zcY, zcZ, zda, zdb, zdc, zdd, zde, zdf, zdg, zdh, zdi, zdj, zdk, zdl, zdm, zdn, zdo, zdp, zdq, zdr, zds, zdt, zdu, zdv, zdw, zdx, zdy, zdz, zdA, zdB, zdC, zdD, zdE, zdF, zdG, if_true]
        exact ⟨hn0, by rwa [Int.sub_eq_add_neg]⟩
      · simpa using q
    · rename_i e2
      split
      · rename_i e
        subst e
        refine ⟨by omega, by omega, upLen n hn1, lcLoop_ints (fun i => (homeOf h k n + i * (i + 1) / 2) % n) _ (fun i hi kk hk => ?_) ?_⟩
        · simp only [zaa, zab, zac, zad, zae, zaf, zag, zah, zai, zaj, zak, zal, zam, zan, zao, zap, zaq, zar, zas, zat, zau, zav, zaw, zax, zay, zaz, zaA, zaB, zaC, zaD, zaE, zaF, zaG, zaH, zaI, zaJ, zaK, zaL, zaM, zaN, zaO, zaP, zaQ, zaR, zaS, zaT, zaU, zaV, startE, full, fullE, clean, cleanE, zaW, zaX, zaY, zaZ, zba, zbb, zbc, zbd, zbe, zbf, zbg, zbh, zbi, zbj, zbk, zbl, zbm, zbn, zbo, zbp, zbq, zbr, zbs, zbt, zbu, zbv, zbw, zbx, zby, zbz, zbA, zbB, zbC, zbD, zbE, zbF, zbG, zbH, zbI, zbJ, zbK, zbL, zbM, zbN, zbO, zbP, Bool.bne_false, Bool.bne_true, zbQ, zbR, zbS, zbT, zbU, zbV, zbW, zbX, zbY, zbZ, zca, zcb, zcc, zcd, zce, zcf, zcg, zch, zci, zcj, zck, zcl, zcm, zcn, zco, setAll, wipeR, setV, zcp, zcq, zcr, zcs, zct, zcu, zcv, zcw, zcx, zcy, zcz, zcA, zcB, zcC, List.any_cons, List.any_nil, List.map_cons, List.map_nil, List.length_cons, List.length_nil, List.replicate, Nat.sub_self, List.cons_append, List.nil_append, List.append_nil, List.getElem?_cons_zero, List.getElem?_cons_succ, List.set_cons_zero, List.set_cons_succ, List.set_nil, zcD, zcE, zcF, zcG, zcH, zcI, zcJ, zcK, zcL, zcM, zcN, zcO, zcP, zcQ, zcR, zcS, zcT, zcU, zcV, zcW, zcX, zcY, zcZ, zda, zdb, zdc, zdd, zde, zdf, zdg, zdh, zdi, zdj, zdk, zdl, zdm, zdn, zdo, zdp, zdq, zdr, zds, zdt, zdu, zdv, zdw, zdx, zdy, zdz, zdA, zdB, zdC, zdD, zdE, zdF, zdG, if_true]
          exact ⟨cm (by omega), ⟨by decide, by decide⟩, hn0, hk⟩
        · simpa using q
      · rename_i e3
        refine ⟨by omega, by omega, upLen n hn1, lcLoop_ints (fun i => (homeOf h k n + i * (1 + 2 * (k / 8 % 2))) % n) _ (fun i hi kk hk2 => ?_) ?_⟩
        · simp only [zaa, zab, zac, zad, zae, zaf, zag, zah, zai, zaj, zak, zal, zam, zan, zao, zap, zaq, zar, zas, zat, zau, zav, zaw, zax, zay, zaz, zaA, zaB, zaC, zaD, zaE, zaF, zaG, zaH, zaI, zaJ, zaK, zaL, zaM, zaN, zaO, zaP, zaQ, zaR, zaS, zaT, zaU, zaV, startE, full, fullE, clean, cleanE, zaW, zaX, zaY, zaZ, zba, zbb, zbc, zbd, zbe, zbf, zbg, zbh, zbi, zbj, zbk, zbl, zbm, zbn, zbo, zbp, zbq, zbr, zbs, zbt, zbu, zbv, zbw, zbx, zby, zbz, zbA, zbB, zbC, zbD, zbE, zbF, zbG, zbH, zbI, zbJ, zbK, zbL, zbM, zbN, zbO, zbP, Bool.bne_false, Bool.bne_true, zbQ, zbR, zbS, zbT, zbU, zbV, zbW, zbX, zbY, zbZ, zca, zcb, zcc, zcd, zce, zcf, zcg, zch, zci, zcj, zck, zcl, zcm, zcn, zco, setAll, wipeR, setV, zcp, zcq, zcr, zcs, zct, zcu, zcv, zcw, zcx, zcy, zcz, zcA, zcB, zcC, List.any_cons, List.any_nil, List.map_cons, List.map_nil, List.length_cons, List.length_nil, List.replicate, Nat.sub_self, List.cons_append, List.nil_append, List.append_nil, List.getElem?_cons_zero, List.getElem?_cons_succ, List.set_cons_zero, List.set_cons_succ, List.set_nil, zcD, zcE, zcF, zcG, zcH, zcI, zcJ, zcK, zcL, zcM, zcN, zcO, zcP, zcQ, zcR, zcS, zcT, zcU, zcV, zcW, zcX, zcY, zcZ, zda, zdb, zdc, zdd, zde, zdf, zdg, zdh, zdi, zdj, zdk, zdl, zdm, zdn, zdo, zdp, zdq, zdr, zds, zdt, zdu, zdv, zdw, zdx, zdy, zdz, zdA, zdB, zdC, zdD, zdE, zdF, zdG, if_true]
          exact ⟨⟨by decide, by decide⟩, by decide, cm (by omega), cm (by omega), hn0, hk2⟩
        · simpa [e1, e2, e3] using q
theorem bound_rows {h c o : String} {n : Int} (hn : SizeOk n) (q : Q (.int (manyOf o n))) : m_bound_of [rowsW h c o, .int n] Q E := by
  obtain ⟨hn0, hn1⟩ := small hn
  unfold manyOf at q
  simp [b1_bound_of_r, b2_bound_of_r, b3_bound_of_r, m_bound_of_r, rowsW, zaa, zab, zac, zad, zae, zaf, zag, zah, zai, zaj, zak, zal, zam, zan, zao, zap, zaq, zar, zas, zat, zau, zav, zaw, zax, zay, zaz, zaA, zaB, zaC, zaD, zaE, zaF, zaG, zaH, zaI, zaJ, zaK, zaL, zaM, zaN, zaO, zaP, zaQ, zaR, zaS, zaT, zaU, zaV, startE, full, fullE, clean, cleanE, zaW, zaX, zaY, zaZ, zba, zbb, zbc, zbd, zbe, zbf, zbg, zbh, zbi, zbj, zbk, zbl, zbm, zbn, zbo, zbp, zbq, zbr, zbs, zbt, zbu, zbv, zbw, zbx, zby, zbz, zbA, zbB, zbC, zbD, zbE, zbF, zbG, zbH, zbI, zbJ, zbK, zbL, zbM, zbN, zbO, zbP, Bool.bne_false, Bool.bne_true, zbQ, zbR, zbS, zbT, zbU, zbV, zbW, zbX, zbY, zbZ, zca, zcb, zcc, zcd, zce, zcf, zcg, zch, zci, zcj, zck, zcl, zcm, zcn, zco, setAll, wipeR, setV, zcp, zcq, zcr, zcs, zct, zcu, zcv, zcw, zcx, zcy, zcz, zcA, zcB, zcC, List.any_cons, List.any_nil, List.map_cons, List.map_nil, List.length_cons, List.length_nil, List.replicate, Nat.sub_self, List.cons_append, List.nil_append, List.append_nil, List.getElem?_cons_zero, List.getElem?_cons_succ, List.set_cons_zero, List.set_cons_succ, List.set_nil, zcD, zcE, zcF, zcG, zcH, zcI, zcJ, zcK, zcL, zcM, zcN, zcO, zcP, zcQ, zcR, zcS, zcT, zcU, zcV, zcW, zcX, zcY, zcZ, zda, zdb, zdc, zdd, zde, zdf, zdg, zdh, zdi, zdj, zdk, zdl, zdm, zdn, zdo, zdp, zdq, zdr, zds, zdt, zdu, zdv, zdw, zdx, zdy, zdz, zdA, zdB, zdC, zdD, zdE, zdF, zdG]
  split
  · rename_i e
    simpa [e] using q
  · rename_i e
    refine ⟨cm (by omega), by simpa [e] using q⟩
theorem bound_slots {h st c g gr : String} {n : Int} (hn : SizeOk n) (hg : gr = "half" ∨ gr = "three" ∨ gr = "full") (q : Q (.int (growOf gr n))) : m_bound_of [slotsW h st c g gr, .int n] Q E := by
  obtain ⟨hn0, hn1⟩ := small hn
  unfold growOf at q
  simp [b1_bound_of_r, b2_bound_of_r, b3_bound_of_r, m_bound_of_r, slotsW, zaa, zab, zac, zad, zae, zaf, zag, zah, zai, zaj, zak, zal, zam, zan, zao, zap, zaq, zar, zas, zat, zau, zav, zaw, zax, zay, zaz, zaA, zaB, zaC, zaD, zaE, zaF, zaG, zaH, zaI, zaJ, zaK, zaL, zaM, zaN, zaO, zaP, zaQ, zaR, zaS, zaT, zaU, zaV, startE, full, fullE, clean, cleanE, zaW, zaX, zaY, zaZ, zba, zbb, zbc, zbd, zbe, zbf, zbg, zbh, zbi, zbj, zbk, zbl, zbm, zbn, zbo, zbp, zbq, zbr, zbs, zbt, zbu, zbv, zbw, zbx, zby, zbz, zbA, zbB, zbC, zbD, zbE, zbF, zbG, zbH, zbI, zbJ, zbK, zbL, zbM, zbN, zbO, zbP, Bool.bne_false, Bool.bne_true, zbQ, zbR, zbS, zbT, zbU, zbV, zbW, zbX, zbY, zbZ, zca, zcb, zcc, zcd, zce, zcf, zcg, zch, zci, zcj, zck, zcl, zcm, zcn, zco, setAll, wipeR, setV, zcp, zcq, zcr, zcs, zct, zcu, zcv, zcw, zcx, zcy, zcz, zcA, zcB, zcC, List.any_cons, List.any_nil, List.map_cons, List.map_nil, List.length_cons, List.length_nil, List.replicate, Nat.sub_self, List.cons_append, List.nil_append, List.append_nil, List.getElem?_cons_zero, List.getElem?_cons_succ, List.set_cons_zero, List.set_cons_succ, List.set_nil, zcD, zcE, zcF, zcG, zcH, zcI, zcJ, zcK, zcL, zcM, zcN, zcO, zcP, zcQ, zcR, zcS, zcT, zcU, zcV, zcW, zcX, zcY, zcZ, zda, zdb, zdc, zdd, zde, zdf, zdg, zdh, zdi, zdj, zdk, zdl, zdm, zdn, zdo, zdp, zdq, zdr, zds, zdt, zdu, zdv, zdw, zdx, zdy, zdz, zdA, zdB, zdC, zdD, zdE, zdF, zdG]
  refine ⟨⟨by decide, by decide⟩, cm (by omega), ⟨by decide, by decide⟩, ?_⟩
  rcases hg with rfl | rfl | rfl <;> simpa [zaa, zab, zac, zad, zae, zaf, zag, zah, zai, zaj, zak, zal, zam, zan, zao, zap, zaq, zar, zas, zat, zau, zav, zaw, zax, zay, zaz, zaA, zaB, zaC, zaD, zaE, zaF, zaG, zaH, zaI, zaJ, zaK, zaL, zaM, zaN, zaO, zaP, zaQ, zaR, zaS, zaT, zaU, zaV, startE, full, fullE, clean, cleanE, zaW, zaX, zaY, zaZ, zba, zbb, zbc, zbd, zbe, zbf, zbg, zbh, zbi, zbj, zbk, zbl, zbm, zbn, zbo, zbp, zbq, zbr, zbs, zbt, zbu, zbv, zbw, zbx, zby, zbz, zbA, zbB, zbC, zbD, zbE, zbF, zbG, zbH, zbI, zbJ, zbK, zbL, zbM, zbN, zbO, zbP, Bool.bne_false, Bool.bne_true, zbQ, zbR, zbS, zbT, zbU, zbV, zbW, zbX, zbY, zbZ, zca, zcb, zcc, zcd, zce, zcf, zcg, zch, zci, zcj, zck, zcl, zcm, zcn, zco, setAll, wipeR, setV, zcp, zcq, zcr, zcs, zct, zcu, zcv, zcw, zcx, zcy, zcz, zcA, zcB, zcC, List.any_cons, List.any_nil, List.map_cons, List.map_nil, List.length_cons, List.length_nil, List.replicate, Nat.sub_self, List.cons_append, List.nil_append, List.append_nil, List.getElem?_cons_zero, List.getElem?_cons_succ, List.set_cons_zero, List.set_cons_succ, List.set_nil, zcD, zcE, zcF, zcG, zcH, zcI, zcJ, zcK, zcL, zcM, zcN, zcO, zcP, zcQ, zcR, zcS, zcT, zcU, zcV, zcW, zcX, zcY, zcZ, zda, zdb, zdc, zdd, zde, zdf, zdg, zdh, zdi, zdj, zdk, zdl, zdm, zdn, zdo, zdp, zdq, zdr, zds, zdt, zdu, zdv, zdw, zdx, zdy, zdz, zdA, zdB, zdC, zdD, zdE, zdF, zdG] using q
/-! ### tables -/
theorem rep_one (n : Nat) (d : D) : (List.replicate n [d]).flatten = List.replicate n d := by
  induction n with
  | zero => rfl
  | succ n ih => rw [List.replicate_succ, List.flatten_cons, ih]; rfl
theorem begun_rows {h c o : String} {n : Int} (hn : SizeOk n) (q : Q (tabD (.r (List.replicate n.toNat [])))) : m_begun [rowsW h c o, .int n] Q E := by
  obtain ⟨hn0, hn1⟩ := small hn
  have := four hn
  simp [b1_begun_r, m_begun_r, rowsW, zaa, zab, zac, zad, zae, zaf, zag, zah, zai, zaj, zak, zal, zam, zan, zao, zap, zaq, zar, zas, zat, zau, zav, zaw, zax, zay, zaz, zaA, zaB, zaC, zaD, zaE, zaF, zaG, zaH, zaI, zaJ, zaK, zaL, zaM, zaN, zaO, zaP, zaQ, zaR, zaS, zaT, zaU, zaV, startE, full, fullE, clean, cleanE, zaW, zaX, zaY, zaZ, zba, zbb, zbc, zbd, zbe, zbf, zbg, zbh, zbi, zbj, zbk, zbl, zbm, zbn, zbo, zbp, zbq, zbr, zbs, zbt, zbu, zbv, zbw, zbx, zby, zbz, zbA, zbB, zbC, zbD, zbE, zbF, zbG, zbH, zbI, zbJ, zbK, zbL, zbM, zbN, zbO, zbP, Bool.bne_false, Bool.bne_true, zbQ, zbR, zbS, zbT, zbU, zbV, zbW, zbX, zbY, zbZ, zca, zcb, zcc, zcd, zce, zcf, zcg, zch, zci, zcj, zck, zcl, zcm, zcn, zco, setAll, wipeR, setV, zcp, zcq, zcr, zcs, zct, zcu, zcv, zcw, zcx, zcy, zcz, zcA, zcB, zcC, List.any_cons, List.any_nil, List.map_cons, List.map_nil, List.length_cons, List.length_nil, List.replicate, Nat.sub_self, List.cons_append, List.nil_append, List.append_nil, List.getElem?_cons_zero, List.getElem?_cons_succ, List.set_cons_zero, List.set_cons_succ, List.set_nil, zcD, zcE, zcF, zcG, zcH, zcI, zcJ, zcK, zcL, zcM, zcN, zcO, zcP, zcQ, zcR, zcS, zcT, zcU, zcV, zcW, zcX, zcY, zcZ, zda, zdb, zdc, zdd, zde, zdf, zdg, zdh, zdi, zdj, zdk, zdl, zdm, zdn, zdo, zdp, zdq, zdr, zds, zdt, zdu, zdv, zdw, zdx, zdy, zdz, zdA, zdB, zdC, zdD, zdE, zdF, zdG]
  refine ⟨by omega, by omega, ?_⟩
  simpa [tabD, intsD] using q
theorem begun_slots {h st c g gr : String} {n : Int} (hn : SizeOk n) (q : Q (tabD (.s (List.replicate n.toNat (-1))))) : m_begun [slotsW h st c g gr, .int n] Q E := by
  obtain ⟨hn0, hn1⟩ := small hn
  have := four hn
  simp [b1_begun_r, m_begun_r, slotsW, zaa, zab, zac, zad, zae, zaf, zag, zah, zai, zaj, zak, zal, zam, zan, zao, zap, zaq, zar, zas, zat, zau, zav, zaw, zax, zay, zaz, zaA, zaB, zaC, zaD, zaE, zaF, zaG, zaH, zaI, zaJ, zaK, zaL, zaM, zaN, zaO, zaP, zaQ, zaR, zaS, zaT, zaU, zaV, startE, full, fullE, clean, cleanE, zaW, zaX, zaY, zaZ, zba, zbb, zbc, zbd, zbe, zbf, zbg, zbh, zbi, zbj, zbk, zbl, zbm, zbn, zbo, zbp, zbq, zbr, zbs, zbt, zbu, zbv, zbw, zbx, zby, zbz, zbA, zbB, zbC, zbD, zbE, zbF, zbG, zbH, zbI, zbJ, zbK, zbL, zbM, zbN, zbO, zbP, Bool.bne_false, Bool.bne_true, zbQ, zbR, zbS, zbT, zbU, zbV, zbW, zbX, zbY, zbZ, zca, zcb, zcc, zcd, zce, zcf, zcg, zch, zci, zcj, zck, zcl, zcm, zcn, zco, setAll, wipeR, setV, zcp, zcq, zcr, zcs, zct, zcu, zcv, zcw, zcx, zcy, zcz, zcA, zcB, zcC, List.any_cons, List.any_nil, List.map_cons, List.map_nil, List.length_cons, List.length_nil, List.replicate, Nat.sub_self, List.cons_append, List.nil_append, List.append_nil, List.getElem?_cons_zero, List.getElem?_cons_succ, List.set_cons_zero, List.set_cons_succ, List.set_nil, zcD, zcE, zcF, zcG, zcH, zcI, zcJ, zcK, zcL, zcM, zcN, zcO, zcP, zcQ, zcR, zcS, zcT, zcU, zcV, zcW, zcX, zcY, zcZ, zda, zdb, zdc, zdd, zde, zdf, zdg, zdh, zdi, zdj, zdk, zdl, zdm, zdn, zdo, zdp, zdq, zdr, zds, zdt, zdu, zdv, zdw, zdx, zdy, zdz, zdA, zdB, zdC, zdD, zdE, zdF, zdG]
  refine ⟨by omega, by omega, ?_⟩
  simpa [tabD, intsD] using q
theorem with_slot_ok {ds : List D} {s : Int} {d : D} (h0 : 0 ≤ s) (h1 : s < ds.length) (hl : ds.length ≤ 1000) (q : Q (.tuple (ds.set s.toNat d))) : m_with_slot [.tuple ds, .int s, d] Q E := by
  simp only [b1_with_slot_r, m_with_slot_r, zaa, zab, zac, zad, zae, zaf, zag, zah, zai, zaj, zak, zal, zam, zan, zao, zap, zaq, zar, zas, zat, zau, zav, zaw, zax, zay, zaz, zaA, zaB, zaC, zaD, zaE, zaF, zaG, zaH, zaI, zaJ, zaK, zaL, zaM, zaN, zaO, zaP, zaQ, zaR, zaS, zaT, zaU, zaV, startE, full, fullE, clean, cleanE, zaW, zaX, zaY, zaZ, zba, zbb, zbc, zbd, zbe, zbf, zbg, zbh, zbi, zbj, zbk, zbl, zbm, zbn, zbo, zbp, zbq, zbr, zbs, zbt, zbu, zbv, zbw, zbx, zby, zbz, zbA, zbB, zbC, zbD, zbE, zbF, zbG, zbH, zbI, zbJ, zbK, zbL, zbM, zbN, zbO, zbP, Bool.bne_false, Bool.bne_true, zbQ, zbR, zbS, zbT, zbU, zbV, zbW, zbX, zbY, zbZ, zca, zcb, zcc, zcd, zce, zcf, zcg, zch, zci, zcj, zck, zcl, zcm, zcn, zco, setAll, wipeR, setV, zcp, zcq, zcr, zcs, zct, zcu, zcv, zcw, zcx, zcy, zcz, zcA, zcB, zcC, List.any_cons, List.any_nil, List.map_cons, List.map_nil, List.length_cons, List.length_nil, List.replicate, Nat.sub_self, List.cons_append, List.nil_append, List.append_nil, List.getElem?_cons_zero, List.getElem?_cons_succ, List.set_cons_zero, List.set_cons_succ, List.set_nil, zcD, zcE, zcF, zcG, zcH, zcI, zcJ, zcK, zcL, zcM, zcN, zcO, zcP, zcQ, zcR, zcS, zcT, zcU, zcV, zcW, zcX, zcY, zcZ, zda, zdb, zdc, zdd, zde, zdf, zdg, zdh, zdi, zdj, zdk, zdl, zdm, zdn, zdo, zdp, zdq, zdr, zds, zdt, zdu, zdv, zdw, zdx, zdy, zdz, zdA, zdB, zdC, zdD, zdE, zdF, zdG]
  rw [set_cut ds d h0 h1]
  have l1 : (cutL ds none (some s)).length ≤ ds.length := by
    rw [cut_to ds h0, List.length_take]
    omega
  have l2 : (cutL ds (some (s + 1)) none).length ≤ ds.length := by
    rw [cut_from ds (by omega), List.length_drop]
    omega
  refine ⟨by omega, by omega, ?_, q⟩
  simp only [List.length_append, List.length_cons, List.length_nil]
  omega
theorem tset {T : List Int} {s x : Int} {Q : D → Prop} (h0 : 0 ≤ s) (h1 : s < T.length) (hl : T.length ≤ 1000) (q : Q (tabD (.s (put T s x)))) : m_with_slot [.tuple (intsD T), .int s, .int x] Q E := by
  refine with_slot_ok h0 (by rw [intsD_len]; exact h1) (by rw [intsD_len]; exact hl) ?_
  rw [intsD_set]
  exact q
theorem rset {R : List (List Int)} {s : Int} {r : List Int} {Q : D → Prop} (h0 : 0 ≤ s) (h1 : s < R.length) (hl : R.length ≤ 1000) (q : Q (tabD (.r (rput R s r)))) : m_with_slot [tabD (.r R), .int s, .tuple (intsD r)] Q E := by
  refine with_slot_ok h0 (by simpa using h1) (by simpa using hl) ?_
  rw [tabD_r] at q
  unfold rput at q
  rw [List.map_set] at q
  exact q
theorem tget {T : List Int} {s : Int} (h0 : 0 ≤ s) (h1 : s < T.length) : atI (intsD T) s = some (.int (ga T s)) := atI_ints h0 h1
theorem rget {R : List (List Int)} {s : Int} (h0 : 0 ≤ s) (h1 : s < R.length) : atI (R.map fun r => PyData.tuple (intsD r)) s = some (.tuple (intsD (rat R s))) := by
  have hl : s.toNat < R.length := by omega
  rw [atI_nat h0 (by simpa using h1), List.getElem_map]
  unfold rat
  rw [List.getD_eq_getElem?_getD, List.getElem?_eq_getElem hl]
  rfl
theorem keys_slots {h st c g gr : String} {T : List Int} (hl : T.length ≤ 1000) (q : Q (.list (intsD (keysS T)))) : m_keys_in [slotsW h st c g gr, .tuple (intsD T)] Q E := by
  simp [b1_keys_in_r, b2_keys_in_r, b3_keys_in_r, m_keys_in_r, slotsW, zaa, zab, zac, zad, zae, zaf, zag, zah, zai, zaj, zak, zal, zam, zan, zao, zap, zaq, zar, zas, zat, zau, zav, zaw, zax, zay, zaz, zaA, zaB, zaC, zaD, zaE, zaF, zaG, zaH, zaI, zaJ, zaK, zaL, zaM, zaN, zaO, zaP, zaQ, zaR, zaS, zaT, zaU, zaV, startE, full, fullE, clean, cleanE, zaW, zaX, zaY, zaZ, zba, zbb, zbc, zbd, zbe, zbf, zbg, zbh, zbi, zbj, zbk, zbl, zbm, zbn, zbo, zbp, zbq, zbr, zbs, zbt, zbu, zbv, zbw, zbx, zby, zbz, zbA, zbB, zbC, zbD, zbE, zbF, zbG, zbH, zbI, zbJ, zbK, zbL, zbM, zbN, zbO, zbP, Bool.bne_false, Bool.bne_true, zbQ, zbR, zbS, zbT, zbU, zbV, zbW, zbX, zbY, zbZ, zca, zcb, zcc, zcd, zce, zcf, zcg, zch, zci, zcj, zck, zcl, zcm, zcn, zco, setAll, wipeR, setV, zcp, zcq, zcr, zcs, zct, zcu, zcv, zcw, zcx, zcy, zcz, zcA, zcB, zcC, List.any_cons, List.any_nil, List.map_cons, List.map_nil, List.length_cons, List.length_nil, List.replicate, Nat.sub_self, List.cons_append, List.nil_append, List.append_nil, List.getElem?_cons_zero, List.getElem?_cons_succ, List.set_cons_zero, List.set_cons_succ, List.set_nil, zcD, zcE, zcF, zcG, zcH, zcI, zcJ, zcK, zcL, zcM, zcN, zcO, zcP, zcQ, zcR, zcS, zcT, zcU, zcV, zcW, zcX, zcY, zcZ, zda, zdb, zdc, zdd, zde, zdf, zdg, zdh, zdi, zdj, zdk, zdl, zdm, zdn, zdo, zdp, zdq, zdr, zds, zdt, zdu, zdv, zdw, zdx, zdy, zdz, zdA, zdB, zdC, zdD, zdE, zdF, zdG]
  refine ⟨by rw [intsD_len]; omega, lcLoop_fm PyData.int (fun x => decide (0 ≤ x)) PyData.int (fun a ha k hk => ?_) q⟩
  simp only [zaa, zab, zac, zad, zae, zaf, zag, zah, zai, zaj, zak, zal, zam, zan, zao, zap, zaq, zar, zas, zat, zau, zav, zaw, zax, zay, zaz, zaA, zaB, zaC, zaD, zaE, zaF, zaG, zaH, zaI, zaJ, zaK, zaL, zaM, zaN, zaO, zaP, zaQ, zaR, zaS, zaT, zaU, zaV, startE, full, fullE, clean, cleanE, zaW, zaX, zaY, zaZ, zba, zbb, zbc, zbd, zbe, zbf, zbg, zbh, zbi, zbj, zbk, zbl, zbm, zbn, zbo, zbp, zbq, zbr, zbs, zbt, zbu, zbv, zbw, zbx, zby, zbz, zbA, zbB, zbC, zbD, zbE, zbF, zbG, zbH, zbI, zbJ, zbK, zbL, zbM, zbN, zbO, zbP, Bool.bne_false, Bool.bne_true, zbQ, zbR, zbS, zbT, zbU, zbV, zbW, zbX, zbY, zbZ, zca, zcb, zcc, zcd, zce, zcf, zcg, zch, zci, zcj, zck, zcl, zcm, zcn, zco, setAll, wipeR, setV, zcp, zcq, zcr, zcs, zct, zcu, zcv, zcw, zcx, zcy, zcz, zcA, zcB, zcC, List.any_cons, List.any_nil, List.map_cons, List.map_nil, List.length_cons, List.length_nil, List.replicate, Nat.sub_self, List.cons_append, List.nil_append, List.append_nil, List.getElem?_cons_zero, List.getElem?_cons_succ, List.set_cons_zero, List.set_cons_succ, List.set_nil, zcD, zcE, zcF, zcG, zcH, zcI, zcJ, zcK, zcL, zcM, zcN, zcO, zcP, zcQ, zcR, zcS, zcT, zcU, zcV, zcW, zcX, zcY, zcZ, zda, zdb, zdc, zdd, zde, zdf, zdg, zdh, zdi, zdj, zdk, zdl, zdm, zdn, zdo, zdp, zdq, zdr, zds, zdt, zdu, zdv, zdw, zdx, zdy, zdz, zdA, zdB, zdC, zdD, zdE, zdF, zdG]
  by_cases e : 0 ≤ a
  · simpa [e] using hk
  · simpa [e] using hk
theorem lcIn_all {ρ : Rho} (hρ : ∃ a b c d, ρ = [a, b, c, d]) : ∀ (ns : List Int) (acc : List D) (R : List D → Prop), R (acc ++ intsD ns) → lcIn (.name 2) [2] tYesD (eVar 2) ρ (intsD ns) acc R
  | [], acc, R, q => by simpa [lcIn, lcLoop, intsD] using q
  | n :: ns, acc, R, q => by
    obtain ⟨a, b, c, d, rfl⟩ := hρ
    show lcLoop _ (.int n :: intsD ns) acc R
    unfold lcLoop
    simp only [zaa, zab, zac, zad, zae, zaf, zag, zah, zai, zaj, zak, zal, zam, zan, zao, zap, zaq, zar, zas, zat, zau, zav, zaw, zax, zay, zaz, zaA, zaB, zaC, zaD, zaE, zaF, zaG, zaH, zaI, zaJ, zaK, zaL, zaM, zaN, zaO, zaP, zaQ, zaR, zaS, zaT, zaU, zaV, startE, full, fullE, clean, cleanE, zaW, zaX, zaY, zaZ, zba, zbb, zbc, zbd, zbe, zbf, zbg, zbh, zbi, zbj, zbk, zbl, zbm, zbn, zbo, zbp, zbq, zbr, zbs, zbt, zbu, zbv, zbw, zbx, zby, zbz, zbA, zbB, zbC, zbD, zbE, zbF, zbG, zbH, zbI, zbJ, zbK, zbL, zbM, zbN, zbO, zbP, Bool.bne_false, Bool.bne_true, zbQ, zbR, zbS, zbT, zbU, zbV, zbW, zbX, zbY, zbZ, zca, zcb, zcc, zcd, zce, zcf, zcg, zch, zci, zcj, zck, zcl, zcm, zcn, zco, setAll, wipeR, setV, zcp, zcq, zcr, zcs, zct, zcu, zcv, zcw, zcx, zcy, zcz, zcA, zcB, zcC, List.any_cons, List.any_nil, List.map_cons, List.map_nil, List.length_cons, List.length_nil, List.replicate, Nat.sub_self, List.cons_append, List.nil_append, List.append_nil, List.getElem?_cons_zero, List.getElem?_cons_succ, List.set_cons_zero, List.set_cons_succ, List.set_nil, zcD, zcE, zcF, zcG, zcH, zcI, zcJ, zcK, zcL, zcM, zcN, zcO, zcP, zcQ, zcR, zcS, zcT, zcU, zcV, zcW, zcX, zcY, zcZ, zda, zdb, zdc, zdd, zde, zdf, zdg, zdh, zdi, zdj, zdk, zdl, zdm, zdn, zdo, zdp, zdq, zdr, zds, zdt, zdu, zdv, zdw, zdx, zdy, zdz, zdA, zdB, zdC, zdD, zdE, zdF, zdG, if_true]
    refine lcIn_all ⟨a, b, c, d, rfl⟩ ns _ R ?_
    simpa [intsD] using q
theorem keys_rows_loop {w : D} {t : D} : ∀ (R : List (List Int)) (acc : List D) (Q : List D → Prop), (acc.length : Int) + R.flatten.length ≤ 1000 → Q (acc ++ intsD R.flatten) → lcLoop2 (.name 3) [3, 2] tYesD (sItems (eVar 3)) (.name 2) [2] tYesD (eVar 2) [some w, some t, none, none] (R.map fun r => PyData.tuple (intsD r)) acc Q
  | [], acc, Q, _, q => by simpa [lcLoop2, intsD] using q
  | r :: R, acc, Q, hl, q => by
    rw [List.map_cons]
    unfold lcLoop2
    simp only [zaa, zab, zac, zad, zae, zaf, zag, zah, zai, zaj, zak, zal, zam, zan, zao, zap, zaq, zar, zas, zat, zau, zav, zaw, zax, zay, zaz, zaA, zaB, zaC, zaD, zaE, zaF, zaG, zaH, zaI, zaJ, zaK, zaL, zaM, zaN, zaO, zaP, zaQ, zaR, zaS, zaT, zaU, zaV, startE, full, fullE, clean, cleanE, zaW, zaX, zaY, zaZ, zba, zbb, zbc, zbd, zbe, zbf, zbg, zbh, zbi, zbj, zbk, zbl, zbm, zbn, zbo, zbp, zbq, zbr, zbs, zbt, zbu, zbv, zbw, zbx, zby, zbz, zbA, zbB, zbC, zbD, zbE, zbF, zbG, zbH, zbI, zbJ, zbK, zbL, zbM, zbN, zbO, zbP, Bool.bne_false, Bool.bne_true, zbQ, zbR, zbS, zbT, zbU, zbV, zbW, zbX, zbY, zbZ, zca, zcb, zcc, zcd, zce, zcf, zcg, zch, zci, zcj, zck, zcl, zcm, zcn, zco, setAll, wipeR, setV, zcp, zcq, zcr, zcs, zct, zcu, zcv, zcw, zcx, zcy, zcz, zcA, zcB, zcC, List.any_cons, List.any_nil, List.map_cons, List.map_nil, List.length_cons, List.length_nil, List.replicate, Nat.sub_self, List.cons_append, List.nil_append, List.append_nil, List.getElem?_cons_zero, List.getElem?_cons_succ, List.set_cons_zero, List.set_cons_succ, List.set_nil, zcD, zcE, zcF, zcG, zcH, zcI, zcJ, zcK, zcL, zcM, zcN, zcO, zcP, zcQ, zcR, zcS, zcT, zcU, zcV, zcW, zcX, zcY, zcZ, zda, zdb, zdc, zdd, zde, zdf, zdg, zdh, zdi, zdj, zdk, zdl, zdm, zdn, zdo, zdp, zdq, zdr, zds, zdt, zdu, zdv, zdw, zdx, zdy, zdz, zdA, zdB, zdC, zdD, zdE, zdF, zdG, if_true]
    rw [List.flatten_cons, List.length_append] at hl
    refine ⟨by rw [intsD_len]; omega, lcIn_all ⟨_, _, _, _, rfl⟩ r acc _ (keys_rows_loop R _ Q ?_ ?_)⟩
    · rw [List.length_append, intsD_len]
      push_cast at hl ⊢
      omega
    · rw [List.flatten_cons, intsD_app, ← List.append_assoc] at q
      exact q
theorem keys_rows {h c o : String} {R : List (List Int)} (hl : R.flatten.length ≤ 1000) (q : Q (.list (intsD R.flatten))) : m_keys_in [rowsW h c o, tabD (.r R)] Q E := by
  simp only [b1_keys_in_r, b2_keys_in_r, b3_keys_in_r, m_keys_in_r, rowsW, zaa, zab, zac, zad, zae, zaf, zag, zah, zai, zaj, zak, zal, zam, zan, zao, zap, zaq, zar, zas, zat, zau, zav, zaw, zax, zay, zaz, zaA, zaB, zaC, zaD, zaE, zaF, zaG, zaH, zaI, zaJ, zaK, zaL, zaM, zaN, zaO, zaP, zaQ, zaR, zaS, zaT, zaU, zaV, startE, full, fullE, clean, cleanE, zaW, zaX, zaY, zaZ, zba, zbb, zbc, zbd, zbe, zbf, zbg, zbh, zbi, zbj, zbk, zbl, zbm, zbn, zbo, zbp, zbq, zbr, zbs, zbt, zbu, zbv, zbw, zbx, zby, zbz, zbA, zbB, zbC, zbD, zbE, zbF, zbG, zbH, zbI, zbJ, zbK, zbL, zbM, zbN, zbO, zbP, Bool.bne_false, Bool.bne_true, zbQ, zbR, zbS, zbT, zbU, zbV, zbW, zbX, zbY, zbZ, zca, zcb, zcc, zcd, zce, zcf, zcg, zch, zci, zcj, zck, zcl, zcm, zcn, zco, setAll, wipeR, setV, zcp, zcq, zcr, zcs, zct, zcu, zcv, zcw, zcx, zcy, zcz, zcA, zcB, zcC, List.any_cons, List.any_nil, List.map_cons, List.map_nil, List.length_cons, List.length_nil, List.replicate, Nat.sub_self, List.cons_append, List.nil_append, List.append_nil, List.getElem?_cons_zero, List.getElem?_cons_succ, List.set_cons_zero, List.set_cons_succ, List.set_nil, zcD, zcE, zcF, zcG, zcH, zcI, zcJ, zcK, zcL, zcM, zcN, zcO, zcP, zcQ, zcR, zcS, zcT, zcU, zcV, zcW, zcX, zcY, zcZ, zda, zdb, zdc, zdd, zde, zdf, zdg, zdh, zdi, zdj, zdk, zdl, zdm, zdn, zdo, zdp, zdq, zdr, zds, zdt, zdu, zdv, zdw, zdx, zdy, zdz, zdA, zdB, zdC, zdD, zdE, zdF, zdG]
  simp [zaa, zab, zac, zad, zae, zaf, zag, zah, zai, zaj, zak, zal, zam, zan, zao, zap, zaq, zar, zas, zat, zau, zav, zaw, zax, zay, zaz, zaA, zaB, zaC, zaD, zaE, zaF, zaG, zaH, zaI, zaJ, zaK, zaL, zaM, zaN, zaO, zaP, zaQ, zaR, zaS, zaT, zaU, zaV, startE, full, fullE, clean, cleanE, zaW, zaX, zaY, zaZ, zba, zbb, zbc, zbd, zbe, zbf, zbg, zbh, zbi, zbj, zbk, zbl, zbm, zbn, zbo, zbp, zbq, zbr, zbs, zbt, zbu, zbv, zbw, zbx, zby, zbz, zbA, zbB, zbC, zbD, zbE, zbF, zbG, zbH, zbI, zbJ, zbK, zbL, zbM, zbN, zbO, zbP, Bool.bne_false, Bool.bne_true, zbQ, zbR, zbS, zbT, zbU, zbV, zbW, zbX, zbY, zbZ, zca, zcb, zcc, zcd, zce, zcf, zcg, zch, zci, zcj, zck, zcl, zcm, zcn, zco, setAll, wipeR, setV, zcp, zcq, zcr, zcs, zct, zcu, zcv, zcw, zcx, zcy, zcz, zcA, zcB, zcC, List.any_cons, List.any_nil, List.map_cons, List.map_nil, List.length_cons, List.length_nil, List.replicate, Nat.sub_self, List.cons_append, List.nil_append, List.append_nil, List.getElem?_cons_zero, List.getElem?_cons_succ, List.set_cons_zero, List.set_cons_succ, List.set_nil, zcD, zcE, zcF, zcG, zcH, zcI, zcJ, zcK, zcL, zcM, zcN, zcO, zcP, zcQ, zcR, zcS, zcT, zcU, zcV, zcW, zcX, zcY, zcZ, zda, zdb, zdc, zdd, zde, zdf, zdg, zdh, zdi, zdj, zdk, zdl, zdm, zdn, zdo, zdp, zdq, zdr, zds, zdt, zdu, zdv, zdw, zdx, zdy, zdz, zdA, zdB, zdC, zdD, zdE, zdF, zdG]
  exact keys_rows_loop R [] _ (by simp only [List.length_nil]; omega) (by simpa using q)
theorem order_slots {h st c g gr : String} {T : List Int} (hl : T.length ≤ 1000) (q : Q (.tuple (intsD (keysS T)))) : m_order_in [slotsW h st c g gr, .tuple (intsD T)] Q E := by
  simp only [b1_order_in_r, m_order_in_r, zaa, zab, zac, zad, zae, zaf, zag, zah, zai, zaj, zak, zal, zam, zan, zao, zap, zaq, zar, zas, zat, zau, zav, zaw, zax, zay, zaz, zaA, zaB, zaC, zaD, zaE, zaF, zaG, zaH, zaI, zaJ, zaK, zaL, zaM, zaN, zaO, zaP, zaQ, zaR, zaS, zaT, zaU, zaV, startE, full, fullE, clean, cleanE, zaW, zaX, zaY, zaZ, zba, zbb, zbc, zbd, zbe, zbf, zbg, zbh, zbi, zbj, zbk, zbl, zbm, zbn, zbo, zbp, zbq, zbr, zbs, zbt, zbu, zbv, zbw, zbx, zby, zbz, zbA, zbB, zbC, zbD, zbE, zbF, zbG, zbH, zbI, zbJ, zbK, zbL, zbM, zbN, zbO, zbP, Bool.bne_false, Bool.bne_true, zbQ, zbR, zbS, zbT, zbU, zbV, zbW, zbX, zbY, zbZ, zca, zcb, zcc, zcd, zce, zcf, zcg, zch, zci, zcj, zck, zcl, zcm, zcn, zco, setAll, wipeR, setV, zcp, zcq, zcr, zcs, zct, zcu, zcv, zcw, zcx, zcy, zcz, zcA, zcB, zcC, List.any_cons, List.any_nil, List.map_cons, List.map_nil, List.length_cons, List.length_nil, List.replicate, Nat.sub_self, List.cons_append, List.nil_append, List.append_nil, List.getElem?_cons_zero, List.getElem?_cons_succ, List.set_cons_zero, List.set_cons_succ, List.set_nil, zcD, zcE, zcF, zcG, zcH, zcI, zcJ, zcK, zcL, zcM, zcN, zcO, zcP, zcQ, zcR, zcS, zcT, zcU, zcV, zcW, zcX, zcY, zcZ, zda, zdb, zdc, zdd, zde, zdf, zdg, zdh, zdi, zdj, zdk, zdl, zdm, zdn, zdo, zdp, zdq, zdr, zds, zdt, zdu, zdv, zdw, zdx, zdy, zdz, zdA, zdB, zdC, zdD, zdE, zdF, zdG]
  exact keys_slots hl q
theorem order_rows {h c o : String} {R : List (List Int)} (hl : R.flatten.length ≤ 1000) (q : Q (.tuple (intsD R.flatten))) : m_order_in [rowsW h c o, tabD (.r R)] Q E := by
  simp only [b1_order_in_r, m_order_in_r, zaa, zab, zac, zad, zae, zaf, zag, zah, zai, zaj, zak, zal, zam, zan, zao, zap, zaq, zar, zas, zat, zau, zav, zaw, zax, zay, zaz, zaA, zaB, zaC, zaD, zaE, zaF, zaG, zaH, zaI, zaJ, zaK, zaL, zaM, zaN, zaO, zaP, zaQ, zaR, zaS, zaT, zaU, zaV, startE, full, fullE, clean, cleanE, zaW, zaX, zaY, zaZ, zba, zbb, zbc, zbd, zbe, zbf, zbg, zbh, zbi, zbj, zbk, zbl, zbm, zbn, zbo, zbp, zbq, zbr, zbs, zbt, zbu, zbv, zbw, zbx, zby, zbz, zbA, zbB, zbC, zbD, zbE, zbF, zbG, zbH, zbI, zbJ, zbK, zbL, zbM, zbN, zbO, zbP, Bool.bne_false, Bool.bne_true, zbQ, zbR, zbS, zbT, zbU, zbV, zbW, zbX, zbY, zbZ, zca, zcb, zcc, zcd, zce, zcf, zcg, zch, zci, zcj, zck, zcl, zcm, zcn, zco, setAll, wipeR, setV, zcp, zcq, zcr, zcs, zct, zcu, zcv, zcw, zcx, zcy, zcz, zcA, zcB, zcC, List.any_cons, List.any_nil, List.map_cons, List.map_nil, List.length_cons, List.length_nil, List.replicate, Nat.sub_self, List.cons_append, List.nil_append, List.append_nil, List.getElem?_cons_zero, List.getElem?_cons_succ, List.set_cons_zero, List.set_cons_succ, List.set_nil, zcD, zcE, zcF, zcG, zcH, zcI, zcJ, zcK, zcL, zcM, zcN, zcO, zcP, zcQ, zcR, zcS, zcT, zcU, zcV, zcW, zcX, zcY, zcZ, zda, zdb, zdc, zdd, zde, zdf, zdg, zdh, zdi, zdj, zdk, zdl, zdm, zdn, zdo, zdp, zdq, zdr, zds, zdt, zdu, zdv, zdw, zdx, zdy, zdz, zdA, zdB, zdC, zdD, zdE, zdF, zdG]
  exact keys_rows hl q
theorem once_ok {l : List Int} (hl : l.length ≤ 1000) (q : Q (.list (intsD (once [] l)))) : m_each_once [.list (intsD l)] Q E := by
  simp only [b1_each_once_r, m_each_once_r, zaa, zab, zac, zad, zae, zaf, zag, zah, zai, zaj, zak, zal, zam, zan, zao, zap, zaq, zar, zas, zat, zau, zav, zaw, zax, zay, zaz, zaA, zaB, zaC, zaD, zaE, zaF, zaG, zaH, zaI, zaJ, zaK, zaL, zaM, zaN, zaO, zaP, zaQ, zaR, zaS, zaT, zaU, zaV, startE, full, fullE, clean, cleanE, zaW, zaX, zaY, zaZ, zba, zbb, zbc, zbd, zbe, zbf, zbg, zbh, zbi, zbj, zbk, zbl, zbm, zbn, zbo, zbp, zbq, zbr, zbs, zbt, zbu, zbv, zbw, zbx, zby, zbz, zbA, zbB, zbC, zbD, zbE, zbF, zbG, zbH, zbI, zbJ, zbK, zbL, zbM, zbN, zbO, zbP, Bool.bne_false, Bool.bne_true, zbQ, zbR, zbS, zbT, zbU, zbV, zbW, zbX, zbY, zbZ, zca, zcb, zcc, zcd, zce, zcf, zcg, zch, zci, zcj, zck, zcl, zcm, zcn, zco, setAll, wipeR, setV, zcp, zcq, zcr, zcs, zct, zcu, zcv, zcw, zcx, zcy, zcz, zcA, zcB, zcC, List.any_cons, List.any_nil, List.map_cons, List.map_nil, List.length_cons, List.length_nil, List.replicate, Nat.sub_self, List.cons_append, List.nil_append, List.append_nil, List.getElem?_cons_zero, List.getElem?_cons_succ, List.set_cons_zero, List.set_cons_succ, List.set_nil, zcD, zcE, zcF, zcG, zcH, zcI, zcJ, zcK, zcL, zcM, zcN, zcO, zcP, zcQ, zcR, zcS, zcT, zcU, zcV, zcW, zcX, zcY, zcZ, zda, zdb, zdc, zdd, zde, zdf, zdg, zdh, zdi, zdj, zdk, zdl, zdm, zdn, zdo, zdp, zdq, zdr, zds, zdt, zdu, zdv, zdw, zdx, zdy, zdz, zdA, zdB, zdC, zdD, zdE, zdF, zdG]
  refine ⟨by decide, ?_⟩
  generalize e0 : once [] l = m at q
  refine forLoop_mp PyData.int (fun r Γ => ∃ acc x, Γ = [some (.val (.list (intsD l))), some (.own (.lst (intsD acc))), x] ∧ acc.length + r.length ≤ 1000 ∧ once acc r = m) (fun Γ ⟨acc, x, e, _, h⟩ => ?_) l (fun a r Γ ⟨acc, x, e, hl, h⟩ nx hnx => ?_) _ ⟨[], none, rfl, by simpa using hl, e0⟩
  · subst e
    simp only [zaa, zab, zac, zad, zae, zaf, zag, zah, zai, zaj, zak, zal, zam, zan, zao, zap, zaq, zar, zas, zat, zau, zav, zaw, zax, zay, zaz, zaA, zaB, zaC, zaD, zaE, zaF, zaG, zaH, zaI, zaJ, zaK, zaL, zaM, zaN, zaO, zaP, zaQ, zaR, zaS, zaT, zaU, zaV, startE, full, fullE, clean, cleanE, zaW, zaX, zaY, zaZ, zba, zbb, zbc, zbd, zbe, zbf, zbg, zbh, zbi, zbj, zbk, zbl, zbm, zbn, zbo, zbp, zbq, zbr, zbs, zbt, zbu, zbv, zbw, zbx, zby, zbz, zbA, zbB, zbC, zbD, zbE, zbF, zbG, zbH, zbI, zbJ, zbK, zbL, zbM, zbN, zbO, zbP, Bool.bne_false, Bool.bne_true, zbQ, zbR, zbS, zbT, zbU, zbV, zbW, zbX, zbY, zbZ, zca, zcb, zcc, zcd, zce, zcf, zcg, zch, zci, zcj, zck, zcl, zcm, zcn, zco, setAll, wipeR, setV, zcp, zcq, zcr, zcs, zct, zcu, zcv, zcw, zcx, zcy, zcz, zcA, zcB, zcC, List.any_cons, List.any_nil, List.map_cons, List.map_nil, List.length_cons, List.length_nil, List.replicate, Nat.sub_self, List.cons_append, List.nil_append, List.append_nil, List.getElem?_cons_zero, List.getElem?_cons_succ, List.set_cons_zero, List.set_cons_succ, List.set_nil, zcD, zcE, zcF, zcG, zcH, zcI, zcJ, zcK, zcL, zcM, zcN, zcO, zcP, zcQ, zcR, zcS, zcT, zcU, zcV, zcW, zcX, zcY, zcZ, zda, zdb, zdc, zdd, zde, zdf, zdg, zdh, zdi, zdj, zdk, zdl, zdm, zdn, zdo, zdp, zdq, zdr, zds, zdt, zdu, zdv, zdw, zdx, zdy, zdz, zdA, zdB, zdC, zdD, zdE, zdF, zdG]
    rw [once_nil] at h
    rw [h]
    exact q
  · subst e
    simp only [List.length_cons] at hl
    simp only [b1_each_once_r, m_each_once_r, zaa, zab, zac, zad, zae, zaf, zag, zah, zai, zaj, zak, zal, zam, zan, zao, zap, zaq, zar, zas, zat, zau, zav, zaw, zax, zay, zaz, zaA, zaB, zaC, zaD, zaE, zaF, zaG, zaH, zaI, zaJ, zaK, zaL, zaM, zaN, zaO, zaP, zaQ, zaR, zaS, zaT, zaU, zaV, startE, full, fullE, clean, cleanE, zaW, zaX, zaY, zaZ, zba, zbb, zbc, zbd, zbe, zbf, zbg, zbh, zbi, zbj, zbk, zbl, zbm, zbn, zbo, zbp, zbq, zbr, zbs, zbt, zbu, zbv, zbw, zbx, zby, zbz, zbA, zbB, zbC, zbD, zbE, zbF, zbG, zbH, zbI, zbJ, zbK, zbL, zbM, zbN, zbO, zbP, Bool.bne_false, Bool.bne_true, zbQ, zbR, zbS, zbT, zbU, zbV, zbW, zbX, zbY, zbZ, zca, zcb, zcc, zcd, zce, zcf, zcg, zch, zci, zcj, zck, zcl, zcm, zcn, zco, setAll, wipeR, setV, zcp, zcq, zcr, zcs, zct, zcu, zcv, zcw, zcx, zcy, zcz, zcA, zcB, zcC, List.any_cons, List.any_nil, List.map_cons, List.map_nil, List.length_cons, List.length_nil, List.replicate, Nat.sub_self, List.cons_append, List.nil_append, List.append_nil, List.getElem?_cons_zero, List.getElem?_cons_succ, List.set_cons_zero, List.set_cons_succ, List.set_nil, zcD, zcE, zcF, zcG, zcH, zcI, zcJ, zcK, zcL, zcM, zcN, zcO, zcP, zcQ, zcR, zcS, zcT, zcU, zcV, zcW, zcX, zcY, zcZ, zda, zdb, zdc, zdd, zde, zdf, zdg, zdh, zdi, zdj, zdk, zdl, zdm, zdn, zdo, zdp, zdq, zdr, zds, zdt, zdu, zdv, zdw, zdx, zdy, zdz, zdA, zdB, zdC, zdD, zdE, zdF, zdG, sh_intsL, anyI, true_and]
    rw [once_cons] at h
    by_cases hm : a ∈ acc
    · rw [if_pos hm] at h
      simp only [hm, reduceIte, Bool.false_eq_true, decide_true, decide_false, Bool.not_true, Bool.not_false, true_and, and_true, decide_not, Bool.true_bne, Bool.false_bne, Bool.not_not, zaa, zab, zac, zad, zae, zaf, zag, zah, zai, zaj, zak, zal, zam, zan, zao, zap, zaq, zar, zas, zat, zau, zav, zaw, zax, zay, zaz, zaA, zaB, zaC, zaD, zaE, zaF, zaG, zaH, zaI, zaJ, zaK, zaL, zaM, zaN, zaO, zaP, zaQ, zaR, zaS, zaT, zaU, zaV, startE, full, fullE, clean, cleanE, zaW, zaX, zaY, zaZ, zba, zbb, zbc, zbd, zbe, zbf, zbg, zbh, zbi, zbj, zbk, zbl, zbm, zbn, zbo, zbp, zbq, zbr, zbs, zbt, zbu, zbv, zbw, zbx, zby, zbz, zbA, zbB, zbC, zbD, zbE, zbF, zbG, zbH, zbI, zbJ, zbK, zbL, zbM, zbN, zbO, zbP, Bool.bne_false, Bool.bne_true, zbQ, zbR, zbS, zbT, zbU, zbV, zbW, zbX, zbY, zbZ, zca, zcb, zcc, zcd, zce, zcf, zcg, zch, zci, zcj, zck, zcl, zcm, zcn, zco, setAll, wipeR, setV, zcp, zcq, zcr, zcs, zct, zcu, zcv, zcw, zcx, zcy, zcz, zcA, zcB, zcC, List.any_cons, List.any_nil, List.map_cons, List.map_nil, List.length_cons, List.length_nil, List.replicate, Nat.sub_self, List.cons_append, List.nil_append, List.append_nil, List.getElem?_cons_zero, List.getElem?_cons_succ, List.set_cons_zero, List.set_cons_succ, List.set_nil, zcD, zcE, zcF, zcG, zcH, zcI, zcJ, zcK, zcL, zcM, zcN, zcO, zcP, zcQ, zcR, zcS, zcT, zcU, zcV, zcW, zcX, zcY, zcZ, zda, zdb, zdc, zdd, zde, zdf, zdg, zdh, zdi, zdj, zdk, zdl, zdm, zdn, zdo, zdp, zdq, zdr, zds, zdt, zdu, zdv, zdw, zdx, zdy, zdz, zdA, zdB, zdC, zdD, zdE, zdF, zdG]
      exact hnx _ ⟨acc, _, rfl, by omega, h⟩
    · rw [if_neg hm] at h
      simp only [hm, reduceIte, Bool.false_eq_true, decide_true, decide_false, Bool.not_true, Bool.not_false, true_and, and_true, decide_not, Bool.true_bne, Bool.false_bne, Bool.not_not, zaa, zab, zac, zad, zae, zaf, zag, zah, zai, zaj, zak, zal, zam, zan, zao, zap, zaq, zar, zas, zat, zau, zav, zaw, zax, zay, zaz, zaA, zaB, zaC, zaD, zaE, zaF, zaG, zaH, zaI, zaJ, zaK, zaL, zaM, zaN, zaO, zaP, zaQ, zaR, zaS, zaT, zaU, zaV, startE, full, fullE, clean, cleanE, zaW, zaX, zaY, zaZ, zba, zbb, zbc, zbd, zbe, zbf, zbg, zbh, zbi, zbj, zbk, zbl, zbm, zbn, zbo, zbp, zbq, zbr, zbs, zbt, zbu, zbv, zbw, zbx, zby, zbz, zbA, zbB, zbC, zbD, zbE, zbF, zbG, zbH, zbI, zbJ, zbK, zbL, zbM, zbN, zbO, zbP, Bool.bne_false, Bool.bne_true, zbQ, zbR, zbS, zbT, zbU, zbV, zbW, zbX, zbY, zbZ, zca, zcb, zcc, zcd, zce, zcf, zcg, zch, zci, zcj, zck, zcl, zcm, zcn, zco, setAll, wipeR, setV, zcp, zcq, zcr, zcs, zct, zcu, zcv, zcw, zcx, zcy, zcz, zcA, zcB, zcC, List.any_cons, List.any_nil, List.map_cons, List.map_nil, List.length_cons, List.length_nil, List.replicate, Nat.sub_self, List.cons_append, List.nil_append, List.append_nil, List.getElem?_cons_zero, List.getElem?_cons_succ, List.set_cons_zero, List.set_cons_succ, List.set_nil, zcD, zcE, zcF, zcG, zcH, zcI, zcJ, zcK, zcL, zcM, zcN, zcO, zcP, zcQ, zcR, zcS, zcT, zcU, zcV, zcW, zcX, zcY, zcZ, zda, zdb, zdc, zdd, zde, zdf, zdg, zdh, zdi, zdj, zdk, zdl, zdm, zdn, zdo, zdp, zdq, zdr, zds, zdt, zdu, zdv, zdw, zdx, zdy, zdz, zdA, zdB, zdC, zdD, zdE, zdF, zdG]
      refine ⟨by rw [intsD_len]; omega, ?_⟩
      refine hnx _ ⟨acc ++ [a], some (.val (.int a)), ?_, by simp; omega, h⟩
      simp [intsD]
theorem used_slots {h st c g gr : String} {T : List Int} (hl : T.length ≤ 1000) (q : Q (.int (used T))) : m_used_in [slotsW h st c g gr, .tuple (intsD T)] Q E := by
  simp [b1_used_in_r, b2_used_in_r, b3_used_in_r, m_used_in_r, slotsW, zaa, zab, zac, zad, zae, zaf, zag, zah, zai, zaj, zak, zal, zam, zan, zao, zap, zaq, zar, zas, zat, zau, zav, zaw, zax, zay, zaz, zaA, zaB, zaC, zaD, zaE, zaF, zaG, zaH, zaI, zaJ, zaK, zaL, zaM, zaN, zaO, zaP, zaQ, zaR, zaS, zaT, zaU, zaV, startE, full, fullE, clean, cleanE, zaW, zaX, zaY, zaZ, zba, zbb, zbc, zbd, zbe, zbf, zbg, zbh, zbi, zbj, zbk, zbl, zbm, zbn, zbo, zbp, zbq, zbr, zbs, zbt, zbu, zbv, zbw, zbx, zby, zbz, zbA, zbB, zbC, zbD, zbE, zbF, zbG, zbH, zbI, zbJ, zbK, zbL, zbM, zbN, zbO, zbP, Bool.bne_false, Bool.bne_true, zbQ, zbR, zbS, zbT, zbU, zbV, zbW, zbX, zbY, zbZ, zca, zcb, zcc, zcd, zce, zcf, zcg, zch, zci, zcj, zck, zcl, zcm, zcn, zco, setAll, wipeR, setV, zcp, zcq, zcr, zcs, zct, zcu, zcv, zcw, zcx, zcy, zcz, zcA, zcB, zcC, List.any_cons, List.any_nil, List.map_cons, List.map_nil, List.length_cons, List.length_nil, List.replicate, Nat.sub_self, List.cons_append, List.nil_append, List.append_nil, List.getElem?_cons_zero, List.getElem?_cons_succ, List.set_cons_zero, List.set_cons_succ, List.set_nil, zcD, zcE, zcF, zcG, zcH, zcI, zcJ, zcK, zcL, zcM, zcN, zcO, zcP, zcQ, zcR, zcS, zcT, zcU, zcV, zcW, zcX, zcY, zcZ, zda, zdb, zdc, zdd, zde, zdf, zdg, zdh, zdi, zdj, zdk, zdl, zdm, zdn, zdo, zdp, zdq, zdr, zds, zdt, zdu, zdv, zdw, zdx, zdy, zdz, zdA, zdB, zdC, zdD, zdE, zdF, zdG]
  refine ⟨by rw [intsD_len]; omega, lcLoop_fm PyData.int (fun x => decide (x ≠ -1)) PyData.int (fun a ha k hk => ?_) ?_⟩
  · simp only [zaa, zab, zac, zad, zae, zaf, zag, zah, zai, zaj, zak, zal, zam, zan, zao, zap, zaq, zar, zas, zat, zau, zav, zaw, zax, zay, zaz, zaA, zaB, zaC, zaD, zaE, zaF, zaG, zaH, zaI, zaJ, zaK, zaL, zaM, zaN, zaO, zaP, zaQ, zaR, zaS, zaT, zaU, zaV, startE, full, fullE, clean, cleanE, zaW, zaX, zaY, zaZ, zba, zbb, zbc, zbd, zbe, zbf, zbg, zbh, zbi, zbj, zbk, zbl, zbm, zbn, zbo, zbp, zbq, zbr, zbs, zbt, zbu, zbv, zbw, zbx, zby, zbz, zbA, zbB, zbC, zbD, zbE, zbF, zbG, zbH, zbI, zbJ, zbK, zbL, zbM, zbN, zbO, zbP, Bool.bne_false, Bool.bne_true, zbQ, zbR, zbS, zbT, zbU, zbV, zbW, zbX, zbY, zbZ, zca, zcb, zcc, zcd, zce, zcf, zcg, zch, zci, zcj, zck, zcl, zcm, zcn, zco, setAll, wipeR, setV, zcp, zcq, zcr, zcs, zct, zcu, zcv, zcw, zcx, zcy, zcz, zcA, zcB, zcC, List.any_cons, List.any_nil, List.map_cons, List.map_nil, List.length_cons, List.length_nil, List.replicate, Nat.sub_self, List.cons_append, List.nil_append, List.append_nil, List.getElem?_cons_zero, List.getElem?_cons_succ, List.set_cons_zero, List.set_cons_succ, List.set_nil, zcD, zcE, zcF, zcG, zcH, zcI, zcJ, zcK, zcL, zcM, zcN, zcO, zcP, zcQ, zcR, zcS, zcT, zcU, zcV, zcW, zcX, zcY, zcZ, zda, zdb, zdc, zdd, zde, zdf, zdg, zdh, zdi, zdj, zdk, zdl, zdm, zdn, zdo, zdp, zdq, zdr, zds, zdt, zdu, zdv, zdw, zdx, zdy, zdz, zdA, zdB, zdC, zdD, zdE, zdF, zdG]
    by_cases e : a = -1
    · simpa [e] using hk
    · simpa [e] using hk
  · rw [List.length_map, ← List.countP_eq_length_filter]
    exact q
theorem used_rows {h c o : String} {R : List (List Int)} (hl : R.flatten.length ≤ 1000) (q : Q (.int R.flatten.length)) : m_used_in [rowsW h c o, tabD (.r R)] Q E := by
  simp only [b1_used_in_r, b2_used_in_r, b3_used_in_r, m_used_in_r, rowsW, zaa, zab, zac, zad, zae, zaf, zag, zah, zai, zaj, zak, zal, zam, zan, zao, zap, zaq, zar, zas, zat, zau, zav, zaw, zax, zay, zaz, zaA, zaB, zaC, zaD, zaE, zaF, zaG, zaH, zaI, zaJ, zaK, zaL, zaM, zaN, zaO, zaP, zaQ, zaR, zaS, zaT, zaU, zaV, startE, full, fullE, clean, cleanE, zaW, zaX, zaY, zaZ, zba, zbb, zbc, zbd, zbe, zbf, zbg, zbh, zbi, zbj, zbk, zbl, zbm, zbn, zbo, zbp, zbq, zbr, zbs, zbt, zbu, zbv, zbw, zbx, zby, zbz, zbA, zbB, zbC, zbD, zbE, zbF, zbG, zbH, zbI, zbJ, zbK, zbL, zbM, zbN, zbO, zbP, Bool.bne_false, Bool.bne_true, zbQ, zbR, zbS, zbT, zbU, zbV, zbW, zbX, zbY, zbZ, zca, zcb, zcc, zcd, zce, zcf, zcg, zch, zci, zcj, zck, zcl, zcm, zcn, zco, setAll, wipeR, setV, zcp, zcq, zcr, zcs, zct, zcu, zcv, zcw, zcx, zcy, zcz, zcA, zcB, zcC, List.any_cons, List.any_nil, List.map_cons, List.map_nil, List.length_cons, List.length_nil, List.replicate, Nat.sub_self, List.cons_append, List.nil_append, List.append_nil, List.getElem?_cons_zero, List.getElem?_cons_succ, List.set_cons_zero, List.set_cons_succ, List.set_nil, zcD, zcE, zcF, zcG, zcH, zcI, zcJ, zcK, zcL, zcM, zcN, zcO, zcP, zcQ, zcR, zcS, zcT, zcU, zcV, zcW, zcX, zcY, zcZ, zda, zdb, zdc, zdd, zde, zdf, zdg, zdh, zdi, zdj, zdk, zdl, zdm, zdn, zdo, zdp, zdq, zdr, zds, zdt, zdu, zdv, zdw, zdx, zdy, zdz, zdA, zdB, zdC, zdD, zdE, zdF, zdG]
  simp [zaa, zab, zac, zad, zae, zaf, zag, zah, zai, zaj, zak, zal, zam, zan, zao, zap, zaq, zar, zas, zat, zau, zav, zaw, zax, zay, zaz, zaA, zaB, zaC, zaD, zaE, zaF, zaG, zaH, zaI, zaJ, zaK, zaL, zaM, zaN, zaO, zaP, zaQ, zaR, zaS, zaT, zaU, zaV, startE, full, fullE, clean, cleanE, zaW, zaX, zaY, zaZ, zba, zbb, zbc, zbd, zbe, zbf, zbg, zbh, zbi, zbj, zbk, zbl, zbm, zbn, zbo, zbp, zbq, zbr, zbs, zbt, zbu, zbv, zbw, zbx, zby, zbz, zbA, zbB, zbC, zbD, zbE, zbF, zbG, zbH, zbI, zbJ, zbK, zbL, zbM, zbN, zbO, zbP, Bool.bne_false, Bool.bne_true, zbQ, zbR, zbS, zbT, zbU, zbV, zbW, zbX, zbY, zbZ, zca, zcb, zcc, zcd, zce, zcf, zcg, zch, zci, zcj, zck, zcl, zcm, zcn, zco, setAll, wipeR, setV, zcp, zcq, zcr, zcs, zct, zcu, zcv, zcw, zcx, zcy, zcz, zcA, zcB, zcC, List.any_cons, List.any_nil, List.map_cons, List.map_nil, List.length_cons, List.length_nil, List.replicate, Nat.sub_self, List.cons_append, List.nil_append, List.append_nil, List.getElem?_cons_zero, List.getElem?_cons_succ, List.set_cons_zero, List.set_cons_succ, List.set_nil, zcD, zcE, zcF, zcG, zcH, zcI, zcJ, zcK, zcL, zcM, zcN, zcO, zcP, zcQ, zcR, zcS, zcT, zcU, zcV, zcW, zcX, zcY, zcZ, zda, zdb, zdc, zdd, zde, zdf, zdg, zdh, zdi, zdj, zdk, zdl, zdm, zdn, zdo, zdp, zdq, zdr, zds, zdt, zdu, zdv, zdw, zdx, zdy, zdz, zdA, zdB, zdC, zdD, zdE, zdF, zdG]
  refine keys_rows hl ?_
  simp only [zaa, zab, zac, zad, zae, zaf, zag, zah, zai, zaj, zak, zal, zam, zan, zao, zap, zaq, zar, zas, zat, zau, zav, zaw, zax, zay, zaz, zaA, zaB, zaC, zaD, zaE, zaF, zaG, zaH, zaI, zaJ, zaK, zaL, zaM, zaN, zaO, zaP, zaQ, zaR, zaS, zaT, zaU, zaV, startE, full, fullE, clean, cleanE, zaW, zaX, zaY, zaZ, zba, zbb, zbc, zbd, zbe, zbf, zbg, zbh, zbi, zbj, zbk, zbl, zbm, zbn, zbo, zbp, zbq, zbr, zbs, zbt, zbu, zbv, zbw, zbx, zby, zbz, zbA, zbB, zbC, zbD, zbE, zbF, zbG, zbH, zbI, zbJ, zbK, zbL, zbM, zbN, zbO, zbP, Bool.bne_false, Bool.bne_true, zbQ, zbR, zbS, zbT, zbU, zbV, zbW, zbX, zbY, zbZ, zca, zcb, zcc, zcd, zce, zcf, zcg, zch, zci, zcj, zck, zcl, zcm, zcn, zco, setAll, wipeR, setV, zcp, zcq, zcr, zcs, zct, zcu, zcv, zcw, zcx, zcy, zcz, zcA, zcB, zcC, List.any_cons, List.any_nil, List.map_cons, List.map_nil, List.length_cons, List.length_nil, List.replicate, Nat.sub_self, List.cons_append, List.nil_append, List.append_nil, List.getElem?_cons_zero, List.getElem?_cons_succ, List.set_cons_zero, List.set_cons_succ, List.set_nil, zcD, zcE, zcF, zcG, zcH, zcI, zcJ, zcK, zcL, zcM, zcN, zcO, zcP, zcQ, zcR, zcS, zcT, zcU, zcV, zcW, zcX, zcY, zcZ, zda, zdb, zdc, zdd, zde, zdf, zdg, zdh, zdi, zdj, zdk, zdl, zdm, zdn, zdo, zdp, zdq, zdr, zds, zdt, zdu, zdv, zdw, zdx, zdy, zdz, zdA, zdB, zdC, zdD, zdE, zdF, zdG, intsD_len]
  exact q
end
end G6

namespace G6
open PySem PySem.Spec L2 DL TM
section
variable {Q : D → Prop} {E : Str → Prop}
theorem distance_ok {h st c g gr : String} {k s n : Int} (hn : SizeOk n) (q : Q (.int (dist h st k s n))) : m_distance [slotsW h st c g gr, .int k, .int s, .int n] Q E := by
  obtain ⟨hn0, hn1⟩ := small hn
  unfold dist at q
  simp only [m_distance_r, b1_distance_r, zaa, zab, zac, zad, zae, zaf, zag, zah, zai, zaj, zak, zal, zam, zan, zao, zap, zaq, zar, zas, zat, zau, zav, zaw, zax, zay, zaz, zaA, zaB, zaC, zaD, zaE, zaF, zaG, zaH, zaI, zaJ, zaK, zaL, zaM, zaN, zaO, zaP, zaQ, zaR, zaS, zaT, zaU, zaV, startE, full, fullE, clean, cleanE, zaW, zaX, zaY, zaZ, zba, zbb, zbc, zbd, zbe, zbf, zbg, zbh, zbi, zbj, zbk, zbl, zbm, zbn, zbo, zbp, zbq, zbr, zbs, zbt, zbu, zbv, zbw, zbx, zby, zbz, zbA, zbB, zbC, zbD, zbE, zbF, zbG, zbH, zbI, zbJ, zbK, zbL, zbM, zbN, zbO, zbP, Bool.bne_false, Bool.bne_true, zbQ, zbR, zbS, zbT, zbU, zbV, zbW, zbX, zbY, zbZ, zca, zcb, zcc, zcd, zce, zcf, zcg, zch, zci, zcj, zck, zcl, zcm, zcn, zco, setAll, wipeR, setV, zcp, zcq, zcr, zcs, zct, zcu, zcv, zcw, zcx, zcy, zcz, zcA, zcB, zcC, List.any_cons, List.any_nil, List.map_cons, List.map_nil, List.length_cons, List.length_nil, List.replicate, Nat.sub_self, List.cons_append, List.nil_append, List.append_nil, List.getElem?_cons_zero, List.getElem?_cons_succ, List.set_cons_zero, List.set_cons_succ, List.set_nil, zcD, zcE, zcF, zcG, zcH, zcI, zcJ, zcK, zcL, zcM, zcN, zcO, zcP, zcQ, zcR, zcS, zcT, zcU, zcV, zcW, zcX, zcY, zcZ, zda, zdb, zdc, zdd, zde, zdf, zdg, zdh, zdi, zdj, zdk, zdl, zdm, zdn, zdo, zdp, zdq, zdr, zds, zdt, zdu, zdv, zdw, zdx, zdy, zdz, zdA, zdB, zdC, zdD, zdE, zdF, zdG]
  refine home_slots hn ?_
  simp only [b2_distance_r, slotsW, zaa, zab, zac, zad, zae, zaf, zag, zah, zai, zaj, zak, zal, zam, zan, zao, zap, zaq, zar, zas, zat, zau, zav, zaw, zax, zay, zaz, zaA, zaB, zaC, zaD, zaE, zaF, zaG, zaH, zaI, zaJ, zaK, zaL, zaM, zaN, zaO, zaP, zaQ, zaR, zaS, zaT, zaU, zaV, startE, full, fullE, clean, cleanE, zaW, zaX, zaY, zaZ, zba, zbb, zbc, zbd, zbe, zbf, zbg, zbh, zbi, zbj, zbk, zbl, zbm, zbn, zbo, zbp, zbq, zbr, zbs, zbt, zbu, zbv, zbw, zbx, zby, zbz, zbA, zbB, zbC, zbD, zbE, zbF, zbG, zbH, zbI, zbJ, zbK, zbL, zbM, zbN, zbO, zbP, Bool.bne_false, Bool.bne_true, zbQ, zbR, zbS, zbT, zbU, zbV, zbW, zbX, zbY, zbZ, zca, zcb, zcc, zcd, zce, zcf, zcg, zch, zci, zcj, zck, zcl, zcm, zcn, zco, setAll, wipeR, setV, zcp, zcq, zcr, zcs, zct, zcu, zcv, zcw, zcx, zcy, zcz, zcA, zcB, zcC, List.any_cons, List.any_nil, List.map_cons, List.map_nil, List.length_cons, List.length_nil, List.replicate, Nat.sub_self, List.cons_append, List.nil_append, List.append_nil, List.getElem?_cons_zero, List.getElem?_cons_succ, List.set_cons_zero, List.set_cons_succ, List.set_nil, zcD, zcE, zcF, zcG, zcH, zcI, zcJ, zcK, zcL, zcM, zcN, zcO, zcP, zcQ, zcR, zcS, zcT, zcU, zcV, zcW, zcX, zcY, zcZ, zda, zdb, zdc, zdd, zde, zdf, zdg, zdh, zdi, zdj, zdk, zdl, zdm, zdn, zdo, zdp, zdq, zdr, zds, zdt, zdu, zdv, zdw, zdx, zdy, zdz, zdA, zdB, zdC, zdD, zdE, zdF, zdG, reduceIte, Bool.false_eq_true, decide_true, decide_false, Bool.not_true, Bool.not_false, true_and, and_true, decide_not, Bool.true_bne, Bool.false_bne, Bool.not_not]
  by_cases e : st = "up"
  · rw [if_pos e] at q
    simp only [e, reduceIte, Bool.false_eq_true, decide_true, decide_false, Bool.not_true, Bool.not_false, true_and, and_true, decide_not, Bool.true_bne, Bool.false_bne, Bool.not_not, zaa, zab, zac, zad, zae, zaf, zag, zah, zai, zaj, zak, zal, zam, zan, zao, zap, zaq, zar, zas, zat, zau, zav, zaw, zax, zay, zaz, zaA, zaB, zaC, zaD, zaE, zaF, zaG, zaH, zaI, zaJ, zaK, zaL, zaM, zaN, zaO, zaP, zaQ, zaR, zaS, zaT, zaU, zaV, startE, full, fullE, clean, cleanE, zaW, zaX, zaY, zaZ, zba, zbb, zbc, zbd, zbe, zbf, zbg, zbh, zbi, zbj, zbk, zbl, zbm, zbn, zbo, zbp, zbq, zbr, zbs, zbt, zbu, zbv, zbw, zbx, zby, zbz, zbA, zbB, zbC, zbD, zbE, zbF, zbG, zbH, zbI, zbJ, zbK, zbL, zbM, zbN, zbO, zbP, Bool.bne_false, Bool.bne_true, zbQ, zbR, zbS, zbT, zbU, zbV, zbW, zbX, zbY, zbZ, zca, zcb, zcc, zcd, zce, zcf, zcg, zch, zci, zcj, zck, zcl, zcm, zcn, zco, setAll, wipeR, setV, zcp, zcq, zcr, zcs, zct, zcu, zcv, zcw, zcx, zcy, zcz, zcA, zcB, zcC, List.any_cons, List.any_nil, List.map_cons, List.map_nil, List.length_cons, List.length_nil, List.replicate, Nat.sub_self, List.cons_append, List.nil_append, List.append_nil, List.getElem?_cons_zero, List.getElem?_cons_succ, List.set_cons_zero, List.set_cons_succ, List.set_nil, zcD, zcE, zcF, zcG, zcH, zcI, zcJ, zcK, zcL, zcM, zcN, zcO, zcP, zcQ, zcR, zcS, zcT, zcU, zcV, zcW, zcX, zcY, zcZ, zda, zdb, zdc, zdd, zde, zdf, zdg, zdh, zdi, zdj, zdk, zdl, zdm, zdn, zdo, zdp, zdq, zdr, zds, zdt, zdu, zdv, zdw, zdx, zdy, zdz, zdA, zdB, zdC, zdD, zdE, zdF, zdG]
    exact ⟨hn0, q⟩
  · rw [if_neg e] at q
    simp only [e, reduceIte, Bool.false_eq_true, decide_true, decide_false, Bool.not_true, Bool.not_false, true_and, and_true, decide_not, Bool.true_bne, Bool.false_bne, Bool.not_not, zaa, zab, zac, zad, zae, zaf, zag, zah, zai, zaj, zak, zal, zam, zan, zao, zap, zaq, zar, zas, zat, zau, zav, zaw, zax, zay, zaz, zaA, zaB, zaC, zaD, zaE, zaF, zaG, zaH, zaI, zaJ, zaK, zaL, zaM, zaN, zaO, zaP, zaQ, zaR, zaS, zaT, zaU, zaV, startE, full, fullE, clean, cleanE, zaW, zaX, zaY, zaZ, zba, zbb, zbc, zbd, zbe, zbf, zbg, zbh, zbi, zbj, zbk, zbl, zbm, zbn, zbo, zbp, zbq, zbr, zbs, zbt, zbu, zbv, zbw, zbx, zby, zbz, zbA, zbB, zbC, zbD, zbE, zbF, zbG, zbH, zbI, zbJ, zbK, zbL, zbM, zbN, zbO, zbP, Bool.bne_false, Bool.bne_true, zbQ, zbR, zbS, zbT, zbU, zbV, zbW, zbX, zbY, zbZ, zca, zcb, zcc, zcd, zce, zcf, zcg, zch, zci, zcj, zck, zcl, zcm, zcn, zco, setAll, wipeR, setV, zcp, zcq, zcr, zcs, zct, zcu, zcv, zcw, zcx, zcy, zcz, zcA, zcB, zcC, List.any_cons, List.any_nil, List.map_cons, List.map_nil, List.length_cons, List.length_nil, List.replicate, Nat.sub_self, List.cons_append, List.nil_append, List.append_nil, List.getElem?_cons_zero, List.getElem?_cons_succ, List.set_cons_zero, List.set_cons_succ, List.set_nil, zcD, zcE, zcF, zcG, zcH, zcI, zcJ, zcK, zcL, zcM, zcN, zcO, zcP, zcQ, zcR, zcS, zcT, zcU, zcV, zcW, zcX, zcY, zcZ, zda, zdb, zdc, zdd, zde, zdf, zdg, zdh, zdi, zdj, zdk, zdl, zdm, zdn, zdo, zdp, zdq, zdr, zds, zdt, zdu, zdv, zdw, zdx, zdy, zdz, zdA, zdB, zdC, zdD, zdE, zdF, zdG]
    exact ⟨hn0, q⟩
/-! ### looking -/
def optD : Option Int → D
  | none => .none
  | some s => .int s
theorem found_slots_loop {w : D} {T : List Int} {k : Int} {a : Option Ent} {kk : KS} (hT : T.length ≤ 1000) : ∀ (p : List Int) (l : Int), (∀ s ∈ p, 0 ≤ s ∧ s < T.length) → kk.rt (.tuple [optD (seek T k p l).1, .int (seek T k p l).2]) →
    (∀ Γ, (∃ x l', Γ = [some (.val w), some (.val (.tuple (intsD T))), some (.val (.int k)), some (.val (.int l')), x, a] ∧ kk.rt (.tuple [.none, .int l'])) → kk.nx Γ) →
    ∀ x, forLoop (.name 4) b8_found_at kk (intsD p) [some (.val w), some (.val (.tuple (intsD T))), some (.val (.int k)), some (.val (.int l)), x, a]
  | [], l, _, q, hn, x => by
    show kk.nx _
    exact hn _ ⟨x, l, rfl, by simpa [seek, optD] using q⟩
  | s :: p, l, hp, q, hn, x => by
    obtain ⟨h0, h1⟩ := hp s List.mem_cons_self
    show orStuck (bindT _ (.int s)) _
    simp only [b8_found_at_r, b6_found_at_r, b7_found_at_r, zaa, zab, zac, zad, zae, zaf, zag, zah, zai, zaj, zak, zal, zam, zan, zao, zap, zaq, zar, zas, zat, zau, zav, zaw, zax, zay, zaz, zaA, zaB, zaC, zaD, zaE, zaF, zaG, zaH, zaI, zaJ, zaK, zaL, zaM, zaN, zaO, zaP, zaQ, zaR, zaS, zaT, zaU, zaV, startE, full, fullE, clean, cleanE, zaW, zaX, zaY, zaZ, zba, zbb, zbc, zbd, zbe, zbf, zbg, zbh, zbi, zbj, zbk, zbl, zbm, zbn, zbo, zbp, zbq, zbr, zbs, zbt, zbu, zbv, zbw, zbx, zby, zbz, zbA, zbB, zbC, zbD, zbE, zbF, zbG, zbH, zbI, zbJ, zbK, zbL, zbM, zbN, zbO, zbP, Bool.bne_false, Bool.bne_true, zbQ, zbR, zbS, zbT, zbU, zbV, zbW, zbX, zbY, zbZ, zca, zcb, zcc, zcd, zce, zcf, zcg, zch, zci, zcj, zck, zcl, zcm, zcn, zco, setAll, wipeR, setV, zcp, zcq, zcr, zcs, zct, zcu, zcv, zcw, zcx, zcy, zcz, zcA, zcB, zcC, List.any_cons, List.any_nil, List.map_cons, List.map_nil, List.length_cons, List.length_nil, List.replicate, Nat.sub_self, List.cons_append, List.nil_append, List.append_nil, List.getElem?_cons_zero, List.getElem?_cons_succ, List.set_cons_zero, List.set_cons_succ, List.set_nil, zcD, zcE, zcF, zcG, zcH, zcI, zcJ, zcK, zcL, zcM, zcN, zcO, zcP, zcQ, zcR, zcS, zcT, zcU, zcV, zcW, zcX, zcY, zcZ, zda, zdb, zdc, zdd, zde, zdf, zdg, zdh, zdi, zdj, zdk, zdl, zdm, zdn, zdo, zdp, zdq, zdr, zds, zdt, zdu, zdv, zdw, zdx, zdy, zdz, zdA, zdB, zdC, zdD, zdE, zdF, zdG, tget h0 h1, reduceIte, Bool.false_eq_true, decide_true, decide_false, Bool.not_true, Bool.not_false, true_and, and_true, decide_not, Bool.true_bne, Bool.false_bne, Bool.not_not]
    unfold seek at q
    by_cases e1 : ga T s = -1
    · rw [if_pos e1] at q
      simp only [e1, reduceIte, Bool.false_eq_true, decide_true, decide_false, Bool.not_true, Bool.not_false, true_and, and_true, decide_not, Bool.true_bne, Bool.false_bne, Bool.not_not, zaa, zab, zac, zad, zae, zaf, zag, zah, zai, zaj, zak, zal, zam, zan, zao, zap, zaq, zar, zas, zat, zau, zav, zaw, zax, zay, zaz, zaA, zaB, zaC, zaD, zaE, zaF, zaG, zaH, zaI, zaJ, zaK, zaL, zaM, zaN, zaO, zaP, zaQ, zaR, zaS, zaT, zaU, zaV, startE, full, fullE, clean, cleanE, zaW, zaX, zaY, zaZ, zba, zbb, zbc, zbd, zbe, zbf, zbg, zbh, zbi, zbj, zbk, zbl, zbm, zbn, zbo, zbp, zbq, zbr, zbs, zbt, zbu, zbv, zbw, zbx, zby, zbz, zbA, zbB, zbC, zbD, zbE, zbF, zbG, zbH, zbI, zbJ, zbK, zbL, zbM, zbN, zbO, zbP, Bool.bne_false, Bool.bne_true, zbQ, zbR, zbS, zbT, zbU, zbV, zbW, zbX, zbY, zbZ, zca, zcb, zcc, zcd, zce, zcf, zcg, zch, zci, zcj, zck, zcl, zcm, zcn, zco, setAll, wipeR, setV, zcp, zcq, zcr, zcs, zct, zcu, zcv, zcw, zcx, zcy, zcz, zcA, zcB, zcC, List.any_cons, List.any_nil, List.map_cons, List.map_nil, List.length_cons, List.length_nil, List.replicate, Nat.sub_self, List.cons_append, List.nil_append, List.append_nil, List.getElem?_cons_zero, List.getElem?_cons_succ, List.set_cons_zero, List.set_cons_succ, List.set_nil, zcD, zcE, zcF, zcG, zcH, zcI, zcJ, zcK, zcL, zcM, zcN, zcO, zcP, zcQ, zcR, zcS, zcT, zcU, zcV, zcW, zcX, zcY, zcZ, zda, zdb, zdc, zdd, zde, zdf, zdg, zdh, zdi, zdj, zdk, zdl, zdm, zdn, zdo, zdp, zdq, zdr, zds, zdt, zdu, zdv, zdw, zdx, zdy, zdz, zdA, zdB, zdC, zdD, zdE, zdF, zdG]
      simpa [optD] using q
    · rw [if_neg e1] at q
      simp only [e1, reduceIte, Bool.false_eq_true, decide_true, decide_false, Bool.not_true, Bool.not_false, true_and, and_true, decide_not, Bool.true_bne, Bool.false_bne, Bool.not_not, zaa, zab, zac, zad, zae, zaf, zag, zah, zai, zaj, zak, zal, zam, zan, zao, zap, zaq, zar, zas, zat, zau, zav, zaw, zax, zay, zaz, zaA, zaB, zaC, zaD, zaE, zaF, zaG, zaH, zaI, zaJ, zaK, zaL, zaM, zaN, zaO, zaP, zaQ, zaR, zaS, zaT, zaU, zaV, startE, full, fullE, clean, cleanE, zaW, zaX, zaY, zaZ, zba, zbb, zbc, zbd, zbe, zbf, zbg, zbh, zbi, zbj, zbk, zbl, zbm, zbn, zbo, zbp, zbq, zbr, zbs, zbt, zbu, zbv, zbw, zbx, zby, zbz, zbA, zbB, zbC, zbD, zbE, zbF, zbG, zbH, zbI, zbJ, zbK, zbL, zbM, zbN, zbO, zbP, Bool.bne_false, Bool.bne_true, zbQ, zbR, zbS, zbT, zbU, zbV, zbW, zbX, zbY, zbZ, zca, zcb, zcc, zcd, zce, zcf, zcg, zch, zci, zcj, zck, zcl, zcm, zcn, zco, setAll, wipeR, setV, zcp, zcq, zcr, zcs, zct, zcu, zcv, zcw, zcx, zcy, zcz, zcA, zcB, zcC, List.any_cons, List.any_nil, List.map_cons, List.map_nil, List.length_cons, List.length_nil, List.replicate, Nat.sub_self, List.cons_append, List.nil_append, List.append_nil, List.getElem?_cons_zero, List.getElem?_cons_succ, List.set_cons_zero, List.set_cons_succ, List.set_nil, zcD, zcE, zcF, zcG, zcH, zcI, zcJ, zcK, zcL, zcM, zcN, zcO, zcP, zcQ, zcR, zcS, zcT, zcU, zcV, zcW, zcX, zcY, zcZ, zda, zdb, zdc, zdd, zde, zdf, zdg, zdh, zdi, zdj, zdk, zdl, zdm, zdn, zdo, zdp, zdq, zdr, zds, zdt, zdu, zdv, zdw, zdx, zdy, zdz, zdA, zdB, zdC, zdD, zdE, zdF, zdG, tget h0 h1]
      by_cases e2 : ga T s = k
      · rw [if_pos e2] at q
        simp only [e2, reduceIte, Bool.false_eq_true, decide_true, decide_false, Bool.not_true, Bool.not_false, true_and, and_true, decide_not, Bool.true_bne, Bool.false_bne, Bool.not_not, zaa, zab, zac, zad, zae, zaf, zag, zah, zai, zaj, zak, zal, zam, zan, zao, zap, zaq, zar, zas, zat, zau, zav, zaw, zax, zay, zaz, zaA, zaB, zaC, zaD, zaE, zaF, zaG, zaH, zaI, zaJ, zaK, zaL, zaM, zaN, zaO, zaP, zaQ, zaR, zaS, zaT, zaU, zaV, startE, full, fullE, clean, cleanE, zaW, zaX, zaY, zaZ, zba, zbb, zbc, zbd, zbe, zbf, zbg, zbh, zbi, zbj, zbk, zbl, zbm, zbn, zbo, zbp, zbq, zbr, zbs, zbt, zbu, zbv, zbw, zbx, zby, zbz, zbA, zbB, zbC, zbD, zbE, zbF, zbG, zbH, zbI, zbJ, zbK, zbL, zbM, zbN, zbO, zbP, Bool.bne_false, Bool.bne_true, zbQ, zbR, zbS, zbT, zbU, zbV, zbW, zbX, zbY, zbZ, zca, zcb, zcc, zcd, zce, zcf, zcg, zch, zci, zcj, zck, zcl, zcm, zcn, zco, setAll, wipeR, setV, zcp, zcq, zcr, zcs, zct, zcu, zcv, zcw, zcx, zcy, zcz, zcA, zcB, zcC, List.any_cons, List.any_nil, List.map_cons, List.map_nil, List.length_cons, List.length_nil, List.replicate, Nat.sub_self, List.cons_append, List.nil_append, List.append_nil, List.getElem?_cons_zero, List.getElem?_cons_succ, List.set_cons_zero, List.set_cons_succ, List.set_nil, zcD, zcE, zcF, zcG, zcH, zcI, zcJ, zcK, zcL, zcM, zcN, zcO, zcP, zcQ, zcR, zcS, zcT, zcU, zcV, zcW, zcX, zcY, zcZ, zda, zdb, zdc, zdd, zde, zdf, zdg, zdh, zdi, zdj, zdk, zdl, zdm, zdn, zdo, zdp, zdq, zdr, zds, zdt, zdu, zdv, zdw, zdx, zdy, zdz, zdA, zdB, zdC, zdD, zdE, zdF, zdG]
        simpa [optD] using q
      · rw [if_neg e2] at q
        simp only [e2, reduceIte, Bool.false_eq_true, decide_true, decide_false, Bool.not_true, Bool.not_false, true_and, and_true, decide_not, Bool.true_bne, Bool.false_bne, Bool.not_not, zaa, zab, zac, zad, zae, zaf, zag, zah, zai, zaj, zak, zal, zam, zan, zao, zap, zaq, zar, zas, zat, zau, zav, zaw, zax, zay, zaz, zaA, zaB, zaC, zaD, zaE, zaF, zaG, zaH, zaI, zaJ, zaK, zaL, zaM, zaN, zaO, zaP, zaQ, zaR, zaS, zaT, zaU, zaV, startE, full, fullE, clean, cleanE, zaW, zaX, zaY, zaZ, zba, zbb, zbc, zbd, zbe, zbf, zbg, zbh, zbi, zbj, zbk, zbl, zbm, zbn, zbo, zbp, zbq, zbr, zbs, zbt, zbu, zbv, zbw, zbx, zby, zbz, zbA, zbB, zbC, zbD, zbE, zbF, zbG, zbH, zbI, zbJ, zbK, zbL, zbM, zbN, zbO, zbP, Bool.bne_false, Bool.bne_true, zbQ, zbR, zbS, zbT, zbU, zbV, zbW, zbX, zbY, zbZ, zca, zcb, zcc, zcd, zce, zcf, zcg, zch, zci, zcj, zck, zcl, zcm, zcn, zco, setAll, wipeR, setV, zcp, zcq, zcr, zcs, zct, zcu, zcv, zcw, zcx, zcy, zcz, zcA, zcB, zcC, List.any_cons, List.any_nil, List.map_cons, List.map_nil, List.length_cons, List.length_nil, List.replicate, Nat.sub_self, List.cons_append, List.nil_append, List.append_nil, List.getElem?_cons_zero, List.getElem?_cons_succ, List.set_cons_zero, List.set_cons_succ, List.set_nil, zcD, zcE, zcF, zcG, zcH, zcI, zcJ, zcK, zcL, zcM, zcN, zcO, zcP, zcQ, zcR, zcS, zcT, zcU, zcV, zcW, zcX, zcY, zcZ, zda, zdb, zdc, zdd, zde, zdf, zdg, zdh, zdi, zdj, zdk, zdl, zdm, zdn, zdo, zdp, zdq, zdr, zds, zdt, zdu, zdv, zdw, zdx, zdy, zdz, zdA, zdB, zdC, zdD, zdE, zdF, zdG]
        exact found_slots_loop hT p (l + 1) (fun s hs => hp s (List.mem_cons_of_mem _ hs)) q hn _
theorem found_slots {h st c g gr : String} {T : List Int} {k : Int} (hn : SizeOk T.length) (q : Q (.tuple [optD (found (.s h st c g gr) (.s T) k).1, .int (found (.s h st c g gr) (.s T) k).2])) : m_found_at [slotsW h st c g gr, .tuple (intsD T), .int k] Q E := by
  obtain ⟨hn0, hn1⟩ := small hn
  simp only [m_found_at_r, b5_found_at_r, zaa, zab, zac, zad, zae, zaf, zag, zah, zai, zaj, zak, zal, zam, zan, zao, zap, zaq, zar, zas, zat, zau, zav, zaw, zax, zay, zaz, zaA, zaB, zaC, zaD, zaE, zaF, zaG, zaH, zaI, zaJ, zaK, zaL, zaM, zaN, zaO, zaP, zaQ, zaR, zaS, zaT, zaU, zaV, startE, full, fullE, clean, cleanE, zaW, zaX, zaY, zaZ, zba, zbb, zbc, zbd, zbe, zbf, zbg, zbh, zbi, zbj, zbk, zbl, zbm, zbn, zbo, zbp, zbq, zbr, zbs, zbt, zbu, zbv, zbw, zbx, zby, zbz, zbA, zbB, zbC, zbD, zbE, zbF, zbG, zbH, zbI, zbJ, zbK, zbL, zbM, zbN, zbO, zbP, Bool.bne_false, Bool.bne_true, zbQ, zbR, zbS, zbT, zbU, zbV, zbW, zbX, zbY, zbZ, zca, zcb, zcc, zcd, zce, zcf, zcg, zch, zci, zcj, zck, zcl, zcm, zcn, zco, setAll, wipeR, setV, zcp, zcq, zcr, zcs, zct, zcu, zcv, zcw, zcx, zcy, zcz, zcA, zcB, zcC, List.any_cons, List.any_nil, List.map_cons, List.map_nil, List.length_cons, List.length_nil, List.replicate, Nat.sub_self, List.cons_append, List.nil_append, List.append_nil, List.getElem?_cons_zero, List.getElem?_cons_succ, List.set_cons_zero, List.set_cons_succ, List.set_nil, zcD, zcE, zcF, zcG, zcH, zcI, zcJ, zcK, zcL, zcM, zcN, zcO, zcP, zcQ, zcR, zcS, zcT, zcU, zcV, zcW, zcX, zcY, zcZ, zda, zdb, zdc, zdd, zde, zdf, zdg, zdh, zdi, zdj, zdk, zdl, zdm, zdn, zdo, zdp, zdq, zdr, zds, zdt, zdu, zdv, zdw, zdx, zdy, zdz, zdA, zdB, zdC, zdD, zdE, zdF, zdG, slotsW, reduceIte, Bool.false_eq_true, decide_true, decide_false, Bool.not_true, Bool.not_false, true_and, and_true, decide_not, Bool.true_bne, Bool.false_bne, Bool.not_not]
  simp [zaa, zab, zac, zad, zae, zaf, zag, zah, zai, zaj, zak, zal, zam, zan, zao, zap, zaq, zar, zas, zat, zau, zav, zaw, zax, zay, zaz, zaA, zaB, zaC, zaD, zaE, zaF, zaG, zaH, zaI, zaJ, zaK, zaL, zaM, zaN, zaO, zaP, zaQ, zaR, zaS, zaT, zaU, zaV, startE, full, fullE, clean, cleanE, zaW, zaX, zaY, zaZ, zba, zbb, zbc, zbd, zbe, zbf, zbg, zbh, zbi, zbj, zbk, zbl, zbm, zbn, zbo, zbp, zbq, zbr, zbs, zbt, zbu, zbv, zbw, zbx, zby, zbz, zbA, zbB, zbC, zbD, zbE, zbF, zbG, zbH, zbI, zbJ, zbK, zbL, zbM, zbN, zbO, zbP, Bool.bne_false, Bool.bne_true, zbQ, zbR, zbS, zbT, zbU, zbV, zbW, zbX, zbY, zbZ, zca, zcb, zcc, zcd, zce, zcf, zcg, zch, zci, zcj, zck, zcl, zcm, zcn, zco, setAll, wipeR, setV, zcp, zcq, zcr, zcs, zct, zcu, zcv, zcw, zcx, zcy, zcz, zcA, zcB, zcC, List.any_cons, List.any_nil, List.map_cons, List.map_nil, List.length_cons, List.length_nil, List.replicate, Nat.sub_self, List.cons_append, List.nil_append, List.append_nil, List.getElem?_cons_zero, List.getElem?_cons_succ, List.set_cons_zero, List.set_cons_succ, List.set_nil, zcD, zcE, zcF, zcG, zcH, zcI, zcJ, zcK, zcL, zcM, zcN, zcO, zcP, zcQ, zcR, zcS, zcT, zcU, zcV, zcW, zcX, zcY, zcZ, zda, zdb, zdc, zdd, zde, zdf, zdg, zdh, zdi, zdj, zdk, zdl, zdm, zdn, zdo, zdp, zdq, zdr, zds, zdt, zdu, zdv, zdw, zdx, zdy, zdz, zdA, zdB, zdC, zdD, zdE, zdF, zdG]
  simp only [b9_found_at_r, zaa, zab, zac, zad, zae, zaf, zag, zah, zai, zaj, zak, zal, zam, zan, zao, zap, zaq, zar, zas, zat, zau, zav, zaw, zax, zay, zaz, zaA, zaB, zaC, zaD, zaE, zaF, zaG, zaH, zaI, zaJ, zaK, zaL, zaM, zaN, zaO, zaP, zaQ, zaR, zaS, zaT, zaU, zaV, startE, full, fullE, clean, cleanE, zaW, zaX, zaY, zaZ, zba, zbb, zbc, zbd, zbe, zbf, zbg, zbh, zbi, zbj, zbk, zbl, zbm, zbn, zbo, zbp, zbq, zbr, zbs, zbt, zbu, zbv, zbw, zbx, zby, zbz, zbA, zbB, zbC, zbD, zbE, zbF, zbG, zbH, zbI, zbJ, zbK, zbL, zbM, zbN, zbO, zbP, Bool.bne_false, Bool.bne_true, zbQ, zbR, zbS, zbT, zbU, zbV, zbW, zbX, zbY, zbZ, zca, zcb, zcc, zcd, zce, zcf, zcg, zch, zci, zcj, zck, zcl, zcm, zcn, zco, setAll, wipeR, setV, zcp, zcq, zcr, zcs, zct, zcu, zcv, zcw, zcx, zcy, zcz, zcA, zcB, zcC, List.any_cons, List.any_nil, List.map_cons, List.map_nil, List.length_cons, List.length_nil, List.replicate, Nat.sub_self, List.cons_append, List.nil_append, List.append_nil, List.getElem?_cons_zero, List.getElem?_cons_succ, List.set_cons_zero, List.set_cons_succ, List.set_nil, zcD, zcE, zcF, zcG, zcH, zcI, zcJ, zcK, zcL, zcM, zcN, zcO, zcP, zcQ, zcR, zcS, zcT, zcU, zcV, zcW, zcX, zcY, zcZ, zda, zdb, zdc, zdd, zde, zdf, zdg, zdh, zdi, zdj, zdk, zdl, zdm, zdn, zdo, zdp, zdq, zdr, zds, zdt, zdu, zdv, zdw, zdx, zdy, zdz, zdA, zdB, zdC, zdD, zdE, zdF, zdG]
  show m_walk_of [slotsW h st c g gr, _, _] _ _
  rw [intsD_len]
  refine walk_slots hn ?_
  simp only [zaa, zab, zac, zad, zae, zaf, zag, zah, zai, zaj, zak, zal, zam, zan, zao, zap, zaq, zar, zas, zat, zau, zav, zaw, zax, zay, zaz, zaA, zaB, zaC, zaD, zaE, zaF, zaG, zaH, zaI, zaJ, zaK, zaL, zaM, zaN, zaO, zaP, zaQ, zaR, zaS, zaT, zaU, zaV, startE, full, fullE, clean, cleanE, zaW, zaX, zaY, zaZ, zba, zbb, zbc, zbd, zbe, zbf, zbg, zbh, zbi, zbj, zbk, zbl, zbm, zbn, zbo, zbp, zbq, zbr, zbs, zbt, zbu, zbv, zbw, zbx, zby, zbz, zbA, zbB, zbC, zbD, zbE, zbF, zbG, zbH, zbI, zbJ, zbK, zbL, zbM, zbN, zbO, zbP, Bool.bne_false, Bool.bne_true, zbQ, zbR, zbS, zbT, zbU, zbV, zbW, zbX, zbY, zbZ, zca, zcb, zcc, zcd, zce, zcf, zcg, zch, zci, zcj, zck, zcl, zcm, zcn, zco, setAll, wipeR, setV, zcp, zcq, zcr, zcs, zct, zcu, zcv, zcw, zcx, zcy, zcz, zcA, zcB, zcC, List.any_cons, List.any_nil, List.map_cons, List.map_nil, List.length_cons, List.length_nil, List.replicate, Nat.sub_self, List.cons_append, List.nil_append, List.append_nil, List.getElem?_cons_zero, List.getElem?_cons_succ, List.set_cons_zero, List.set_cons_succ, List.set_nil, zcD, zcE, zcF, zcG, zcH, zcI, zcJ, zcK, zcL, zcM, zcN, zcO, zcP, zcQ, zcR, zcS, zcT, zcU, zcV, zcW, zcX, zcY, zcZ, zda, zdb, zdc, zdd, zde, zdf, zdg, zdh, zdi, zdj, zdk, zdl, zdm, zdn, zdo, zdp, zdq, zdr, zds, zdt, zdu, zdv, zdw, zdx, zdy, zdz, zdA, zdB, zdC, zdD, zdE, zdF, zdG]
  refine found_slots_loop (by omega) _ _ (fun s hs => (path_mem hn).mp hs) q (fun Γ ⟨x, l', e, hl⟩ => ?_) _
  subst e
  simp only [zaa, zab, zac, zad, zae, zaf, zag, zah, zai, zaj, zak, zal, zam, zan, zao, zap, zaq, zar, zas, zat, zau, zav, zaw, zax, zay, zaz, zaA, zaB, zaC, zaD, zaE, zaF, zaG, zaH, zaI, zaJ, zaK, zaL, zaM, zaN, zaO, zaP, zaQ, zaR, zaS, zaT, zaU, zaV, startE, full, fullE, clean, cleanE, zaW, zaX, zaY, zaZ, zba, zbb, zbc, zbd, zbe, zbf, zbg, zbh, zbi, zbj, zbk, zbl, zbm, zbn, zbo, zbp, zbq, zbr, zbs, zbt, zbu, zbv, zbw, zbx, zby, zbz, zbA, zbB, zbC, zbD, zbE, zbF, zbG, zbH, zbI, zbJ, zbK, zbL, zbM, zbN, zbO, zbP, Bool.bne_false, Bool.bne_true, zbQ, zbR, zbS, zbT, zbU, zbV, zbW, zbX, zbY, zbZ, zca, zcb, zcc, zcd, zce, zcf, zcg, zch, zci, zcj, zck, zcl, zcm, zcn, zco, setAll, wipeR, setV, zcp, zcq, zcr, zcs, zct, zcu, zcv, zcw, zcx, zcy, zcz, zcA, zcB, zcC, List.any_cons, List.any_nil, List.map_cons, List.map_nil, List.length_cons, List.length_nil, List.replicate, Nat.sub_self, List.cons_append, List.nil_append, List.append_nil, List.getElem?_cons_zero, List.getElem?_cons_succ, List.set_cons_zero, List.set_cons_succ, List.set_nil, zcD, zcE, zcF, zcG, zcH, zcI, zcJ, zcK, zcL, zcM, zcN, zcO, zcP, zcQ, zcR, zcS, zcT, zcU, zcV, zcW, zcX, zcY, zcZ, zda, zdb, zdc, zdd, zde, zdf, zdg, zdh, zdi, zdj, zdk, zdl, zdm, zdn, zdo, zdp, zdq, zdr, zds, zdt, zdu, zdv, zdw, zdx, zdy, zdz, zdA, zdB, zdC, zdD, zdE, zdF, zdG]
  exact hl
theorem found_rows {h c o : String} {R : List (List Int)} {k : Int} (hn : SizeOk R.length) (hl : ∀ r ∈ R, r.length ≤ 1000) (q : Q (.tuple [optD (found (.r h c o) (.r R) k).1, .int (found (.r h c o) (.r R) k).2])) : m_found_at [rowsW h c o, tabD (.r R), .int k] Q E := by
  obtain ⟨hn0, hn1⟩ := small hn
  obtain ⟨h0, h1⟩ := home_rng (h := h) (k := k) hn
  simp only [m_found_at_r, b5_found_at_r, zaa, zab, zac, zad, zae, zaf, zag, zah, zai, zaj, zak, zal, zam, zan, zao, zap, zaq, zar, zas, zat, zau, zav, zaw, zax, zay, zaz, zaA, zaB, zaC, zaD, zaE, zaF, zaG, zaH, zaI, zaJ, zaK, zaL, zaM, zaN, zaO, zaP, zaQ, zaR, zaS, zaT, zaU, zaV, startE, full, fullE, clean, cleanE, zaW, zaX, zaY, zaZ, zba, zbb, zbc, zbd, zbe, zbf, zbg, zbh, zbi, zbj, zbk, zbl, zbm, zbn, zbo, zbp, zbq, zbr, zbs, zbt, zbu, zbv, zbw, zbx, zby, zbz, zbA, zbB, zbC, zbD, zbE, zbF, zbG, zbH, zbI, zbJ, zbK, zbL, zbM, zbN, zbO, zbP, Bool.bne_false, Bool.bne_true, zbQ, zbR, zbS, zbT, zbU, zbV, zbW, zbX, zbY, zbZ, zca, zcb, zcc, zcd, zce, zcf, zcg, zch, zci, zcj, zck, zcl, zcm, zcn, zco, setAll, wipeR, setV, zcp, zcq, zcr, zcs, zct, zcu, zcv, zcw, zcx, zcy, zcz, zcA, zcB, zcC, List.any_cons, List.any_nil, List.map_cons, List.map_nil, List.length_cons, List.length_nil, List.replicate, Nat.sub_self, List.cons_append, List.nil_append, List.append_nil, List.getElem?_cons_zero, List.getElem?_cons_succ, List.set_cons_zero, List.set_cons_succ, List.set_nil, zcD, zcE, zcF, zcG, zcH, zcI, zcJ, zcK, zcL, zcM, zcN, zcO, zcP, zcQ, zcR, zcS, zcT, zcU, zcV, zcW, zcX, zcY, zcZ, zda, zdb, zdc, zdd, zde, zdf, zdg, zdh, zdi, zdj, zdk, zdl, zdm, zdn, zdo, zdp, zdq, zdr, zds, zdt, zdu, zdv, zdw, zdx, zdy, zdz, zdA, zdB, zdC, zdD, zdE, zdF, zdG, rowsW, reduceIte, Bool.false_eq_true, decide_true, decide_false, Bool.not_true, Bool.not_false, true_and, and_true, decide_not, Bool.true_bne, Bool.false_bne, Bool.not_not]
  simp [zaa, zab, zac, zad, zae, zaf, zag, zah, zai, zaj, zak, zal, zam, zan, zao, zap, zaq, zar, zas, zat, zau, zav, zaw, zax, zay, zaz, zaA, zaB, zaC, zaD, zaE, zaF, zaG, zaH, zaI, zaJ, zaK, zaL, zaM, zaN, zaO, zaP, zaQ, zaR, zaS, zaT, zaU, zaV, startE, full, fullE, clean, cleanE, zaW, zaX, zaY, zaZ, zba, zbb, zbc, zbd, zbe, zbf, zbg, zbh, zbi, zbj, zbk, zbl, zbm, zbn, zbo, zbp, zbq, zbr, zbs, zbt, zbu, zbv, zbw, zbx, zby, zbz, zbA, zbB, zbC, zbD, zbE, zbF, zbG, zbH, zbI, zbJ, zbK, zbL, zbM, zbN, zbO, zbP, Bool.bne_false, Bool.bne_true, zbQ, zbR, zbS, zbT, zbU, zbV, zbW, zbX, zbY, zbZ, zca, zcb, zcc, zcd, zce, zcf, zcg, zch, zci, zcj, zck, zcl, zcm, zcn, zco, setAll, wipeR, setV, zcp, zcq, zcr, zcs, zct, zcu, zcv, zcw, zcx, zcy, zcz, zcA, zcB, zcC, List.any_cons, List.any_nil, List.map_cons, List.map_nil, List.length_cons, List.length_nil, List.replicate, Nat.sub_self, List.cons_append, List.nil_append, List.append_nil, List.getElem?_cons_zero, List.getElem?_cons_succ, List.set_cons_zero, List.set_cons_succ, List.set_nil, zcD, zcE, zcF, zcG, zcH, zcI, zcJ, zcK, zcL, zcM, zcN, zcO, zcP, zcQ, zcR, zcS, zcT, zcU, zcV, zcW, zcX, zcY, zcZ, zda, zdb, zdc, zdd, zde, zdf, zdg, zdh, zdi, zdj, zdk, zdl, zdm, zdn, zdo, zdp, zdq, zdr, zds, zdt, zdu, zdv, zdw, zdx, zdy, zdz, zdA, zdB, zdC, zdD, zdE, zdF, zdG]
  simp only [b1_found_at_r, zaa, zab, zac, zad, zae, zaf, zag, zah, zai, zaj, zak, zal, zam, zan, zao, zap, zaq, zar, zas, zat, zau, zav, zaw, zax, zay, zaz, zaA, zaB, zaC, zaD, zaE, zaF, zaG, zaH, zaI, zaJ, zaK, zaL, zaM, zaN, zaO, zaP, zaQ, zaR, zaS, zaT, zaU, zaV, startE, full, fullE, clean, cleanE, zaW, zaX, zaY, zaZ, zba, zbb, zbc, zbd, zbe, zbf, zbg, zbh, zbi, zbj, zbk, zbl, zbm, zbn, zbo, zbp, zbq, zbr, zbs, zbt, zbu, zbv, zbw, zbx, zby, zbz, zbA, zbB, zbC, zbD, zbE, zbF, zbG, zbH, zbI, zbJ, zbK, zbL, zbM, zbN, zbO, zbP, Bool.bne_false, Bool.bne_true, zbQ, zbR, zbS, zbT, zbU, zbV, zbW, zbX, zbY, zbZ, zca, zcb, zcc, zcd, zce, zcf, zcg, zch, zci, zcj, zck, zcl, zcm, zcn, zco, setAll, wipeR, setV, zcp, zcq, zcr, zcs, zct, zcu, zcv, zcw, zcx, zcy, zcz, zcA, zcB, zcC, List.any_cons, List.any_nil, List.map_cons, List.map_nil, List.length_cons, List.length_nil, List.replicate, Nat.sub_self, List.cons_append, List.nil_append, List.append_nil, List.getElem?_cons_zero, List.getElem?_cons_succ, List.set_cons_zero, List.set_cons_succ, List.set_nil, zcD, zcE, zcF, zcG, zcH, zcI, zcJ, zcK, zcL, zcM, zcN, zcO, zcP, zcQ, zcR, zcS, zcT, zcU, zcV, zcW, zcX, zcY, zcZ, zda, zdb, zdc, zdd, zde, zdf, zdg, zdh, zdi, zdj, zdk, zdl, zdm, zdn, zdo, zdp, zdq, zdr, zds, zdt, zdu, zdv, zdw, zdx, zdy, zdz, zdA, zdB, zdC, zdD, zdE, zdF, zdG, tabD_r, List.length_map]
  show m_home_of [rowsW h c o, _, _] _ _
  refine home_rows hn ?_
  simp only [zaa, zab, zac, zad, zae, zaf, zag, zah, zai, zaj, zak, zal, zam, zan, zao, zap, zaq, zar, zas, zat, zau, zav, zaw, zax, zay, zaz, zaA, zaB, zaC, zaD, zaE, zaF, zaG, zaH, zaI, zaJ, zaK, zaL, zaM, zaN, zaO, zaP, zaQ, zaR, zaS, zaT, zaU, zaV, startE, full, fullE, clean, cleanE, zaW, zaX, zaY, zaZ, zba, zbb, zbc, zbd, zbe, zbf, zbg, zbh, zbi, zbj, zbk, zbl, zbm, zbn, zbo, zbp, zbq, zbr, zbs, zbt, zbu, zbv, zbw, zbx, zby, zbz, zbA, zbB, zbC, zbD, zbE, zbF, zbG, zbH, zbI, zbJ, zbK, zbL, zbM, zbN, zbO, zbP, Bool.bne_false, Bool.bne_true, zbQ, zbR, zbS, zbT, zbU, zbV, zbW, zbX, zbY, zbZ, zca, zcb, zcc, zcd, zce, zcf, zcg, zch, zci, zcj, zck, zcl, zcm, zcn, zco, setAll, wipeR, setV, zcp, zcq, zcr, zcs, zct, zcu, zcv, zcw, zcx, zcy, zcz, zcA, zcB, zcC, List.any_cons, List.any_nil, List.map_cons, List.map_nil, List.length_cons, List.length_nil, List.replicate, Nat.sub_self, List.cons_append, List.nil_append, List.append_nil, List.getElem?_cons_zero, List.getElem?_cons_succ, List.set_cons_zero, List.set_cons_succ, List.set_nil, zcD, zcE, zcF, zcG, zcH, zcI, zcJ, zcK, zcL, zcM, zcN, zcO, zcP, zcQ, zcR, zcS, zcT, zcU, zcV, zcW, zcX, zcY, zcZ, zda, zdb, zdc, zdd, zde, zdf, zdg, zdh, zdi, zdj, zdk, zdl, zdm, zdn, zdo, zdp, zdq, zdr, zds, zdt, zdu, zdv, zdw, zdx, zdy, zdz, zdA, zdB, zdC, zdD, zdE, zdF, zdG, rget h0 h1]
  simp only [b3_found_at_r, zaa, zab, zac, zad, zae, zaf, zag, zah, zai, zaj, zak, zal, zam, zan, zao, zap, zaq, zar, zas, zat, zau, zav, zaw, zax, zay, zaz, zaA, zaB, zaC, zaD, zaE, zaF, zaG, zaH, zaI, zaJ, zaK, zaL, zaM, zaN, zaO, zaP, zaQ, zaR, zaS, zaT, zaU, zaV, startE, full, fullE, clean, cleanE, zaW, zaX, zaY, zaZ, zba, zbb, zbc, zbd, zbe, zbf, zbg, zbh, zbi, zbj, zbk, zbl, zbm, zbn, zbo, zbp, zbq, zbr, zbs, zbt, zbu, zbv, zbw, zbx, zby, zbz, zbA, zbB, zbC, zbD, zbE, zbF, zbG, zbH, zbI, zbJ, zbK, zbL, zbM, zbN, zbO, zbP, Bool.bne_false, Bool.bne_true, zbQ, zbR, zbS, zbT, zbU, zbV, zbW, zbX, zbY, zbZ, zca, zcb, zcc, zcd, zce, zcf, zcg, zch, zci, zcj, zck, zcl, zcm, zcn, zco, setAll, wipeR, setV, zcp, zcq, zcr, zcs, zct, zcu, zcv, zcw, zcx, zcy, zcz, zcA, zcB, zcC, List.any_cons, List.any_nil, List.map_cons, List.map_nil, List.length_cons, List.length_nil, List.replicate, Nat.sub_self, List.cons_append, List.nil_append, List.append_nil, List.getElem?_cons_zero, List.getElem?_cons_succ, List.set_cons_zero, List.set_cons_succ, List.set_nil, zcD, zcE, zcF, zcG, zcH, zcI, zcJ, zcK, zcL, zcM, zcN, zcO, zcP, zcQ, zcR, zcS, zcT, zcU, zcV, zcW, zcX, zcY, zcZ, zda, zdb, zdc, zdd, zde, zdf, zdg, zdh, zdi, zdj, zdk, zdl, zdm, zdn, zdo, zdp, zdq, zdr, zds, zdt, zdu, zdv, zdw, zdx, zdy, zdz, zdA, zdB, zdC, zdD, zdE, zdF, zdG, anyI, sh_ints, reduceIte, Bool.false_eq_true, decide_true, decide_false, Bool.not_true, Bool.not_false, true_and, and_true, decide_not, Bool.true_bne, Bool.false_bne, Bool.not_not]
  simp only [found] at q
  by_cases e : k ∈ rat R (homeOf h k R.length)
  · rw [if_pos e] at q
    simp only [e, reduceIte, Bool.false_eq_true, decide_true, decide_false, Bool.not_true, Bool.not_false, true_and, and_true, decide_not, Bool.true_bne, Bool.false_bne, Bool.not_not, zaa, zab, zac, zad, zae, zaf, zag, zah, zai, zaj, zak, zal, zam, zan, zao, zap, zaq, zar, zas, zat, zau, zav, zaw, zax, zay, zaz, zaA, zaB, zaC, zaD, zaE, zaF, zaG, zaH, zaI, zaJ, zaK, zaL, zaM, zaN, zaO, zaP, zaQ, zaR, zaS, zaT, zaU, zaV, startE, full, fullE, clean, cleanE, zaW, zaX, zaY, zaZ, zba, zbb, zbc, zbd, zbe, zbf, zbg, zbh, zbi, zbj, zbk, zbl, zbm, zbn, zbo, zbp, zbq, zbr, zbs, zbt, zbu, zbv, zbw, zbx, zby, zbz, zbA, zbB, zbC, zbD, zbE, zbF, zbG, zbH, zbI, zbJ, zbK, zbL, zbM, zbN, zbO, zbP, Bool.bne_false, Bool.bne_true, zbQ, zbR, zbS, zbT, zbU, zbV, zbW, zbX, zbY, zbZ, zca, zcb, zcc, zcd, zce, zcf, zcg, zch, zci, zcj, zck, zcl, zcm, zcn, zco, setAll, wipeR, setV, zcp, zcq, zcr, zcs, zct, zcu, zcv, zcw, zcx, zcy, zcz, zcA, zcB, zcC, List.any_cons, List.any_nil, List.map_cons, List.map_nil, List.length_cons, List.length_nil, List.replicate, Nat.sub_self, List.cons_append, List.nil_append, List.append_nil, List.getElem?_cons_zero, List.getElem?_cons_succ, List.set_cons_zero, List.set_cons_succ, List.set_nil, zcD, zcE, zcF, zcG, zcH, zcI, zcJ, zcK, zcL, zcM, zcN, zcO, zcP, zcQ, zcR, zcS, zcT, zcU, zcV, zcW, zcX, zcY, zcZ, zda, zdb, zdc, zdd, zde, zdf, zdg, zdh, zdi, zdj, zdk, zdl, zdm, zdn, zdo, zdp, zdq, zdr, zds, zdt, zdu, zdv, zdw, zdx, zdy, zdz, zdA, zdB, zdC, zdD, zdE, zdF, zdG]
    simp only [b2_found_at_r, zaa, zab, zac, zad, zae, zaf, zag, zah, zai, zaj, zak, zal, zam, zan, zao, zap, zaq, zar, zas, zat, zau, zav, zaw, zax, zay, zaz, zaA, zaB, zaC, zaD, zaE, zaF, zaG, zaH, zaI, zaJ, zaK, zaL, zaM, zaN, zaO, zaP, zaQ, zaR, zaS, zaT, zaU, zaV, startE, full, fullE, clean, cleanE, zaW, zaX, zaY, zaZ, zba, zbb, zbc, zbd, zbe, zbf, zbg, zbh, zbi, zbj, zbk, zbl, zbm, zbn, zbo, zbp, zbq, zbr, zbs, zbt, zbu, zbv, zbw, zbx, zby, zbz, zbA, zbB, zbC, zbD, zbE, zbF, zbG, zbH, zbI, zbJ, zbK, zbL, zbM, zbN, zbO, zbP, Bool.bne_false, Bool.bne_true, zbQ, zbR, zbS, zbT, zbU, zbV, zbW, zbX, zbY, zbZ, zca, zcb, zcc, zcd, zce, zcf, zcg, zch, zci, zcj, zck, zcl, zcm, zcn, zco, setAll, wipeR, setV, zcp, zcq, zcr, zcs, zct, zcu, zcv, zcw, zcx, zcy, zcz, zcA, zcB, zcC, List.any_cons, List.any_nil, List.map_cons, List.map_nil, List.length_cons, List.length_nil, List.replicate, Nat.sub_self, List.cons_append, List.nil_append, List.append_nil, List.getElem?_cons_zero, List.getElem?_cons_succ, List.set_cons_zero, List.set_cons_succ, List.set_nil, zcD, zcE, zcF, zcG, zcH, zcI, zcJ, zcK, zcL, zcM, zcN, zcO, zcP, zcQ, zcR, zcS, zcT, zcU, zcV, zcW, zcX, zcY, zcZ, zda, zdb, zdc, zdd, zde, zdf, zdg, zdh, zdi, zdj, zdk, zdl, zdm, zdn, zdo, zdp, zdq, zdr, zds, zdt, zdu, zdv, zdw, zdx, zdy, zdz, zdA, zdB, zdC, zdD, zdE, zdF, zdG, List.length_map]
    show m_home_of [rowsW h c o, _, _] _ _
    refine home_rows hn ?_
    simp only [zaa, zab, zac, zad, zae, zaf, zag, zah, zai, zaj, zak, zal, zam, zan, zao, zap, zaq, zar, zas, zat, zau, zav, zaw, zax, zay, zaz, zaA, zaB, zaC, zaD, zaE, zaF, zaG, zaH, zaI, zaJ, zaK, zaL, zaM, zaN, zaO, zaP, zaQ, zaR, zaS, zaT, zaU, zaV, startE, full, fullE, clean, cleanE, zaW, zaX, zaY, zaZ, zba, zbb, zbc, zbd, zbe, zbf, zbg, zbh, zbi, zbj, zbk, zbl, zbm, zbn, zbo, zbp, zbq, zbr, zbs, zbt, zbu, zbv, zbw, zbx, zby, zbz, zbA, zbB, zbC, zbD, zbE, zbF, zbG, zbH, zbI, zbJ, zbK, zbL, zbM, zbN, zbO, zbP, Bool.bne_false, Bool.bne_true, zbQ, zbR, zbS, zbT, zbU, zbV, zbW, zbX, zbY, zbZ, zca, zcb, zcc, zcd, zce, zcf, zcg, zch, zci, zcj, zck, zcl, zcm, zcn, zco, setAll, wipeR, setV, zcp, zcq, zcr, zcs, zct, zcu, zcv, zcw, zcx, zcy, zcz, zcA, zcB, zcC, List.any_cons, List.any_nil, List.map_cons, List.map_nil, List.length_cons, List.length_nil, List.replicate, Nat.sub_self, List.cons_append, List.nil_append, List.append_nil, List.getElem?_cons_zero, List.getElem?_cons_succ, List.set_cons_zero, List.set_cons_succ, List.set_nil, zcD, zcE, zcF, zcG, zcH, zcI, zcJ, zcK, zcL, zcM, zcN, zcO, zcP, zcQ, zcR, zcS, zcT, zcU, zcV, zcW, zcX, zcY, zcZ, zda, zdb, zdc, zdd, zde, zdf, zdg, zdh, zdi, zdj, zdk, zdl, zdm, zdn, zdo, zdp, zdq, zdr, zds, zdt, zdu, zdv, zdw, zdx, zdy, zdz, zdA, zdB, zdC, zdD, zdE, zdF, zdG, place_ints _ _ e, sh_intsL, reduceIte, Bool.false_eq_true, decide_true, decide_false, Bool.not_true, Bool.not_false, true_and, and_true, decide_not, Bool.true_bne, Bool.false_bne, Bool.not_not]
    refine ⟨by decide, ?_⟩
    simpa [optD] using q
  · rw [if_neg e] at q
    simp only [e, reduceIte, Bool.false_eq_true, decide_true, decide_false, Bool.not_true, Bool.not_false, true_and, and_true, decide_not, Bool.true_bne, Bool.false_bne, Bool.not_not, zaa, zab, zac, zad, zae, zaf, zag, zah, zai, zaj, zak, zal, zam, zan, zao, zap, zaq, zar, zas, zat, zau, zav, zaw, zax, zay, zaz, zaA, zaB, zaC, zaD, zaE, zaF, zaG, zaH, zaI, zaJ, zaK, zaL, zaM, zaN, zaO, zaP, zaQ, zaR, zaS, zaT, zaU, zaV, startE, full, fullE, clean, cleanE, zaW, zaX, zaY, zaZ, zba, zbb, zbc, zbd, zbe, zbf, zbg, zbh, zbi, zbj, zbk, zbl, zbm, zbn, zbo, zbp, zbq, zbr, zbs, zbt, zbu, zbv, zbw, zbx, zby, zbz, zbA, zbB, zbC, zbD, zbE, zbF, zbG, zbH, zbI, zbJ, zbK, zbL, zbM, zbN, zbO, zbP, Bool.bne_false, Bool.bne_true, zbQ, zbR, zbS, zbT, zbU, zbV, zbW, zbX, zbY, zbZ, zca, zcb, zcc, zcd, zce, zcf, zcg, zch, zci, zcj, zck, zcl, zcm, zcn, zco, setAll, wipeR, setV, zcp, zcq, zcr, zcs, zct, zcu, zcv, zcw, zcx, zcy, zcz, zcA, zcB, zcC, List.any_cons, List.any_nil, List.map_cons, List.map_nil, List.length_cons, List.length_nil, List.replicate, Nat.sub_self, List.cons_append, List.nil_append, List.append_nil, List.getElem?_cons_zero, List.getElem?_cons_succ, List.set_cons_zero, List.set_cons_succ, List.set_nil, zcD, zcE, zcF, zcG, zcH, zcI, zcJ, zcK, zcL, zcM, zcN, zcO, zcP, zcQ, zcR, zcS, zcT, zcU, zcV, zcW, zcX, zcY, zcZ, zda, zdb, zdc, zdd, zde, zdf, zdg, zdh, zdi, zdj, zdk, zdl, zdm, zdn, zdo, zdp, zdq, zdr, zds, zdt, zdu, zdv, zdw, zdx, zdy, zdz, zdA, zdB, zdC, zdD, zdE, zdF, zdG]
    simp only [b4_found_at_r, zaa, zab, zac, zad, zae, zaf, zag, zah, zai, zaj, zak, zal, zam, zan, zao, zap, zaq, zar, zas, zat, zau, zav, zaw, zax, zay, zaz, zaA, zaB, zaC, zaD, zaE, zaF, zaG, zaH, zaI, zaJ, zaK, zaL, zaM, zaN, zaO, zaP, zaQ, zaR, zaS, zaT, zaU, zaV, startE, full, fullE, clean, cleanE, zaW, zaX, zaY, zaZ, zba, zbb, zbc, zbd, zbe, zbf, zbg, zbh, zbi, zbj, zbk, zbl, zbm, zbn, zbo, zbp, zbq, zbr, zbs, zbt, zbu, zbv, zbw, zbx, zby, zbz, zbA, zbB, zbC, zbD, zbE, zbF, zbG, zbH, zbI, zbJ, zbK, zbL, zbM, zbN, zbO, zbP, Bool.bne_false, Bool.bne_true, zbQ, zbR, zbS, zbT, zbU, zbV, zbW, zbX, zbY, zbZ, zca, zcb, zcc, zcd, zce, zcf, zcg, zch, zci, zcj, zck, zcl, zcm, zcn, zco, setAll, wipeR, setV, zcp, zcq, zcr, zcs, zct, zcu, zcv, zcw, zcx, zcy, zcz, zcA, zcB, zcC, List.any_cons, List.any_nil, List.map_cons, List.map_nil, List.length_cons, List.length_nil, List.replicate, Nat.sub_self, List.cons_append, List.nil_append, List.append_nil, List.getElem?_cons_zero, List.getElem?_cons_succ, List.set_cons_zero, List.set_cons_succ, List.set_nil, zcD, zcE, zcF, zcG, zcH, zcI, zcJ, zcK, zcL, zcM, zcN, zcO, zcP, zcQ, zcR, zcS, zcT, zcU, zcV, zcW, zcX, zcY, zcZ, zda, zdb, zdc, zdd, zde, zdf, zdg, zdh, zdi, zdj, zdk, zdl, zdm, zdn, zdo, zdp, zdq, zdr, zds, zdt, zdu, zdv, zdw, zdx, zdy, zdz, zdA, zdB, zdC, zdD, zdE, zdF, zdG, intsD_len]
    refine ⟨by decide, ?_⟩
    simpa [optD] using q
/-! ### placing -/
theorem placed_rows {h c o : String} {R : List (List Int)} {k : Int} (hn : SizeOk R.length) (hl : ∀ r ∈ R, r.length ≤ 1000) (q : Q (tabD (.r (placeR h c R k)))) : m_placed [rowsW h c o, tabD (.r R), .int k] Q E := by
  obtain ⟨hn0, hn1⟩ := small hn
  obtain ⟨h0, h1⟩ := home_rng (h := h) (k := k) hn
  have hr := hl _ (rat_mem h0 h1)
  simp only [m_placed_r, b3_placed_r, zaa, zab, zac, zad, zae, zaf, zag, zah, zai, zaj, zak, zal, zam, zan, zao, zap, zaq, zar, zas, zat, zau, zav, zaw, zax, zay, zaz, zaA, zaB, zaC, zaD, zaE, zaF, zaG, zaH, zaI, zaJ, zaK, zaL, zaM, zaN, zaO, zaP, zaQ, zaR, zaS, zaT, zaU, zaV, startE, full, fullE, clean, cleanE, zaW, zaX, zaY, zaZ, zba, zbb, zbc, zbd, zbe, zbf, zbg, zbh, zbi, zbj, zbk, zbl, zbm, zbn, zbo, zbp, zbq, zbr, zbs, zbt, zbu, zbv, zbw, zbx, zby, zbz, zbA, zbB, zbC, zbD, zbE, zbF, zbG, zbH, zbI, zbJ, zbK, zbL, zbM, zbN, zbO, zbP, Bool.bne_false, Bool.bne_true, zbQ, zbR, zbS, zbT, zbU, zbV, zbW, zbX, zbY, zbZ, zca, zcb, zcc, zcd, zce, zcf, zcg, zch, zci, zcj, zck, zcl, zcm, zcn, zco, setAll, wipeR, setV, zcp, zcq, zcr, zcs, zct, zcu, zcv, zcw, zcx, zcy, zcz, zcA, zcB, zcC, List.any_cons, List.any_nil, List.map_cons, List.map_nil, List.length_cons, List.length_nil, List.replicate, Nat.sub_self, List.cons_append, List.nil_append, List.append_nil, List.getElem?_cons_zero, List.getElem?_cons_succ, List.set_cons_zero, List.set_cons_succ, List.set_nil, zcD, zcE, zcF, zcG, zcH, zcI, zcJ, zcK, zcL, zcM, zcN, zcO, zcP, zcQ, zcR, zcS, zcT, zcU, zcV, zcW, zcX, zcY, zcZ, zda, zdb, zdc, zdd, zde, zdf, zdg, zdh, zdi, zdj, zdk, zdl, zdm, zdn, zdo, zdp, zdq, zdr, zds, zdt, zdu, zdv, zdw, zdx, zdy, zdz, zdA, zdB, zdC, zdD, zdE, zdF, zdG, rowsW, reduceIte, Bool.false_eq_true, decide_true, decide_false, Bool.not_true, Bool.not_false, true_and, and_true, decide_not, Bool.true_bne, Bool.false_bne, Bool.not_not, tabD_r, List.length_map]
  simp [zaa, zab, zac, zad, zae, zaf, zag, zah, zai, zaj, zak, zal, zam, zan, zao, zap, zaq, zar, zas, zat, zau, zav, zaw, zax, zay, zaz, zaA, zaB, zaC, zaD, zaE, zaF, zaG, zaH, zaI, zaJ, zaK, zaL, zaM, zaN, zaO, zaP, zaQ, zaR, zaS, zaT, zaU, zaV, startE, full, fullE, clean, cleanE, zaW, zaX, zaY, zaZ, zba, zbb, zbc, zbd, zbe, zbf, zbg, zbh, zbi, zbj, zbk, zbl, zbm, zbn, zbo, zbp, zbq, zbr, zbs, zbt, zbu, zbv, zbw, zbx, zby, zbz, zbA, zbB, zbC, zbD, zbE, zbF, zbG, zbH, zbI, zbJ, zbK, zbL, zbM, zbN, zbO, zbP, Bool.bne_false, Bool.bne_true, zbQ, zbR, zbS, zbT, zbU, zbV, zbW, zbX, zbY, zbZ, zca, zcb, zcc, zcd, zce, zcf, zcg, zch, zci, zcj, zck, zcl, zcm, zcn, zco, setAll, wipeR, setV, zcp, zcq, zcr, zcs, zct, zcu, zcv, zcw, zcx, zcy, zcz, zcA, zcB, zcC, List.any_cons, List.any_nil, List.map_cons, List.map_nil, List.length_cons, List.length_nil, List.replicate, Nat.sub_self, List.cons_append, List.nil_append, List.append_nil, List.getElem?_cons_zero, List.getElem?_cons_succ, List.set_cons_zero, List.set_cons_succ, List.set_nil, zcD, zcE, zcF, zcG, zcH, zcI, zcJ, zcK, zcL, zcM, zcN, zcO, zcP, zcQ, zcR, zcS, zcT, zcU, zcV, zcW, zcX, zcY, zcZ, zda, zdb, zdc, zdd, zde, zdf, zdg, zdh, zdi, zdj, zdk, zdl, zdm, zdn, zdo, zdp, zdq, zdr, zds, zdt, zdu, zdv, zdw, zdx, zdy, zdz, zdA, zdB, zdC, zdD, zdE, zdF, zdG]
  simp only [b1_placed_r, zaa, zab, zac, zad, zae, zaf, zag, zah, zai, zaj, zak, zal, zam, zan, zao, zap, zaq, zar, zas, zat, zau, zav, zaw, zax, zay, zaz, zaA, zaB, zaC, zaD, zaE, zaF, zaG, zaH, zaI, zaJ, zaK, zaL, zaM, zaN, zaO, zaP, zaQ, zaR, zaS, zaT, zaU, zaV, startE, full, fullE, clean, cleanE, zaW, zaX, zaY, zaZ, zba, zbb, zbc, zbd, zbe, zbf, zbg, zbh, zbi, zbj, zbk, zbl, zbm, zbn, zbo, zbp, zbq, zbr, zbs, zbt, zbu, zbv, zbw, zbx, zby, zbz, zbA, zbB, zbC, zbD, zbE, zbF, zbG, zbH, zbI, zbJ, zbK, zbL, zbM, zbN, zbO, zbP, Bool.bne_false, Bool.bne_true, zbQ, zbR, zbS, zbT, zbU, zbV, zbW, zbX, zbY, zbZ, zca, zcb, zcc, zcd, zce, zcf, zcg, zch, zci, zcj, zck, zcl, zcm, zcn, zco, setAll, wipeR, setV, zcp, zcq, zcr, zcs, zct, zcu, zcv, zcw, zcx, zcy, zcz, zcA, zcB, zcC, List.any_cons, List.any_nil, List.map_cons, List.map_nil, List.length_cons, List.length_nil, List.replicate, Nat.sub_self, List.cons_append, List.nil_append, List.append_nil, List.getElem?_cons_zero, List.getElem?_cons_succ, List.set_cons_zero, List.set_cons_succ, List.set_nil, zcD, zcE, zcF, zcG, zcH, zcI, zcJ, zcK, zcL, zcM, zcN, zcO, zcP, zcQ, zcR, zcS, zcT, zcU, zcV, zcW, zcX, zcY, zcZ, zda, zdb, zdc, zdd, zde, zdf, zdg, zdh, zdi, zdj, zdk, zdl, zdm, zdn, zdo, zdp, zdq, zdr, zds, zdt, zdu, zdv, zdw, zdx, zdy, zdz, zdA, zdB, zdC, zdD, zdE, zdF, zdG]
  show m_home_of [rowsW h c o, _, _] _ _
  refine home_rows hn ?_
  simp only [b2_placed_r, zaa, zab, zac, zad, zae, zaf, zag, zah, zai, zaj, zak, zal, zam, zan, zao, zap, zaq, zar, zas, zat, zau, zav, zaw, zax, zay, zaz, zaA, zaB, zaC, zaD, zaE, zaF, zaG, zaH, zaI, zaJ, zaK, zaL, zaM, zaN, zaO, zaP, zaQ, zaR, zaS, zaT, zaU, zaV, startE, full, fullE, clean, cleanE, zaW, zaX, zaY, zaZ, zba, zbb, zbc, zbd, zbe, zbf, zbg, zbh, zbi, zbj, zbk, zbl, zbm, zbn, zbo, zbp, zbq, zbr, zbs, zbt, zbu, zbv, zbw, zbx, zby, zbz, zbA, zbB, zbC, zbD, zbE, zbF, zbG, zbH, zbI, zbJ, zbK, zbL, zbM, zbN, zbO, zbP, Bool.bne_false, Bool.bne_true, zbQ, zbR, zbS, zbT, zbU, zbV, zbW, zbX, zbY, zbZ, zca, zcb, zcc, zcd, zce, zcf, zcg, zch, zci, zcj, zck, zcl, zcm, zcn, zco, setAll, wipeR, setV, zcp, zcq, zcr, zcs, zct, zcu, zcv, zcw, zcx, zcy, zcz, zcA, zcB, zcC, List.any_cons, List.any_nil, List.map_cons, List.map_nil, List.length_cons, List.length_nil, List.replicate, Nat.sub_self, List.cons_append, List.nil_append, List.append_nil, List.getElem?_cons_zero, List.getElem?_cons_succ, List.set_cons_zero, List.set_cons_succ, List.set_nil, zcD, zcE, zcF, zcG, zcH, zcI, zcJ, zcK, zcL, zcM, zcN, zcO, zcP, zcQ, zcR, zcS, zcT, zcU, zcV, zcW, zcX, zcY, zcZ, zda, zdb, zdc, zdd, zde, zdf, zdg, zdh, zdi, zdj, zdk, zdl, zdm, zdn, zdo, zdp, zdq, zdr, zds, zdt, zdu, zdv, zdw, zdx, zdy, zdz, zdA, zdB, zdC, zdD, zdE, zdF, zdG, rget h0 h1]
  unfold placeR at q
  by_cases e : c = "front"
  · rw [if_pos e] at q
    simp only [e, reduceIte, Bool.false_eq_true, decide_true, decide_false, Bool.not_true, Bool.not_false, true_and, and_true, decide_not, Bool.true_bne, Bool.false_bne, Bool.not_not, zaa, zab, zac, zad, zae, zaf, zag, zah, zai, zaj, zak, zal, zam, zan, zao, zap, zaq, zar, zas, zat, zau, zav, zaw, zax, zay, zaz, zaA, zaB, zaC, zaD, zaE, zaF, zaG, zaH, zaI, zaJ, zaK, zaL, zaM, zaN, zaO, zaP, zaQ, zaR, zaS, zaT, zaU, zaV, startE, full, fullE, clean, cleanE, zaW, zaX, zaY, zaZ, zba, zbb, zbc, zbd, zbe, zbf, zbg, zbh, zbi, zbj, zbk, zbl, zbm, zbn, zbo, zbp, zbq, zbr, zbs, zbt, zbu, zbv, zbw, zbx, zby, zbz, zbA, zbB, zbC, zbD, zbE, zbF, zbG, zbH, zbI, zbJ, zbK, zbL, zbM, zbN, zbO, zbP, Bool.bne_false, Bool.bne_true, zbQ, zbR, zbS, zbT, zbU, zbV, zbW, zbX, zbY, zbZ, zca, zcb, zcc, zcd, zce, zcf, zcg, zch, zci, zcj, zck, zcl, zcm, zcn, zco, setAll, wipeR, setV, zcp, zcq, zcr, zcs, zct, zcu, zcv, zcw, zcx, zcy, zcz, zcA, zcB, zcC, List.any_cons, List.any_nil, List.map_cons, List.map_nil, List.length_cons, List.length_nil, List.replicate, Nat.sub_self, List.cons_append, List.nil_append, List.append_nil, List.getElem?_cons_zero, List.getElem?_cons_succ, List.set_cons_zero, List.set_cons_succ, List.set_nil, zcD, zcE, zcF, zcG, zcH, zcI, zcJ, zcK, zcL, zcM, zcN, zcO, zcP, zcQ, zcR, zcS, zcT, zcU, zcV, zcW, zcX, zcY, zcZ, zda, zdb, zdc, zdd, zde, zdf, zdg, zdh, zdi, zdj, zdk, zdl, zdm, zdn, zdo, zdp, zdq, zdr, zds, zdt, zdu, zdv, zdw, zdx, zdy, zdz, zdA, zdB, zdC, zdD, zdE, zdF, zdG]
    refine ⟨by decide, by rw [intsD_len]; omega, ?_⟩
    exact rset (r := k :: rat R (homeOf h k R.length)) h0 h1 (by omega) q
  · rw [if_neg e] at q
    simp only [e, reduceIte, Bool.false_eq_true, decide_true, decide_false, Bool.not_true, Bool.not_false, true_and, and_true, decide_not, Bool.true_bne, Bool.false_bne, Bool.not_not, zaa, zab, zac, zad, zae, zaf, zag, zah, zai, zaj, zak, zal, zam, zan, zao, zap, zaq, zar, zas, zat, zau, zav, zaw, zax, zay, zaz, zaA, zaB, zaC, zaD, zaE, zaF, zaG, zaH, zaI, zaJ, zaK, zaL, zaM, zaN, zaO, zaP, zaQ, zaR, zaS, zaT, zaU, zaV, startE, full, fullE, clean, cleanE, zaW, zaX, zaY, zaZ, zba, zbb, zbc, zbd, zbe, zbf, zbg, zbh, zbi, zbj, zbk, zbl, zbm, zbn, zbo, zbp, zbq, zbr, zbs, zbt, zbu, zbv, zbw, zbx, zby, zbz, zbA, zbB, zbC, zbD, zbE, zbF, zbG, zbH, zbI, zbJ, zbK, zbL, zbM, zbN, zbO, zbP, Bool.bne_false, Bool.bne_true, zbQ, zbR, zbS, zbT, zbU, zbV, zbW, zbX, zbY, zbZ, zca, zcb, zcc, zcd, zce, zcf, zcg, zch, zci, zcj, zck, zcl, zcm, zcn, zco, setAll, wipeR, setV, zcp, zcq, zcr, zcs, zct, zcu, zcv, zcw, zcx, zcy, zcz, zcA, zcB, zcC, List.any_cons, List.any_nil, List.map_cons, List.map_nil, List.length_cons, List.length_nil, List.replicate, Nat.sub_self, List.cons_append, List.nil_append, List.append_nil, List.getElem?_cons_zero, List.getElem?_cons_succ, List.set_cons_zero, List.set_cons_succ, List.set_nil, zcD, zcE, zcF, zcG, zcH, zcI, zcJ, zcK, zcL, zcM, zcN, zcO, zcP, zcQ, zcR, zcS, zcT, zcU, zcV, zcW, zcX, zcY, zcZ, zda, zdb, zdc, zdd, zde, zdf, zdg, zdh, zdi, zdj, zdk, zdl, zdm, zdn, zdo, zdp, zdq, zdr, zds, zdt, zdu, zdv, zdw, zdx, zdy, zdz, zdA, zdB, zdC, zdD, zdE, zdF, zdG]
    refine ⟨by decide, by rw [intsD_len]; omega, ?_⟩
    have : intsD (rat R (homeOf h k R.length)) ++ [PyData.int k] = intsD (rat R (homeOf h k R.length) ++ [k]) := by simp [intsD]
    rw [this]
    exact rset h0 h1 (by omega) q
theorem deq (a x : Int) : decide (a = x) = (x == a) := by
  by_cases z : x = a
  · simp [z]
  · have : ¬ a = x := fun w => z w.symm
    simp [z, this]
theorem head_at {l : List Int} {s : Int} {r : List Int} (e : l = s :: r) : atI (intsD l) 0 = some (.int s) := by
  subst e
  exact zbz _ _
theorem placed_line {h st c g gr : String} {T : List Int} {k : Int} (hn : SizeOk T.length) (hc : c = "late" ∨ c = "empty") (hu : used T < T.length) (q : Q (tabD (.s (placeS h st c T k)))) : m_placed [slotsW h st c g gr, .tuple (intsD T), .int k] Q E := by
  obtain ⟨hn0, hn1⟩ := small hn
  obtain ⟨s, r, es, ⟨s0, s1⟩, _⟩ := frees_ne (h := h) (st := st) (c := c) (k := k) hn hu
  unfold placeS at q
  rw [if_pos hc, es] at q
  simp only [m_placed_r, b3_placed_r, zaa, zab, zac, zad, zae, zaf, zag, zah, zai, zaj, zak, zal, zam, zan, zao, zap, zaq, zar, zas, zat, zau, zav, zaw, zax, zay, zaz, zaA, zaB, zaC, zaD, zaE, zaF, zaG, zaH, zaI, zaJ, zaK, zaL, zaM, zaN, zaO, zaP, zaQ, zaR, zaS, zaT, zaU, zaV, startE, full, fullE, clean, cleanE, zaW, zaX, zaY, zaZ, zba, zbb, zbc, zbd, zbe, zbf, zbg, zbh, zbi, zbj, zbk, zbl, zbm, zbn, zbo, zbp, zbq, zbr, zbs, zbt, zbu, zbv, zbw, zbx, zby, zbz, zbA, zbB, zbC, zbD, zbE, zbF, zbG, zbH, zbI, zbJ, zbK, zbL, zbM, zbN, zbO, zbP, Bool.bne_false, Bool.bne_true, zbQ, zbR, zbS, zbT, zbU, zbV, zbW, zbX, zbY, zbZ, zca, zcb, zcc, zcd, zce, zcf, zcg, zch, zci, zcj, zck, zcl, zcm, zcn, zco, setAll, wipeR, setV, zcp, zcq, zcr, zcs, zct, zcu, zcv, zcw, zcx, zcy, zcz, zcA, zcB, zcC, List.any_cons, List.any_nil, List.map_cons, List.map_nil, List.length_cons, List.length_nil, List.replicate, Nat.sub_self, List.cons_append, List.nil_append, List.append_nil, List.getElem?_cons_zero, List.getElem?_cons_succ, List.set_cons_zero, List.set_cons_succ, List.set_nil, zcD, zcE, zcF, zcG, zcH, zcI, zcJ, zcK, zcL, zcM, zcN, zcO, zcP, zcQ, zcR, zcS, zcT, zcU, zcV, zcW, zcX, zcY, zcZ, zda, zdb, zdc, zdd, zde, zdf, zdg, zdh, zdi, zdj, zdk, zdl, zdm, zdn, zdo, zdp, zdq, zdr, zds, zdt, zdu, zdv, zdw, zdx, zdy, zdz, zdA, zdB, zdC, zdD, zdE, zdF, zdG, slotsW, reduceIte, Bool.false_eq_true, decide_true, decide_false, Bool.not_true, Bool.not_false, true_and, and_true, decide_not, Bool.true_bne, Bool.false_bne, Bool.not_not, intsD_len]
  simp [zaa, zab, zac, zad, zae, zaf, zag, zah, zai, zaj, zak, zal, zam, zan, zao, zap, zaq, zar, zas, zat, zau, zav, zaw, zax, zay, zaz, zaA, zaB, zaC, zaD, zaE, zaF, zaG, zaH, zaI, zaJ, zaK, zaL, zaM, zaN, zaO, zaP, zaQ, zaR, zaS, zaT, zaU, zaV, startE, full, fullE, clean, cleanE, zaW, zaX, zaY, zaZ, zba, zbb, zbc, zbd, zbe, zbf, zbg, zbh, zbi, zbj, zbk, zbl, zbm, zbn, zbo, zbp, zbq, zbr, zbs, zbt, zbu, zbv, zbw, zbx, zby, zbz, zbA, zbB, zbC, zbD, zbE, zbF, zbG, zbH, zbI, zbJ, zbK, zbL, zbM, zbN, zbO, zbP, Bool.bne_false, Bool.bne_true, zbQ, zbR, zbS, zbT, zbU, zbV, zbW, zbX, zbY, zbZ, zca, zcb, zcc, zcd, zce, zcf, zcg, zch, zci, zcj, zck, zcl, zcm, zcn, zco, setAll, wipeR, setV, zcp, zcq, zcr, zcs, zct, zcu, zcv, zcw, zcx, zcy, zcz, zcA, zcB, zcC, List.any_cons, List.any_nil, List.map_cons, List.map_nil, List.length_cons, List.length_nil, List.replicate, Nat.sub_self, List.cons_append, List.nil_append, List.append_nil, List.getElem?_cons_zero, List.getElem?_cons_succ, List.set_cons_zero, List.set_cons_succ, List.set_nil, zcD, zcE, zcF, zcG, zcH, zcI, zcJ, zcK, zcL, zcM, zcN, zcO, zcP, zcQ, zcR, zcS, zcT, zcU, zcV, zcW, zcX, zcY, zcZ, zda, zdb, zdc, zdd, zde, zdf, zdg, zdh, zdi, zdj, zdk, zdl, zdm, zdn, zdo, zdp, zdq, zdr, zds, zdt, zdu, zdv, zdw, zdx, zdy, zdz, zdA, zdB, zdC, zdD, zdE, zdF, zdG]
  simp only [b6_placed_r, zaa, zab, zac, zad, zae, zaf, zag, zah, zai, zaj, zak, zal, zam, zan, zao, zap, zaq, zar, zas, zat, zau, zav, zaw, zax, zay, zaz, zaA, zaB, zaC, zaD, zaE, zaF, zaG, zaH, zaI, zaJ, zaK, zaL, zaM, zaN, zaO, zaP, zaQ, zaR, zaS, zaT, zaU, zaV, startE, full, fullE, clean, cleanE, zaW, zaX, zaY, zaZ, zba, zbb, zbc, zbd, zbe, zbf, zbg, zbh, zbi, zbj, zbk, zbl, zbm, zbn, zbo, zbp, zbq, zbr, zbs, zbt, zbu, zbv, zbw, zbx, zby, zbz, zbA, zbB, zbC, zbD, zbE, zbF, zbG, zbH, zbI, zbJ, zbK, zbL, zbM, zbN, zbO, zbP, Bool.bne_false, Bool.bne_true, zbQ, zbR, zbS, zbT, zbU, zbV, zbW, zbX, zbY, zbZ, zca, zcb, zcc, zcd, zce, zcf, zcg, zch, zci, zcj, zck, zcl, zcm, zcn, zco, setAll, wipeR, setV, zcp, zcq, zcr, zcs, zct, zcu, zcv, zcw, zcx, zcy, zcz, zcA, zcB, zcC, List.any_cons, List.any_nil, List.map_cons, List.map_nil, List.length_cons, List.length_nil, List.replicate, Nat.sub_self, List.cons_append, List.nil_append, List.append_nil, List.getElem?_cons_zero, List.getElem?_cons_succ, List.set_cons_zero, List.set_cons_succ, List.set_nil, zcD, zcE, zcF, zcG, zcH, zcI, zcJ, zcK, zcL, zcM, zcN, zcO, zcP, zcQ, zcR, zcS, zcT, zcU, zcV, zcW, zcX, zcY, zcZ, zda, zdb, zdc, zdd, zde, zdf, zdg, zdh, zdi, zdj, zdk, zdl, zdm, zdn, zdo, zdp, zdq, zdr, zds, zdt, zdu, zdv, zdw, zdx, zdy, zdz, zdA, zdB, zdC, zdD, zdE, zdF, zdG, reduceIte, Bool.false_eq_true, decide_true, decide_false, Bool.not_true, Bool.not_false, true_and, and_true, decide_not, Bool.true_bne, Bool.false_bne, Bool.not_not]
  have hin : (decide ("late" = c) || (decide ("empty" = c) || false)) = true := by
    rcases hc with rfl | rfl <;> simp
  rw [hin]
  simp only [reduceIte, Bool.false_eq_true, decide_true, decide_false, Bool.not_true, Bool.not_false, true_and, and_true, decide_not, Bool.true_bne, Bool.false_bne, Bool.not_not]
  simp only [b4_placed_r, zaa, zab, zac, zad, zae, zaf, zag, zah, zai, zaj, zak, zal, zam, zan, zao, zap, zaq, zar, zas, zat, zau, zav, zaw, zax, zay, zaz, zaA, zaB, zaC, zaD, zaE, zaF, zaG, zaH, zaI, zaJ, zaK, zaL, zaM, zaN, zaO, zaP, zaQ, zaR, zaS, zaT, zaU, zaV, startE, full, fullE, clean, cleanE, zaW, zaX, zaY, zaZ, zba, zbb, zbc, zbd, zbe, zbf, zbg, zbh, zbi, zbj, zbk, zbl, zbm, zbn, zbo, zbp, zbq, zbr, zbs, zbt, zbu, zbv, zbw, zbx, zby, zbz, zbA, zbB, zbC, zbD, zbE, zbF, zbG, zbH, zbI, zbJ, zbK, zbL, zbM, zbN, zbO, zbP, Bool.bne_false, Bool.bne_true, zbQ, zbR, zbS, zbT, zbU, zbV, zbW, zbX, zbY, zbZ, zca, zcb, zcc, zcd, zce, zcf, zcg, zch, zci, zcj, zck, zcl, zcm, zcn, zco, setAll, wipeR, setV, zcp, zcq, zcr, zcs, zct, zcu, zcv, zcw, zcx, zcy, zcz, zcA, zcB, zcC, List.any_cons, List.any_nil, List.map_cons, List.map_nil, List.length_cons, List.length_nil, List.replicate, Nat.sub_self, List.cons_append, List.nil_append, List.append_nil, List.getElem?_cons_zero, List.getElem?_cons_succ, List.set_cons_zero, List.set_cons_succ, List.set_nil, zcD, zcE, zcF, zcG, zcH, zcI, zcJ, zcK, zcL, zcM, zcN, zcO, zcP, zcQ, zcR, zcS, zcT, zcU, zcV, zcW, zcX, zcY, zcZ, zda, zdb, zdc, zdd, zde, zdf, zdg, zdh, zdi, zdj, zdk, zdl, zdm, zdn, zdo, zdp, zdq, zdr, zds, zdt, zdu, zdv, zdw, zdx, zdy, zdz, zdA, zdB, zdC, zdD, zdE, zdF, zdG, reduceIte, Bool.false_eq_true, decide_true, decide_false, Bool.not_true, Bool.not_false, true_and, and_true, decide_not, Bool.true_bne, Bool.false_bne, Bool.not_not]
  have fin : ∀ fr : List D, (∀ x : Int, (fr.any fun z => PyData.eqv z (.int x)) = isFree c x) → SeqAt.shaped (.tuple fr) = true → b5_placed [some (.val (slotsW h st c g gr)), some (.val (.tuple (intsD T))), some (.val (.int k)), some (.val (.int T.length)), none, none, some (.val (.tuple fr)), none, none] { nx := fun Γ' => b7_placed Γ' { nx := fun Γ' => b12_placed Γ' { nx := fun Γ' => b13_placed Γ' { nx := fun _ => Q .none, rt := Q }, rt := Q }, rt := Q }, rt := Q } := by
    intro fr hfr hsh
    simp only [b5_placed_r, zaa, zab, zac, zad, zae, zaf, zag, zah, zai, zaj, zak, zal, zam, zan, zao, zap, zaq, zar, zas, zat, zau, zav, zaw, zax, zay, zaz, zaA, zaB, zaC, zaD, zaE, zaF, zaG, zaH, zaI, zaJ, zaK, zaL, zaM, zaN, zaO, zaP, zaQ, zaR, zaS, zaT, zaU, zaV, startE, full, fullE, clean, cleanE, zaW, zaX, zaY, zaZ, zba, zbb, zbc, zbd, zbe, zbf, zbg, zbh, zbi, zbj, zbk, zbl, zbm, zbn, zbo, zbp, zbq, zbr, zbs, zbt, zbu, zbv, zbw, zbx, zby, zbz, zbA, zbB, zbC, zbD, zbE, zbF, zbG, zbH, zbI, zbJ, zbK, zbL, zbM, zbN, zbO, zbP, Bool.bne_false, Bool.bne_true, zbQ, zbR, zbS, zbT, zbU, zbV, zbW, zbX, zbY, zbZ, zca, zcb, zcc, zcd, zce, zcf, zcg, zch, zci, zcj, zck, zcl, zcm, zcn, zco, setAll, wipeR, setV, zcp, zcq, zcr, zcs, zct, zcu, zcv, zcw, zcx, zcy, zcz, zcA, zcB, zcC, List.any_cons, List.any_nil, List.map_cons, List.map_nil, List.length_cons, List.length_nil, List.replicate, Nat.sub_self, List.cons_append, List.nil_append, List.append_nil, List.getElem?_cons_zero, List.getElem?_cons_succ, List.set_cons_zero, List.set_cons_succ, List.set_nil, zcD, zcE, zcF, zcG, zcH, zcI, zcJ, zcK, zcL, zcM, zcN, zcO, zcP, zcQ, zcR, zcS, zcT, zcU, zcV, zcW, zcX, zcY, zcZ, zda, zdb, zdc, zdd, zde, zdf, zdg, zdh, zdi, zdj, zdk, zdl, zdm, zdn, zdo, zdp, zdq, zdr, zds, zdt, zdu, zdv, zdw, zdx, zdy, zdz, zdA, zdB, zdC, zdD, zdE, zdF, zdG]
    refine walk_slots hn ?_
    simp only [zaa, zab, zac, zad, zae, zaf, zag, zah, zai, zaj, zak, zal, zam, zan, zao, zap, zaq, zar, zas, zat, zau, zav, zaw, zax, zay, zaz, zaA, zaB, zaC, zaD, zaE, zaF, zaG, zaH, zaI, zaJ, zaK, zaL, zaM, zaN, zaO, zaP, zaQ, zaR, zaS, zaT, zaU, zaV, startE, full, fullE, clean, cleanE, zaW, zaX, zaY, zaZ, zba, zbb, zbc, zbd, zbe, zbf, zbg, zbh, zbi, zbj, zbk, zbl, zbm, zbn, zbo, zbp, zbq, zbr, zbs, zbt, zbu, zbv, zbw, zbx, zby, zbz, zbA, zbB, zbC, zbD, zbE, zbF, zbG, zbH, zbI, zbJ, zbK, zbL, zbM, zbN, zbO, zbP, Bool.bne_false, Bool.bne_true, zbQ, zbR, zbS, zbT, zbU, zbV, zbW, zbX, zbY, zbZ, zca, zcb, zcc, zcd, zce, zcf, zcg, zch, zci, zcj, zck, zcl, zcm, zcn, zco, setAll, wipeR, setV, zcp, zcq, zcr, zcs, zct, zcu, zcv, zcw, zcx, zcy, zcz, zcA, zcB, zcC, List.any_cons, List.any_nil, List.map_cons, List.map_nil, List.length_cons, List.length_nil, List.replicate, Nat.sub_self, List.cons_append, List.nil_append, List.append_nil, List.getElem?_cons_zero, List.getElem?_cons_succ, List.set_cons_zero, List.set_cons_succ, List.set_nil, zcD, zcE, zcF, zcG, zcH, zcI, zcJ, zcK, zcL, zcM, zcN, zcO, zcP, zcQ, zcR, zcS, zcT, zcU, zcV, zcW, zcX, zcY, zcZ, zda, zdb, zdc, zdd, zde, zdf, zdg, zdh, zdi, zdj, zdk, zdl, zdm, zdn, zdo, zdp, zdq, zdr, zds, zdt, zdu, zdv, zdw, zdx, zdy, zdz, zdA, zdB, zdC, zdD, zdE, zdF, zdG]
    refine ⟨by rw [intsD_len, path_len]; omega, lcLoop_fm PyData.int (fun s => isFree c (ga T s)) PyData.int (fun a ha kk hk => ?_) ?_⟩
    · obtain ⟨a0, a1⟩ := (path_mem hn).mp ha
      simp only [zaa, zab, zac, zad, zae, zaf, zag, zah, zai, zaj, zak, zal, zam, zan, zao, zap, zaq, zar, zas, zat, zau, zav, zaw, zax, zay, zaz, zaA, zaB, zaC, zaD, zaE, zaF, zaG, zaH, zaI, zaJ, zaK, zaL, zaM, zaN, zaO, zaP, zaQ, zaR, zaS, zaT, zaU, zaV, startE, full, fullE, clean, cleanE, zaW, zaX, zaY, zaZ, zba, zbb, zbc, zbd, zbe, zbf, zbg, zbh, zbi, zbj, zbk, zbl, zbm, zbn, zbo, zbp, zbq, zbr, zbs, zbt, zbu, zbv, zbw, zbx, zby, zbz, zbA, zbB, zbC, zbD, zbE, zbF, zbG, zbH, zbI, zbJ, zbK, zbL, zbM, zbN, zbO, zbP, Bool.bne_false, Bool.bne_true, zbQ, zbR, zbS, zbT, zbU, zbV, zbW, zbX, zbY, zbZ, zca, zcb, zcc, zcd, zce, zcf, zcg, zch, zci, zcj, zck, zcl, zcm, zcn, zco, setAll, wipeR, setV, zcp, zcq, zcr, zcs, zct, zcu, zcv, zcw, zcx, zcy, zcz, zcA, zcB, zcC, List.any_cons, List.any_nil, List.map_cons, List.map_nil, List.length_cons, List.length_nil, List.replicate, Nat.sub_self, List.cons_append, List.nil_append, List.append_nil, List.getElem?_cons_zero, List.getElem?_cons_succ, List.set_cons_zero, List.set_cons_succ, List.set_nil, zcD, zcE, zcF, zcG, zcH, zcI, zcJ, zcK, zcL, zcM, zcN, zcO, zcP, zcQ, zcR, zcS, zcT, zcU, zcV, zcW, zcX, zcY, zcZ, zda, zdb, zdc, zdd, zde, zdf, zdg, zdh, zdi, zdj, zdk, zdl, zdm, zdn, zdo, zdp, zdq, zdr, zds, zdt, zdu, zdv, zdw, zdx, zdy, zdz, zdA, zdB, zdC, zdD, zdE, zdF, zdG, tget a0 a1, hfr, hsh, reduceIte, Bool.false_eq_true, decide_true, decide_false, Bool.not_true, Bool.not_false, true_and, and_true, decide_not, Bool.true_bne, Bool.false_bne, Bool.not_not]
      by_cases e : isFree c (ga T a) = true
      · simpa [e] using hk
      · simpa [e] using hk
    · show orStuck (atI (intsD (frees h st c T k)) 0) _
      rw [head_at es]
      simp only [zaa, zab, zac, zad, zae, zaf, zag, zah, zai, zaj, zak, zal, zam, zan, zao, zap, zaq, zar, zas, zat, zau, zav, zaw, zax, zay, zaz, zaA, zaB, zaC, zaD, zaE, zaF, zaG, zaH, zaI, zaJ, zaK, zaL, zaM, zaN, zaO, zaP, zaQ, zaR, zaS, zaT, zaU, zaV, startE, full, fullE, clean, cleanE, zaW, zaX, zaY, zaZ, zba, zbb, zbc, zbd, zbe, zbf, zbg, zbh, zbi, zbj, zbk, zbl, zbm, zbn, zbo, zbp, zbq, zbr, zbs, zbt, zbu, zbv, zbw, zbx, zby, zbz, zbA, zbB, zbC, zbD, zbE, zbF, zbG, zbH, zbI, zbJ, zbK, zbL, zbM, zbN, zbO, zbP, Bool.bne_false, Bool.bne_true, zbQ, zbR, zbS, zbT, zbU, zbV, zbW, zbX, zbY, zbZ, zca, zcb, zcc, zcd, zce, zcf, zcg, zch, zci, zcj, zck, zcl, zcm, zcn, zco, setAll, wipeR, setV, zcp, zcq, zcr, zcs, zct, zcu, zcv, zcw, zcx, zcy, zcz, zcA, zcB, zcC, List.any_cons, List.any_nil, List.map_cons, List.map_nil, List.length_cons, List.length_nil, List.replicate, Nat.sub_self, List.cons_append, List.nil_append, List.append_nil, List.getElem?_cons_zero, List.getElem?_cons_succ, List.set_cons_zero, List.set_cons_succ, List.set_nil, zcD, zcE, zcF, zcG, zcH, zcI, zcJ, zcK, zcL, zcM, zcN, zcO, zcP, zcQ, zcR, zcS, zcT, zcU, zcV, zcW, zcX, zcY, zcZ, zda, zdb, zdc, zdd, zde, zdf, zdg, zdh, zdi, zdj, zdk, zdl, zdm, zdn, zdo, zdp, zdq, zdr, zds, zdt, zdu, zdv, zdw, zdx, zdy, zdz, zdA, zdB, zdC, zdD, zdE, zdF, zdG]
      exact tset s0 s1 (by omega) q
  by_cases e : c = "late"
  · simp only [e, reduceIte, Bool.false_eq_true, decide_true, decide_false, Bool.not_true, Bool.not_false, true_and, and_true, decide_not, Bool.true_bne, Bool.false_bne, Bool.not_not, zaa, zab, zac, zad, zae, zaf, zag, zah, zai, zaj, zak, zal, zam, zan, zao, zap, zaq, zar, zas, zat, zau, zav, zaw, zax, zay, zaz, zaA, zaB, zaC, zaD, zaE, zaF, zaG, zaH, zaI, zaJ, zaK, zaL, zaM, zaN, zaO, zaP, zaQ, zaR, zaS, zaT, zaU, zaV, startE, full, fullE, clean, cleanE, zaW, zaX, zaY, zaZ, zba, zbb, zbc, zbd, zbe, zbf, zbg, zbh, zbi, zbj, zbk, zbl, zbm, zbn, zbo, zbp, zbq, zbr, zbs, zbt, zbu, zbv, zbw, zbx, zby, zbz, zbA, zbB, zbC, zbD, zbE, zbF, zbG, zbH, zbI, zbJ, zbK, zbL, zbM, zbN, zbO, zbP, Bool.bne_false, Bool.bne_true, zbQ, zbR, zbS, zbT, zbU, zbV, zbW, zbX, zbY, zbZ, zca, zcb, zcc, zcd, zce, zcf, zcg, zch, zci, zcj, zck, zcl, zcm, zcn, zco, setAll, wipeR, setV, zcp, zcq, zcr, zcs, zct, zcu, zcv, zcw, zcx, zcy, zcz, zcA, zcB, zcC, List.any_cons, List.any_nil, List.map_cons, List.map_nil, List.length_cons, List.length_nil, List.replicate, Nat.sub_self, List.cons_append, List.nil_append, List.append_nil, List.getElem?_cons_zero, List.getElem?_cons_succ, List.set_cons_zero, List.set_cons_succ, List.set_nil, zcD, zcE, zcF, zcG, zcH, zcI, zcJ, zcK, zcL, zcM, zcN, zcO, zcP, zcQ, zcR, zcS, zcT, zcU, zcV, zcW, zcX, zcY, zcZ, zda, zdb, zdc, zdd, zde, zdf, zdg, zdh, zdi, zdj, zdk, zdl, zdm, zdn, zdo, zdp, zdq, zdr, zds, zdt, zdu, zdv, zdw, zdx, zdy, zdz, zdA, zdB, zdC, zdD, zdE, zdF, zdG]
    refine ⟨by decide, ?_⟩
    have := fin [.int (-1), .int (-2)] (fun x => ?_) rfl
    · simpa [slotsW, e] using this
    · simp only [List.any_cons, List.any_nil, zbN, isFree, e, deq, Bool.or_false, beq_self_eq_true, Bool.true_and]
  · simp only [e, reduceIte, Bool.false_eq_true, decide_true, decide_false, Bool.not_true, Bool.not_false, true_and, and_true, decide_not, Bool.true_bne, Bool.false_bne, Bool.not_not, zaa, zab, zac, zad, zae, zaf, zag, zah, zai, zaj, zak, zal, zam, zan, zao, zap, zaq, zar, zas, zat, zau, zav, zaw, zax, zay, zaz, zaA, zaB, zaC, zaD, zaE, zaF, zaG, zaH, zaI, zaJ, zaK, zaL, zaM, zaN, zaO, zaP, zaQ, zaR, zaS, zaT, zaU, zaV, startE, full, fullE, clean, cleanE, zaW, zaX, zaY, zaZ, zba, zbb, zbc, zbd, zbe, zbf, zbg, zbh, zbi, zbj, zbk, zbl, zbm, zbn, zbo, zbp, zbq, zbr, zbs, zbt, zbu, zbv, zbw, zbx, zby, zbz, zbA, zbB, zbC, zbD, zbE, zbF, zbG, zbH, zbI, zbJ, zbK, zbL, zbM, zbN, zbO, zbP, Bool.bne_false, Bool.bne_true, zbQ, zbR, zbS, zbT, zbU, zbV, zbW, zbX, zbY, zbZ, zca, zcb, zcc, zcd, zce, zcf, zcg, zch, zci, zcj, zck, zcl, zcm, zcn, zco, setAll, wipeR, setV, zcp, zcq, zcr, zcs, zct, zcu, zcv, zcw, zcx, zcy, zcz, zcA, zcB, zcC, List.any_cons, List.any_nil, List.map_cons, List.map_nil, List.length_cons, List.length_nil, List.replicate, Nat.sub_self, List.cons_append, List.nil_append, List.append_nil, List.getElem?_cons_zero, List.getElem?_cons_succ, List.set_cons_zero, List.set_cons_succ, List.set_nil, zcD, zcE, zcF, zcG, zcH, zcI, zcJ, zcK, zcL, zcM, zcN, zcO, zcP, zcQ, zcR, zcS, zcT, zcU, zcV, zcW, zcX, zcY, zcZ, zda, zdb, zdc, zdd, zde, zdf, zdg, zdh, zdi, zdj, zdk, zdl, zdm, zdn, zdo, zdp, zdq, zdr, zds, zdt, zdu, zdv, zdw, zdx, zdy, zdz, zdA, zdB, zdC, zdD, zdE, zdF, zdG]
    refine ⟨by decide, ?_⟩
    have := fin [.int (-1)] (fun x => ?_) rfl
    · simpa [slotsW, e] using this
    · simp only [List.any_cons, List.any_nil, zbN, isFree, deq, Bool.or_false, beq_eq_false_iff_ne.mpr e, Bool.false_and]
end
end G6

namespace G6
open PySem PySem.Spec L2 DL TM
section
variable {Q : D → Prop} {E : Str → Prop}
theorem shoved {h st c g gr : String} {n : Int} (hn : SizeOk n) {k : D} {b0 b1 : Option Ent} {kk : KS} {res : List Int} (q : kk.rt (tabD (.s res))) : ∀ (f : Nat) (Γ : DL.Env),
    (∃ T s m x, Γ = [some (.val (slotsW h st c g gr)), some (.val (.tuple (intsD T))), some (.val k), some (.val (.int n)), some (.val (.int s)), b0, b1, some (.val (.int m)), x] ∧ ShI st n f T s ∧ shove h st c n f T s m = res) →
    b12_placed Γ { kk with nx := fun Γ' => b13_placed Γ' kk } := by
  obtain ⟨hn0, hn1⟩ := small hn
  intro f Γ hI
  rw [b12_placed_r]
  refine while_ind (fun f Γ => ∃ T s m x, Γ = [some (.val (slotsW h st c g gr)), some (.val (.tuple (intsD T))), some (.val k), some (.val (.int n)), some (.val (.int s)), b0, b1, some (.val (.int m)), x] ∧ ShI st n f T s ∧ shove h st c n f T s m = res) ?_ f Γ hI
  rintro f Γ ⟨T, s, m, x, rfl, i, e⟩ nx hnx
  have s1 : s < T.length := by have := i.len; have := i.s1; omega
  have hT : T.length ≤ 1000 := by have := i.len; omega
  obtain ⟨f', rfl⟩ := i.free
  rw [shove_turn] at e
  simp only [zaa, zab, zac, zad, zae, zaf, zag, zah, zai, zaj, zak, zal, zam, zan, zao, zap, zaq, zar, zas, zat, zau, zav, zaw, zax, zay, zaz, zaA, zaB, zaC, zaD, zaE, zaF, zaG, zaH, zaI, zaJ, zaK, zaL, zaM, zaN, zaO, zaP, zaQ, zaR, zaS, zaT, zaU, zaV, startE, full, fullE, clean, cleanE, zaW, zaX, zaY, zaZ, zba, zbb, zbc, zbd, zbe, zbf, zbg, zbh, zbi, zbj, zbk, zbl, zbm, zbn, zbo, zbp, zbq, zbr, zbs, zbt, zbu, zbv, zbw, zbx, zby, zbz, zbA, zbB, zbC, zbD, zbE, zbF, zbG, zbH, zbI, zbJ, zbK, zbL, zbM, zbN, zbO, zbP, Bool.bne_false, Bool.bne_true, zbQ, zbR, zbS, zbT, zbU, zbV, zbW, zbX, zbY, zbZ, zca, zcb, zcc, zcd, zce, zcf, zcg, zch, zci, zcj, zck, zcl, zcm, zcn, zco, setAll, wipeR, setV, zcp, zcq, zcr, zcs, zct, zcu, zcv, zcw, zcx, zcy, zcz, zcA, zcB, zcC, List.any_cons, List.any_nil, List.map_cons, List.map_nil, List.length_cons, List.length_nil, List.replicate, Nat.sub_self, List.cons_append, List.nil_append, List.append_nil, List.getElem?_cons_zero, List.getElem?_cons_succ, List.set_cons_zero, List.set_cons_succ, List.set_nil, zcD, zcE, zcF, zcG, zcH, zcI, zcJ, zcK, zcL, zcM, zcN, zcO, zcP, zcQ, zcR, zcS, zcT, zcU, zcV, zcW, zcX, zcY, zcZ, zda, zdb, zdc, zdd, zde, zdf, zdg, zdh, zdi, zdj, zdk, zdl, zdm, zdn, zdo, zdp, zdq, zdr, zds, zdt, zdu, zdv, zdw, zdx, zdy, zdz, zdA, zdB, zdC, zdD, zdE, zdF, zdG, tget i.s0 s1]
  by_cases hg : 0 ≤ ga T s
  · rw [if_pos hg] at e
    obtain ⟨f2, e2, i1, i2⟩ := i.step hn0 hg m
    have : f2 = f' := by omega
    subst this
    simp only [hg, reduceIte, Bool.false_eq_true, decide_true, decide_false, Bool.not_true, Bool.not_false, true_and, and_true, decide_not, Bool.true_bne, Bool.false_bne, Bool.not_not, zaa, zab, zac, zad, zae, zaf, zag, zah, zai, zaj, zak, zal, zam, zan, zao, zap, zaq, zar, zas, zat, zau, zav, zaw, zax, zay, zaz, zaA, zaB, zaC, zaD, zaE, zaF, zaG, zaH, zaI, zaJ, zaK, zaL, zaM, zaN, zaO, zaP, zaQ, zaR, zaS, zaT, zaU, zaV, startE, full, fullE, clean, cleanE, zaW, zaX, zaY, zaZ, zba, zbb, zbc, zbd, zbe, zbf, zbg, zbh, zbi, zbj, zbk, zbl, zbm, zbn, zbo, zbp, zbq, zbr, zbs, zbt, zbu, zbv, zbw, zbx, zby, zbz, zbA, zbB, zbC, zbD, zbE, zbF, zbG, zbH, zbI, zbJ, zbK, zbL, zbM, zbN, zbO, zbP, Bool.bne_false, Bool.bne_true, zbQ, zbR, zbS, zbT, zbU, zbV, zbW, zbX, zbY, zbZ, zca, zcb, zcc, zcd, zce, zcf, zcg, zch, zci, zcj, zck, zcl, zcm, zcn, zco, setAll, wipeR, setV, zcp, zcq, zcr, zcs, zct, zcu, zcv, zcw, zcx, zcy, zcz, zcA, zcB, zcC, List.any_cons, List.any_nil, List.map_cons, List.map_nil, List.length_cons, List.length_nil, List.replicate, Nat.sub_self, List.cons_append, List.nil_append, List.append_nil, List.getElem?_cons_zero, List.getElem?_cons_succ, List.set_cons_zero, List.set_cons_succ, List.set_nil, zcD, zcE, zcF, zcG, zcH, zcI, zcJ, zcK, zcL, zcM, zcN, zcO, zcP, zcQ, zcR, zcS, zcT, zcU, zcV, zcW, zcX, zcY, zcZ, zda, zdb, zdc, zdd, zde, zdf, zdg, zdh, zdi, zdj, zdk, zdl, zdm, zdn, zdo, zdp, zdq, zdr, zds, zdt, zdu, zdv, zdw, zdx, zdy, zdz, zdA, zdB, zdC, zdD, zdE, zdF, zdG, b11_placed_r, tget i.s0 s1]
    simp only [b9_placed_r, zaa, zab, zac, zad, zae, zaf, zag, zah, zai, zaj, zak, zal, zam, zan, zao, zap, zaq, zar, zas, zat, zau, zav, zaw, zax, zay, zaz, zaA, zaB, zaC, zaD, zaE, zaF, zaG, zaH, zaI, zaJ, zaK, zaL, zaM, zaN, zaO, zaP, zaQ, zaR, zaS, zaT, zaU, zaV, startE, full, fullE, clean, cleanE, zaW, zaX, zaY, zaZ, zba, zbb, zbc, zbd, zbe, zbf, zbg, zbh, zbi, zbj, zbk, zbl, zbm, zbn, zbo, zbp, zbq, zbr, zbs, zbt, zbu, zbv, zbw, zbx, zby, zbz, zbA, zbB, zbC, zbD, zbE, zbF, zbG, zbH, zbI, zbJ, zbK, zbL, zbM, zbN, zbO, zbP, Bool.bne_false, Bool.bne_true, zbQ, zbR, zbS, zbT, zbU, zbV, zbW, zbX, zbY, zbZ, zca, zcb, zcc, zcd, zce, zcf, zcg, zch, zci, zcj, zck, zcl, zcm, zcn, zco, setAll, wipeR, setV, zcp, zcq, zcr, zcs, zct, zcu, zcv, zcw, zcx, zcy, zcz, zcA, zcB, zcC, List.any_cons, List.any_nil, List.map_cons, List.map_nil, List.length_cons, List.length_nil, List.replicate, Nat.sub_self, List.cons_append, List.nil_append, List.append_nil, List.getElem?_cons_zero, List.getElem?_cons_succ, List.set_cons_zero, List.set_cons_succ, List.set_nil, zcD, zcE, zcF, zcG, zcH, zcI, zcJ, zcK, zcL, zcM, zcN, zcO, zcP, zcQ, zcR, zcS, zcT, zcU, zcV, zcW, zcX, zcY, zcZ, zda, zdb, zdc, zdd, zde, zdf, zdg, zdh, zdi, zdj, zdk, zdl, zdm, zdn, zdo, zdp, zdq, zdr, zds, zdt, zdu, zdv, zdw, zdx, zdy, zdz, zdA, zdB, zdC, zdD, zdE, zdF, zdG, slotsW, reduceIte, Bool.false_eq_true, decide_true, decide_false, Bool.not_true, Bool.not_false, true_and, and_true, decide_not, Bool.true_bne, Bool.false_bne, Bool.not_not]
    have tl : ∀ (T' : List Int) (m' : Int), ShI st n f2 T' (nxt st s n) → shove h st c n f2 T' (nxt st s n) m' = res → b10_placed [some (.val (slotsW h st c g gr)), some (.val (.tuple (intsD T'))), some (.val k), some (.val (.int n)), some (.val (.int s)), b0, b1, some (.val (.int m')), some (.val (.int (ga T s)))] { kk with nx := nx, bk := fun Γ' => b13_placed Γ' kk, ct := nx } := by
      intro T' m' i' e'
      simp only [b10_placed_r, zaa, zab, zac, zad, zae, zaf, zag, zah, zai, zaj, zak, zal, zam, zan, zao, zap, zaq, zar, zas, zat, zau, zav, zaw, zax, zay, zaz, zaA, zaB, zaC, zaD, zaE, zaF, zaG, zaH, zaI, zaJ, zaK, zaL, zaM, zaN, zaO, zaP, zaQ, zaR, zaS, zaT, zaU, zaV, startE, full, fullE, clean, cleanE, zaW, zaX, zaY, zaZ, zba, zbb, zbc, zbd, zbe, zbf, zbg, zbh, zbi, zbj, zbk, zbl, zbm, zbn, zbo, zbp, zbq, zbr, zbs, zbt, zbu, zbv, zbw, zbx, zby, zbz, zbA, zbB, zbC, zbD, zbE, zbF, zbG, zbH, zbI, zbJ, zbK, zbL, zbM, zbN, zbO, zbP, Bool.bne_false, Bool.bne_true, zbQ, zbR, zbS, zbT, zbU, zbV, zbW, zbX, zbY, zbZ, zca, zcb, zcc, zcd, zce, zcf, zcg, zch, zci, zcj, zck, zcl, zcm, zcn, zco, setAll, wipeR, setV, zcp, zcq, zcr, zcs, zct, zcu, zcv, zcw, zcx, zcy, zcz, zcA, zcB, zcC, List.any_cons, List.any_nil, List.map_cons, List.map_nil, List.length_cons, List.length_nil, List.replicate, Nat.sub_self, List.cons_append, List.nil_append, List.append_nil, List.getElem?_cons_zero, List.getElem?_cons_succ, List.set_cons_zero, List.set_cons_succ, List.set_nil, zcD, zcE, zcF, zcG, zcH, zcI, zcJ, zcK, zcL, zcM, zcN, zcO, zcP, zcQ, zcR, zcS, zcT, zcU, zcV, zcW, zcX, zcY, zcZ, zda, zdb, zdc, zdd, zde, zdf, zdg, zdh, zdi, zdj, zdk, zdl, zdm, zdn, zdo, zdp, zdq, zdr, zds, zdt, zdu, zdv, zdw, zdx, zdy, zdz, zdA, zdB, zdC, zdD, zdE, zdF, zdG, slotsW, reduceIte, Bool.false_eq_true, decide_true, decide_false, Bool.not_true, Bool.not_false, true_and, and_true, decide_not, Bool.true_bne, Bool.false_bne, Bool.not_not]
      by_cases hu : st = "up"
      · have en : nxt st s n = (s + 1) % n := by unfold nxt; rw [if_pos hu]
        rw [en] at i' e'
        simp only [decide_eq_true hu, reduceIte, Bool.false_eq_true, decide_true, decide_false, Bool.not_true, Bool.not_false, true_and, and_true, decide_not, Bool.true_bne, Bool.false_bne, Bool.not_not, zaa, zab, zac, zad, zae, zaf, zag, zah, zai, zaj, zak, zal, zam, zan, zao, zap, zaq, zar, zas, zat, zau, zav, zaw, zax, zay, zaz, zaA, zaB, zaC, zaD, zaE, zaF, zaG, zaH, zaI, zaJ, zaK, zaL, zaM, zaN, zaO, zaP, zaQ, zaR, zaS, zaT, zaU, zaV, startE, full, fullE, clean, cleanE, zaW, zaX, zaY, zaZ, zba, zbb, zbc, zbd, zbe, zbf, zbg, zbh, zbi, zbj, zbk, zbl, zbm, zbn, zbo, zbp, zbq, zbr, zbs, zbt, zbu, zbv, zbw, zbx, zby, zbz, zbA, zbB, zbC, zbD, zbE, zbF, zbG, zbH, zbI, zbJ, zbK, zbL, zbM, zbN, zbO, zbP, Bool.bne_false, Bool.bne_true, zbQ, zbR, zbS, zbT, zbU, zbV, zbW, zbX, zbY, zbZ, zca, zcb, zcc, zcd, zce, zcf, zcg, zch, zci, zcj, zck, zcl, zcm, zcn, zco, setAll, wipeR, setV, zcp, zcq, zcr, zcs, zct, zcu, zcv, zcw, zcx, zcy, zcz, zcA, zcB, zcC, List.any_cons, List.any_nil, List.map_cons, List.map_nil, List.length_cons, List.length_nil, List.replicate, Nat.sub_self, List.cons_append, List.nil_append, List.append_nil, List.getElem?_cons_zero, List.getElem?_cons_succ, List.set_cons_zero, List.set_cons_succ, List.set_nil, zcD, zcE, zcF, zcG, zcH, zcI, zcJ, zcK, zcL, zcM, zcN, zcO, zcP, zcQ, zcR, zcS, zcT, zcU, zcV, zcW, zcX, zcY, zcZ, zda, zdb, zdc, zdd, zde, zdf, zdg, zdh, zdi, zdj, zdk, zdl, zdm, zdn, zdo, zdp, zdq, zdr, zds, zdt, zdu, zdv, zdw, zdx, zdy, zdz, zdA, zdB, zdC, zdD, zdE, zdF, zdG]
        exact ⟨hn0, hnx f2 _ rfl ⟨T', _, m', _, rfl, i', e'⟩⟩
      · have en : nxt st s n = (s - 1) % n := by unfold nxt; rw [if_neg hu]
        rw [en] at i' e'
        simp only [decide_eq_false hu, reduceIte, Bool.false_eq_true, decide_true, decide_false, Bool.not_true, Bool.not_false, true_and, and_true, decide_not, Bool.true_bne, Bool.false_bne, Bool.not_not, zaa, zab, zac, zad, zae, zaf, zag, zah, zai, zaj, zak, zal, zam, zan, zao, zap, zaq, zar, zas, zat, zau, zav, zaw, zax, zay, zaz, zaA, zaB, zaC, zaD, zaE, zaF, zaG, zaH, zaI, zaJ, zaK, zaL, zaM, zaN, zaO, zaP, zaQ, zaR, zaS, zaT, zaU, zaV, startE, full, fullE, clean, cleanE, zaW, zaX, zaY, zaZ, zba, zbb, zbc, zbd, zbe, zbf, zbg, zbh, zbi, zbj, zbk, zbl, zbm, zbn, zbo, zbp, zbq, zbr, zbs, zbt, zbu, zbv, zbw, zbx, zby, zbz, zbA, zbB, zbC, zbD, zbE, zbF, zbG, zbH, zbI, zbJ, zbK, zbL, zbM, zbN, zbO, zbP, Bool.bne_false, Bool.bne_true, zbQ, zbR, zbS, zbT, zbU, zbV, zbW, zbX, zbY, zbZ, zca, zcb, zcc, zcd, zce, zcf, zcg, zch, zci, zcj, zck, zcl, zcm, zcn, zco, setAll, wipeR, setV, zcp, zcq, zcr, zcs, zct, zcu, zcv, zcw, zcx, zcy, zcz, zcA, zcB, zcC, List.any_cons, List.any_nil, List.map_cons, List.map_nil, List.length_cons, List.length_nil, List.replicate, Nat.sub_self, List.cons_append, List.nil_append, List.append_nil, List.getElem?_cons_zero, List.getElem?_cons_succ, List.set_cons_zero, List.set_cons_succ, List.set_nil, zcD, zcE, zcF, zcG, zcH, zcI, zcJ, zcK, zcL, zcM, zcN, zcO, zcP, zcQ, zcR, zcS, zcT, zcU, zcV, zcW, zcX, zcY, zcZ, zda, zdb, zdc, zdd, zde, zdf, zdg, zdh, zdi, zdj, zdk, zdl, zdm, zdn, zdo, zdp, zdq, zdr, zds, zdt, zdu, zdv, zdw, zdx, zdy, zdz, zdA, zdB, zdC, zdD, zdE, zdF, zdG]
        exact ⟨hn0, hnx f2 _ rfl ⟨T', _, m', _, rfl, i', e'⟩⟩
    have mv : shove h st c n f2 (put T s m) (nxt st s n) (ga T s) = res → b8_placed [some (.val (slotsW h st c g gr)), some (.val (.tuple (intsD T))), some (.val k), some (.val (.int n)), some (.val (.int s)), b0, b1, some (.val (.int m)), some (.val (.int (ga T s)))] { kk with nx := fun Γ' => b10_placed Γ' { kk with nx := nx, bk := fun Γ' => b13_placed Γ' kk, ct := nx }, bk := fun Γ' => b13_placed Γ' kk, ct := nx } := by
      intro e'
      simp only [b8_placed_r, zaa, zab, zac, zad, zae, zaf, zag, zah, zai, zaj, zak, zal, zam, zan, zao, zap, zaq, zar, zas, zat, zau, zav, zaw, zax, zay, zaz, zaA, zaB, zaC, zaD, zaE, zaF, zaG, zaH, zaI, zaJ, zaK, zaL, zaM, zaN, zaO, zaP, zaQ, zaR, zaS, zaT, zaU, zaV, startE, full, fullE, clean, cleanE, zaW, zaX, zaY, zaZ, zba, zbb, zbc, zbd, zbe, zbf, zbg, zbh, zbi, zbj, zbk, zbl, zbm, zbn, zbo, zbp, zbq, zbr, zbs, zbt, zbu, zbv, zbw, zbx, zby, zbz, zbA, zbB, zbC, zbD, zbE, zbF, zbG, zbH, zbI, zbJ, zbK, zbL, zbM, zbN, zbO, zbP, Bool.bne_false, Bool.bne_true, zbQ, zbR, zbS, zbT, zbU, zbV, zbW, zbX, zbY, zbZ, zca, zcb, zcc, zcd, zce, zcf, zcg, zch, zci, zcj, zck, zcl, zcm, zcn, zco, setAll, wipeR, setV, zcp, zcq, zcr, zcs, zct, zcu, zcv, zcw, zcx, zcy, zcz, zcA, zcB, zcC, List.any_cons, List.any_nil, List.map_cons, List.map_nil, List.length_cons, List.length_nil, List.replicate, Nat.sub_self, List.cons_append, List.nil_append, List.append_nil, List.getElem?_cons_zero, List.getElem?_cons_succ, List.set_cons_zero, List.set_cons_succ, List.set_nil, zcD, zcE, zcF, zcG, zcH, zcI, zcJ, zcK, zcL, zcM, zcN, zcO, zcP, zcQ, zcR, zcS, zcT, zcU, zcV, zcW, zcX, zcY, zcZ, zda, zdb, zdc, zdd, zde, zdf, zdg, zdh, zdi, zdj, zdk, zdl, zdm, zdn, zdo, zdp, zdq, zdr, zds, zdt, zdu, zdv, zdw, zdx, zdy, zdz, zdA, zdB, zdC, zdD, zdE, zdF, zdG]
      refine tset i.s0 s1 hT ?_
      simp only [zaa, zab, zac, zad, zae, zaf, zag, zah, zai, zaj, zak, zal, zam, zan, zao, zap, zaq, zar, zas, zat, zau, zav, zaw, zax, zay, zaz, zaA, zaB, zaC, zaD, zaE, zaF, zaG, zaH, zaI, zaJ, zaK, zaL, zaM, zaN, zaO, zaP, zaQ, zaR, zaS, zaT, zaU, zaV, startE, full, fullE, clean, cleanE, zaW, zaX, zaY, zaZ, zba, zbb, zbc, zbd, zbe, zbf, zbg, zbh, zbi, zbj, zbk, zbl, zbm, zbn, zbo, zbp, zbq, zbr, zbs, zbt, zbu, zbv, zbw, zbx, zby, zbz, zbA, zbB, zbC, zbD, zbE, zbF, zbG, zbH, zbI, zbJ, zbK, zbL, zbM, zbN, zbO, zbP, Bool.bne_false, Bool.bne_true, zbQ, zbR, zbS, zbT, zbU, zbV, zbW, zbX, zbY, zbZ, zca, zcb, zcc, zcd, zce, zcf, zcg, zch, zci, zcj, zck, zcl, zcm, zcn, zco, setAll, wipeR, setV, zcp, zcq, zcr, zcs, zct, zcu, zcv, zcw, zcx, zcy, zcz, zcA, zcB, zcC, List.any_cons, List.any_nil, List.map_cons, List.map_nil, List.length_cons, List.length_nil, List.replicate, Nat.sub_self, List.cons_append, List.nil_append, List.append_nil, List.getElem?_cons_zero, List.getElem?_cons_succ, List.set_cons_zero, List.set_cons_succ, List.set_nil, zcD, zcE, zcF, zcG, zcH, zcI, zcJ, zcK, zcL, zcM, zcN, zcO, zcP, zcQ, zcR, zcS, zcT, zcU, zcV, zcW, zcX, zcY, zcZ, zda, zdb, zdc, zdd, zde, zdf, zdg, zdh, zdi, zdj, zdk, zdl, zdm, zdn, zdo, zdp, zdq, zdr, zds, zdt, zdu, zdv, zdw, zdx, zdy, zdz, zdA, zdB, zdC, zdD, zdE, zdF, zdG, tabD_s]
      exact ⟨by decide, tl (put T s m) (ga T s) i1 e'⟩
    by_cases e1 : c = "first"
    · rw [if_pos (.inl e1)] at e
      simp only [decide_eq_true e1, reduceIte, Bool.false_eq_true, decide_true, decide_false, Bool.not_true, Bool.not_false, true_and, and_true, decide_not, Bool.true_bne, Bool.false_bne, Bool.not_not]
      exact mv e
    · simp only [decide_eq_false e1, reduceIte, Bool.false_eq_true, decide_true, decide_false, Bool.not_true, Bool.not_false, true_and, and_true, decide_not, Bool.true_bne, Bool.false_bne, Bool.not_not, zaa, zab, zac, zad, zae, zaf, zag, zah, zai, zaj, zak, zal, zam, zan, zao, zap, zaq, zar, zas, zat, zau, zav, zaw, zax, zay, zaz, zaA, zaB, zaC, zaD, zaE, zaF, zaG, zaH, zaI, zaJ, zaK, zaL, zaM, zaN, zaO, zaP, zaQ, zaR, zaS, zaT, zaU, zaV, startE, full, fullE, clean, cleanE, zaW, zaX, zaY, zaZ, zba, zbb, zbc, zbd, zbe, zbf, zbg, zbh, zbi, zbj, zbk, zbl, zbm, zbn, zbo, zbp, zbq, zbr, zbs, zbt, zbu, zbv, zbw, zbx, zby, zbz, zbA, zbB, zbC, zbD, zbE, zbF, zbG, zbH, zbI, zbJ, zbK, zbL, zbM, zbN, zbO, zbP, Bool.bne_false, Bool.bne_true, zbQ, zbR, zbS, zbT, zbU, zbV, zbW, zbX, zbY, zbZ, zca, zcb, zcc, zcd, zce, zcf, zcg, zch, zci, zcj, zck, zcl, zcm, zcn, zco, setAll, wipeR, setV, zcp, zcq, zcr, zcs, zct, zcu, zcv, zcw, zcx, zcy, zcz, zcA, zcB, zcC, List.any_cons, List.any_nil, List.map_cons, List.map_nil, List.length_cons, List.length_nil, List.replicate, Nat.sub_self, List.cons_append, List.nil_append, List.append_nil, List.getElem?_cons_zero, List.getElem?_cons_succ, List.set_cons_zero, List.set_cons_succ, List.set_nil, zcD, zcE, zcF, zcG, zcH, zcI, zcJ, zcK, zcL, zcM, zcN, zcO, zcP, zcQ, zcR, zcS, zcT, zcU, zcV, zcW, zcX, zcY, zcZ, zda, zdb, zdc, zdd, zde, zdf, zdg, zdh, zdi, zdj, zdk, zdl, zdm, zdn, zdo, zdp, zdq, zdr, zds, zdt, zdu, zdv, zdw, zdx, zdy, zdz, zdA, zdB, zdC, zdD, zdE, zdF, zdG]
      show m_distance [slotsW h st c g gr, _, _, _] _ _
      refine distance_ok hn ?_
      show m_distance [slotsW h st c g gr, _, _, _] _ _
      refine distance_ok hn ?_
      simp only [zaa, zab, zac, zad, zae, zaf, zag, zah, zai, zaj, zak, zal, zam, zan, zao, zap, zaq, zar, zas, zat, zau, zav, zaw, zax, zay, zaz, zaA, zaB, zaC, zaD, zaE, zaF, zaG, zaH, zaI, zaJ, zaK, zaL, zaM, zaN, zaO, zaP, zaQ, zaR, zaS, zaT, zaU, zaV, startE, full, fullE, clean, cleanE, zaW, zaX, zaY, zaZ, zba, zbb, zbc, zbd, zbe, zbf, zbg, zbh, zbi, zbj, zbk, zbl, zbm, zbn, zbo, zbp, zbq, zbr, zbs, zbt, zbu, zbv, zbw, zbx, zby, zbz, zbA, zbB, zbC, zbD, zbE, zbF, zbG, zbH, zbI, zbJ, zbK, zbL, zbM, zbN, zbO, zbP, Bool.bne_false, Bool.bne_true, zbQ, zbR, zbS, zbT, zbU, zbV, zbW, zbX, zbY, zbZ, zca, zcb, zcc, zcd, zce, zcf, zcg, zch, zci, zcj, zck, zcl, zcm, zcn, zco, setAll, wipeR, setV, zcp, zcq, zcr, zcs, zct, zcu, zcv, zcw, zcx, zcy, zcz, zcA, zcB, zcC, List.any_cons, List.any_nil, List.map_cons, List.map_nil, List.length_cons, List.length_nil, List.replicate, Nat.sub_self, List.cons_append, List.nil_append, List.append_nil, List.getElem?_cons_zero, List.getElem?_cons_succ, List.set_cons_zero, List.set_cons_succ, List.set_nil, zcD, zcE, zcF, zcG, zcH, zcI, zcJ, zcK, zcL, zcM, zcN, zcO, zcP, zcQ, zcR, zcS, zcT, zcU, zcV, zcW, zcX, zcY, zcZ, zda, zdb, zdc, zdd, zde, zdf, zdg, zdh, zdi, zdj, zdk, zdl, zdm, zdn, zdo, zdp, zdq, zdr, zds, zdt, zdu, zdv, zdw, zdx, zdy, zdz, zdA, zdB, zdC, zdD, zdE, zdF, zdG]
      by_cases e2 : dist h st (ga T s) s n < dist h st m s n
      · rw [if_pos (.inr e2)] at e
        simp only [decide_eq_true e2, reduceIte, Bool.false_eq_true, decide_true, decide_false, Bool.not_true, Bool.not_false, true_and, and_true, decide_not, Bool.true_bne, Bool.false_bne, Bool.not_not]
        exact mv e
      · rw [if_neg (fun z => z.elim e1 e2)] at e
        simp only [decide_eq_false e2, reduceIte, Bool.false_eq_true, decide_true, decide_false, Bool.not_true, Bool.not_false, true_and, and_true, decide_not, Bool.true_bne, Bool.false_bne, Bool.not_not, zaa, zab, zac, zad, zae, zaf, zag, zah, zai, zaj, zak, zal, zam, zan, zao, zap, zaq, zar, zas, zat, zau, zav, zaw, zax, zay, zaz, zaA, zaB, zaC, zaD, zaE, zaF, zaG, zaH, zaI, zaJ, zaK, zaL, zaM, zaN, zaO, zaP, zaQ, zaR, zaS, zaT, zaU, zaV, startE, full, fullE, clean, cleanE, zaW, zaX, zaY, zaZ, zba, zbb, zbc, zbd, zbe, zbf, zbg, zbh, zbi, zbj, zbk, zbl, zbm, zbn, zbo, zbp, zbq, zbr, zbs, zbt, zbu, zbv, zbw, zbx, zby, zbz, zbA, zbB, zbC, zbD, zbE, zbF, zbG, zbH, zbI, zbJ, zbK, zbL, zbM, zbN, zbO, zbP, Bool.bne_false, Bool.bne_true, zbQ, zbR, zbS, zbT, zbU, zbV, zbW, zbX, zbY, zbZ, zca, zcb, zcc, zcd, zce, zcf, zcg, zch, zci, zcj, zck, zcl, zcm, zcn, zco, setAll, wipeR, setV, zcp, zcq, zcr, zcs, zct, zcu, zcv, zcw, zcx, zcy, zcz, zcA, zcB, zcC, List.any_cons, List.any_nil, List.map_cons, List.map_nil, List.length_cons, List.length_nil, List.replicate, Nat.sub_self, List.cons_append, List.nil_append, List.append_nil, List.getElem?_cons_zero, List.getElem?_cons_succ, List.set_cons_zero, List.set_cons_succ, List.set_nil, zcD, zcE, zcF, zcG, zcH, zcI, zcJ, zcK, zcL, zcM, zcN, zcO, zcP, zcQ, zcR, zcS, zcT, zcU, zcV, zcW, zcX, zcY, zcZ, zda, zdb, zdc, zdd, zde, zdf, zdg, zdh, zdi, zdj, zdk, zdl, zdm, zdn, zdo, zdp, zdq, zdr, zds, zdt, zdu, zdv, zdw, zdx, zdy, zdz, zdA, zdB, zdC, zdD, zdE, zdF, zdG]
        exact tl T m i2 e
  · rw [if_neg hg] at e
    simp only [hg, reduceIte, Bool.false_eq_true, decide_true, decide_false, Bool.not_true, Bool.not_false, true_and, and_true, decide_not, Bool.true_bne, Bool.false_bne, Bool.not_not, zaa, zab, zac, zad, zae, zaf, zag, zah, zai, zaj, zak, zal, zam, zan, zao, zap, zaq, zar, zas, zat, zau, zav, zaw, zax, zay, zaz, zaA, zaB, zaC, zaD, zaE, zaF, zaG, zaH, zaI, zaJ, zaK, zaL, zaM, zaN, zaO, zaP, zaQ, zaR, zaS, zaT, zaU, zaV, startE, full, fullE, clean, cleanE, zaW, zaX, zaY, zaZ, zba, zbb, zbc, zbd, zbe, zbf, zbg, zbh, zbi, zbj, zbk, zbl, zbm, zbn, zbo, zbp, zbq, zbr, zbs, zbt, zbu, zbv, zbw, zbx, zby, zbz, zbA, zbB, zbC, zbD, zbE, zbF, zbG, zbH, zbI, zbJ, zbK, zbL, zbM, zbN, zbO, zbP, Bool.bne_false, Bool.bne_true, zbQ, zbR, zbS, zbT, zbU, zbV, zbW, zbX, zbY, zbZ, zca, zcb, zcc, zcd, zce, zcf, zcg, zch, zci, zcj, zck, zcl, zcm, zcn, zco, setAll, wipeR, setV, zcp, zcq, zcr, zcs, zct, zcu, zcv, zcw, zcx, zcy, zcz, zcA, zcB, zcC, List.any_cons, List.any_nil, List.map_cons, List.map_nil, List.length_cons, List.length_nil, List.replicate, Nat.sub_self, List.cons_append, List.nil_append, List.append_nil, List.getElem?_cons_zero, List.getElem?_cons_succ, List.set_cons_zero, List.set_cons_succ, List.set_nil, zcD, zcE, zcF, zcG, zcH, zcI, zcJ, zcK, zcL, zcM, zcN, zcO, zcP, zcQ, zcR, zcS, zcT, zcU, zcV, zcW, zcX, zcY, zcZ, zda, zdb, zdc, zdd, zde, zdf, zdg, zdh, zdi, zdj, zdk, zdl, zdm, zdn, zdo, zdp, zdq, zdr, zds, zdt, zdu, zdv, zdw, zdx, zdy, zdz, zdA, zdB, zdC, zdD, zdE, zdF, zdG]
    simp only [b13_placed_r, zaa, zab, zac, zad, zae, zaf, zag, zah, zai, zaj, zak, zal, zam, zan, zao, zap, zaq, zar, zas, zat, zau, zav, zaw, zax, zay, zaz, zaA, zaB, zaC, zaD, zaE, zaF, zaG, zaH, zaI, zaJ, zaK, zaL, zaM, zaN, zaO, zaP, zaQ, zaR, zaS, zaT, zaU, zaV, startE, full, fullE, clean, cleanE, zaW, zaX, zaY, zaZ, zba, zbb, zbc, zbd, zbe, zbf, zbg, zbh, zbi, zbj, zbk, zbl, zbm, zbn, zbo, zbp, zbq, zbr, zbs, zbt, zbu, zbv, zbw, zbx, zby, zbz, zbA, zbB, zbC, zbD, zbE, zbF, zbG, zbH, zbI, zbJ, zbK, zbL, zbM, zbN, zbO, zbP, Bool.bne_false, Bool.bne_true, zbQ, zbR, zbS, zbT, zbU, zbV, zbW, zbX, zbY, zbZ, zca, zcb, zcc, zcd, zce, zcf, zcg, zch, zci, zcj, zck, zcl, zcm, zcn, zco, setAll, wipeR, setV, zcp, zcq, zcr, zcs, zct, zcu, zcv, zcw, zcx, zcy, zcz, zcA, zcB, zcC, List.any_cons, List.any_nil, List.map_cons, List.map_nil, List.length_cons, List.length_nil, List.replicate, Nat.sub_self, List.cons_append, List.nil_append, List.append_nil, List.getElem?_cons_zero, List.getElem?_cons_succ, List.set_cons_zero, List.set_cons_succ, List.set_nil, zcD, zcE, zcF, zcG, zcH, zcI, zcJ, zcK, zcL, zcM, zcN, zcO, zcP, zcQ, zcR, zcS, zcT, zcU, zcV, zcW, zcX, zcY, zcZ, zda, zdb, zdc, zdd, zde, zdf, zdg, zdh, zdi, zdj, zdk, zdl, zdm, zdn, zdo, zdp, zdq, zdr, zds, zdt, zdu, zdv, zdw, zdx, zdy, zdz, zdA, zdB, zdC, zdD, zdE, zdF, zdG]
    exact tset i.s0 s1 hT (e ▸ q)
theorem placed_move {h st c g gr : String} {T : List Int} {k : Int} (hn : SizeOk T.length) (hc : ¬ (c = "late" ∨ c = "empty")) (hu : used T < T.length) (q : Q (tabD (.s (placeS h st c T k)))) : m_placed [slotsW h st c g gr, .tuple (intsD T), .int k] Q E := by
  obtain ⟨hn0, hn1⟩ := small hn
  unfold placeS at q
  rw [if_neg hc] at q
  simp only [m_placed_r, b3_placed_r, zaa, zab, zac, zad, zae, zaf, zag, zah, zai, zaj, zak, zal, zam, zan, zao, zap, zaq, zar, zas, zat, zau, zav, zaw, zax, zay, zaz, zaA, zaB, zaC, zaD, zaE, zaF, zaG, zaH, zaI, zaJ, zaK, zaL, zaM, zaN, zaO, zaP, zaQ, zaR, zaS, zaT, zaU, zaV, startE, full, fullE, clean, cleanE, zaW, zaX, zaY, zaZ, zba, zbb, zbc, zbd, zbe, zbf, zbg, zbh, zbi, zbj, zbk, zbl, zbm, zbn, zbo, zbp, zbq, zbr, zbs, zbt, zbu, zbv, zbw, zbx, zby, zbz, zbA, zbB, zbC, zbD, zbE, zbF, zbG, zbH, zbI, zbJ, zbK, zbL, zbM, zbN, zbO, zbP, Bool.bne_false, Bool.bne_true, zbQ, zbR, zbS, zbT, zbU, zbV, zbW, zbX, zbY, zbZ, zca, zcb, zcc, zcd, zce, zcf, zcg, zch, zci, zcj, zck, zcl, zcm, zcn, zco, setAll, wipeR, setV, zcp, zcq, zcr, zcs, zct, zcu, zcv, zcw, zcx, zcy, zcz, zcA, zcB, zcC, List.any_cons, List.any_nil, List.map_cons, List.map_nil, List.length_cons, List.length_nil, List.replicate, Nat.sub_self, List.cons_append, List.nil_append, List.append_nil, List.getElem?_cons_zero, List.getElem?_cons_succ, List.set_cons_zero, List.set_cons_succ, List.set_nil, zcD, zcE, zcF, zcG, zcH, zcI, zcJ, zcK, zcL, zcM, zcN, zcO, zcP, zcQ, zcR, zcS, zcT, zcU, zcV, zcW, zcX, zcY, zcZ, zda, zdb, zdc, zdd, zde, zdf, zdg, zdh, zdi, zdj, zdk, zdl, zdm, zdn, zdo, zdp, zdq, zdr, zds, zdt, zdu, zdv, zdw, zdx, zdy, zdz, zdA, zdB, zdC, zdD, zdE, zdF, zdG, slotsW, reduceIte, Bool.false_eq_true, decide_true, decide_false, Bool.not_true, Bool.not_false, true_and, and_true, decide_not, Bool.true_bne, Bool.false_bne, Bool.not_not, intsD_len]
  simp [zaa, zab, zac, zad, zae, zaf, zag, zah, zai, zaj, zak, zal, zam, zan, zao, zap, zaq, zar, zas, zat, zau, zav, zaw, zax, zay, zaz, zaA, zaB, zaC, zaD, zaE, zaF, zaG, zaH, zaI, zaJ, zaK, zaL, zaM, zaN, zaO, zaP, zaQ, zaR, zaS, zaT, zaU, zaV, startE, full, fullE, clean, cleanE, zaW, zaX, zaY, zaZ, zba, zbb, zbc, zbd, zbe, zbf, zbg, zbh, zbi, zbj, zbk, zbl, zbm, zbn, zbo, zbp, zbq, zbr, zbs, zbt, zbu, zbv, zbw, zbx, zby, zbz, zbA, zbB, zbC, zbD, zbE, zbF, zbG, zbH, zbI, zbJ, zbK, zbL, zbM, zbN, zbO, zbP, Bool.bne_false, Bool.bne_true, zbQ, zbR, zbS, zbT, zbU, zbV, zbW, zbX, zbY, zbZ, zca, zcb, zcc, zcd, zce, zcf, zcg, zch, zci, zcj, zck, zcl, zcm, zcn, zco, setAll, wipeR, setV, zcp, zcq, zcr, zcs, zct, zcu, zcv, zcw, zcx, zcy, zcz, zcA, zcB, zcC, List.any_cons, List.any_nil, List.map_cons, List.map_nil, List.length_cons, List.length_nil, List.replicate, Nat.sub_self, List.cons_append, List.nil_append, List.append_nil, List.getElem?_cons_zero, List.getElem?_cons_succ, List.set_cons_zero, List.set_cons_succ, List.set_nil, zcD, zcE, zcF, zcG, zcH, zcI, zcJ, zcK, zcL, zcM, zcN, zcO, zcP, zcQ, zcR, zcS, zcT, zcU, zcV, zcW, zcX, zcY, zcZ, zda, zdb, zdc, zdd, zde, zdf, zdg, zdh, zdi, zdj, zdk, zdl, zdm, zdn, zdo, zdp, zdq, zdr, zds, zdt, zdu, zdv, zdw, zdx, zdy, zdz, zdA, zdB, zdC, zdD, zdE, zdF, zdG]
  simp only [b6_placed_r, zaa, zab, zac, zad, zae, zaf, zag, zah, zai, zaj, zak, zal, zam, zan, zao, zap, zaq, zar, zas, zat, zau, zav, zaw, zax, zay, zaz, zaA, zaB, zaC, zaD, zaE, zaF, zaG, zaH, zaI, zaJ, zaK, zaL, zaM, zaN, zaO, zaP, zaQ, zaR, zaS, zaT, zaU, zaV, startE, full, fullE, clean, cleanE, zaW, zaX, zaY, zaZ, zba, zbb, zbc, zbd, zbe, zbf, zbg, zbh, zbi, zbj, zbk, zbl, zbm, zbn, zbo, zbp, zbq, zbr, zbs, zbt, zbu, zbv, zbw, zbx, zby, zbz, zbA, zbB, zbC, zbD, zbE, zbF, zbG, zbH, zbI, zbJ, zbK, zbL, zbM, zbN, zbO, zbP, Bool.bne_false, Bool.bne_true, zbQ, zbR, zbS, zbT, zbU, zbV, zbW, zbX, zbY, zbZ, zca, zcb, zcc, zcd, zce, zcf, zcg, zch, zci, zcj, zck, zcl, zcm, zcn, zco, setAll, wipeR, setV, zcp, zcq, zcr, zcs, zct, zcu, zcv, zcw, zcx, zcy, zcz, zcA, zcB, zcC, List.any_cons, List.any_nil, List.map_cons, List.map_nil, List.length_cons, List.length_nil, List.replicate, Nat.sub_self, List.cons_append, List.nil_append, List.append_nil, List.getElem?_cons_zero, List.getElem?_cons_succ, List.set_cons_zero, List.set_cons_succ, List.set_nil, zcD, zcE, zcF, zcG, zcH, zcI, zcJ, zcK, zcL, zcM, zcN, zcO, zcP, zcQ, zcR, zcS, zcT, zcU, zcV, zcW, zcX, zcY, zcZ, zda, zdb, zdc, zdd, zde, zdf, zdg, zdh, zdi, zdj, zdk, zdl, zdm, zdn, zdo, zdp, zdq, zdr, zds, zdt, zdu, zdv, zdw, zdx, zdy, zdz, zdA, zdB, zdC, zdD, zdE, zdF, zdG, reduceIte, Bool.false_eq_true, decide_true, decide_false, Bool.not_true, Bool.not_false, true_and, and_true, decide_not, Bool.true_bne, Bool.false_bne, Bool.not_not]
  have hin : (decide ("late" = c) || (decide ("empty" = c) || false)) = false := by
    have h1 : ¬ "late" = c := fun z => hc (.inl z.symm)
    have h2 : ¬ "empty" = c := fun z => hc (.inr z.symm)
    simp [h1, h2]
  rw [hin]
  simp only [reduceIte, Bool.false_eq_true, decide_true, decide_false, Bool.not_true, Bool.not_false, true_and, and_true, decide_not, Bool.true_bne, Bool.false_bne, Bool.not_not, zaa, zab, zac, zad, zae, zaf, zag, zah, zai, zaj, zak, zal, zam, zan, zao, zap, zaq, zar, zas, zat, zau, zav, zaw, zax, zay, zaz, zaA, zaB, zaC, zaD, zaE, zaF, zaG, zaH, zaI, zaJ, zaK, zaL, zaM, zaN, zaO, zaP, zaQ, zaR, zaS, zaT, zaU, zaV, startE, full, fullE, clean, cleanE, zaW, zaX, zaY, zaZ, zba, zbb, zbc, zbd, zbe, zbf, zbg, zbh, zbi, zbj, zbk, zbl, zbm, zbn, zbo, zbp, zbq, zbr, zbs, zbt, zbu, zbv, zbw, zbx, zby, zbz, zbA, zbB, zbC, zbD, zbE, zbF, zbG, zbH, zbI, zbJ, zbK, zbL, zbM, zbN, zbO, zbP, Bool.bne_false, Bool.bne_true, zbQ, zbR, zbS, zbT, zbU, zbV, zbW, zbX, zbY, zbZ, zca, zcb, zcc, zcd, zce, zcf, zcg, zch, zci, zcj, zck, zcl, zcm, zcn, zco, setAll, wipeR, setV, zcp, zcq, zcr, zcs, zct, zcu, zcv, zcw, zcx, zcy, zcz, zcA, zcB, zcC, List.any_cons, List.any_nil, List.map_cons, List.map_nil, List.length_cons, List.length_nil, List.replicate, Nat.sub_self, List.cons_append, List.nil_append, List.append_nil, List.getElem?_cons_zero, List.getElem?_cons_succ, List.set_cons_zero, List.set_cons_succ, List.set_nil, zcD, zcE, zcF, zcG, zcH, zcI, zcJ, zcK, zcL, zcM, zcN, zcO, zcP, zcQ, zcR, zcS, zcT, zcU, zcV, zcW, zcX, zcY, zcZ, zda, zdb, zdc, zdd, zde, zdf, zdg, zdh, zdi, zdj, zdk, zdl, zdm, zdn, zdo, zdp, zdq, zdr, zds, zdt, zdu, zdv, zdw, zdx, zdy, zdz, zdA, zdB, zdC, zdD, zdE, zdF, zdG, b7_placed_r]
  refine ⟨by decide, ?_⟩
  show m_home_of [slotsW h st c g gr, _, _] _ _
  refine home_slots hn ?_
  exact shoved (kk := { nx := fun _ => Q .none, rt := Q }) (g := g) (gr := gr) hn q T.length _ ⟨T, _, k, none, rfl, ShI.start hn hu, rfl⟩
theorem placed_slots {h st c g gr : String} {T : List Int} {k : Int} (hn : SizeOk T.length) (hu : used T < T.length) (q : Q (tabD (.s (placeS h st c T k)))) : m_placed [slotsW h st c g gr, .tuple (intsD T), .int k] Q E := by
  by_cases hc : c = "late" ∨ c = "empty"
  · exact placed_line hn hc hu q
  · exact placed_move hn hc hu q
/-! ### laying anew -/
theorem anew_slots {h st c g gr : String} {T : List Int} {n : Nat} (hn : SizeOk n) (hl : T.length ≤ 1000) (hu : (once [] (keysS T)).length ≤ n) (q : Q (tabD (.s (anewS h st c T n)))) : m_laid_anew [slotsW h st c g gr, .tuple (intsD T), .int n] Q E := by
  obtain ⟨hn0, hn1⟩ := small hn
  simp only [m_laid_anew_r, b1_laid_anew_r, zaa, zab, zac, zad, zae, zaf, zag, zah, zai, zaj, zak, zal, zam, zan, zao, zap, zaq, zar, zas, zat, zau, zav, zaw, zax, zay, zaz, zaA, zaB, zaC, zaD, zaE, zaF, zaG, zaH, zaI, zaJ, zaK, zaL, zaM, zaN, zaO, zaP, zaQ, zaR, zaS, zaT, zaU, zaV, startE, full, fullE, clean, cleanE, zaW, zaX, zaY, zaZ, zba, zbb, zbc, zbd, zbe, zbf, zbg, zbh, zbi, zbj, zbk, zbl, zbm, zbn, zbo, zbp, zbq, zbr, zbs, zbt, zbu, zbv, zbw, zbx, zby, zbz, zbA, zbB, zbC, zbD, zbE, zbF, zbG, zbH, zbI, zbJ, zbK, zbL, zbM, zbN, zbO, zbP, Bool.bne_false, Bool.bne_true, zbQ, zbR, zbS, zbT, zbU, zbV, zbW, zbX, zbY, zbZ, zca, zcb, zcc, zcd, zce, zcf, zcg, zch, zci, zcj, zck, zcl, zcm, zcn, zco, setAll, wipeR, setV, zcp, zcq, zcr, zcs, zct, zcu, zcv, zcw, zcx, zcy, zcz, zcA, zcB, zcC, List.any_cons, List.any_nil, List.map_cons, List.map_nil, List.length_cons, List.length_nil, List.replicate, Nat.sub_self, List.cons_append, List.nil_append, List.append_nil, List.getElem?_cons_zero, List.getElem?_cons_succ, List.set_cons_zero, List.set_cons_succ, List.set_nil, zcD, zcE, zcF, zcG, zcH, zcI, zcJ, zcK, zcL, zcM, zcN, zcO, zcP, zcQ, zcR, zcS, zcT, zcU, zcV, zcW, zcX, zcY, zcZ, zda, zdb, zdc, zdd, zde, zdf, zdg, zdh, zdi, zdj, zdk, zdl, zdm, zdn, zdo, zdp, zdq, zdr, zds, zdt, zdu, zdv, zdw, zdx, zdy, zdz, zdA, zdB, zdC, zdD, zdE, zdF, zdG]
  refine begun_slots hn ?_
  simp only [b3_laid_anew_r, zaa, zab, zac, zad, zae, zaf, zag, zah, zai, zaj, zak, zal, zam, zan, zao, zap, zaq, zar, zas, zat, zau, zav, zaw, zax, zay, zaz, zaA, zaB, zaC, zaD, zaE, zaF, zaG, zaH, zaI, zaJ, zaK, zaL, zaM, zaN, zaO, zaP, zaQ, zaR, zaS, zaT, zaU, zaV, startE, full, fullE, clean, cleanE, zaW, zaX, zaY, zaZ, zba, zbb, zbc, zbd, zbe, zbf, zbg, zbh, zbi, zbj, zbk, zbl, zbm, zbn, zbo, zbp, zbq, zbr, zbs, zbt, zbu, zbv, zbw, zbx, zby, zbz, zbA, zbB, zbC, zbD, zbE, zbF, zbG, zbH, zbI, zbJ, zbK, zbL, zbM, zbN, zbO, zbP, Bool.bne_false, Bool.bne_true, zbQ, zbR, zbS, zbT, zbU, zbV, zbW, zbX, zbY, zbZ, zca, zcb, zcc, zcd, zce, zcf, zcg, zch, zci, zcj, zck, zcl, zcm, zcn, zco, setAll, wipeR, setV, zcp, zcq, zcr, zcs, zct, zcu, zcv, zcw, zcx, zcy, zcz, zcA, zcB, zcC, List.any_cons, List.any_nil, List.map_cons, List.map_nil, List.length_cons, List.length_nil, List.replicate, Nat.sub_self, List.cons_append, List.nil_append, List.append_nil, List.getElem?_cons_zero, List.getElem?_cons_succ, List.set_cons_zero, List.set_cons_succ, List.set_nil, zcD, zcE, zcF, zcG, zcH, zcI, zcJ, zcK, zcL, zcM, zcN, zcO, zcP, zcQ, zcR, zcS, zcT, zcU, zcV, zcW, zcX, zcY, zcZ, zda, zdb, zdc, zdd, zde, zdf, zdg, zdh, zdi, zdj, zdk, zdl, zdm, zdn, zdo, zdp, zdq, zdr, zds, zdt, zdu, zdv, zdw, zdx, zdy, zdz, zdA, zdB, zdC, zdD, zdE, zdF, zdG]
  refine keys_slots hl ?_
  have hkl : (keysS T).length ≤ 1000 := by
    have := List.length_filter_le (fun x : Int => decide (0 ≤ x)) T
    unfold keysS
    omega
  refine once_ok hkl ?_
  simp only [zaa, zab, zac, zad, zae, zaf, zag, zah, zai, zaj, zak, zal, zam, zan, zao, zap, zaq, zar, zas, zat, zau, zav, zaw, zax, zay, zaz, zaA, zaB, zaC, zaD, zaE, zaF, zaG, zaH, zaI, zaJ, zaK, zaL, zaM, zaN, zaO, zaP, zaQ, zaR, zaS, zaT, zaU, zaV, startE, full, fullE, clean, cleanE, zaW, zaX, zaY, zaZ, zba, zbb, zbc, zbd, zbe, zbf, zbg, zbh, zbi, zbj, zbk, zbl, zbm, zbn, zbo, zbp, zbq, zbr, zbs, zbt, zbu, zbv, zbw, zbx, zby, zbz, zbA, zbB, zbC, zbD, zbE, zbF, zbG, zbH, zbI, zbJ, zbK, zbL, zbM, zbN, zbO, zbP, Bool.bne_false, Bool.bne_true, zbQ, zbR, zbS, zbT, zbU, zbV, zbW, zbX, zbY, zbZ, zca, zcb, zcc, zcd, zce, zcf, zcg, zch, zci, zcj, zck, zcl, zcm, zcn, zco, setAll, wipeR, setV, zcp, zcq, zcr, zcs, zct, zcu, zcv, zcw, zcx, zcy, zcz, zcA, zcB, zcC, List.any_cons, List.any_nil, List.map_cons, List.map_nil, List.length_cons, List.length_nil, List.replicate, Nat.sub_self, List.cons_append, List.nil_append, List.append_nil, List.getElem?_cons_zero, List.getElem?_cons_succ, List.set_cons_zero, List.set_cons_succ, List.set_nil, zcD, zcE, zcF, zcG, zcH, zcI, zcJ, zcK, zcL, zcM, zcN, zcO, zcP, zcQ, zcR, zcS, zcT, zcU, zcV, zcW, zcX, zcY, zcZ, zda, zdb, zdc, zdd, zde, zdf, zdg, zdh, zdi, zdj, zdk, zdl, zdm, zdn, zdo, zdp, zdq, zdr, zds, zdt, zdu, zdv, zdw, zdx, zdy, zdz, zdA, zdB, zdC, zdD, zdE, zdF, zdG]
  unfold anewS at q
  generalize e0 : (once [] (keysS T)).foldl (placeS h st c) (List.replicate n (-1)) = res at q
  refine forLoop_mp PyData.int (fun r Γ => ∃ A x, Γ = [some (.val (slotsW h st c g gr)), some (.val (.tuple (intsD T))), some (.val (.int n)), some (.val (tabD (.s A))), x] ∧ A.length = n ∧ used A + r.length ≤ n ∧ r.foldl (placeS h st c) A = res) (fun Γ ⟨A, x, e, _, _, hh⟩ => ?_) _ (fun a r Γ ⟨A, x, e, hA, hu, hh⟩ nx hnx => ?_) _ ⟨List.replicate n (-1), none, by simp, by simp, by rw [used_replicate]; omega, e0⟩
  · subst e
    simp only [zaa, zab, zac, zad, zae, zaf, zag, zah, zai, zaj, zak, zal, zam, zan, zao, zap, zaq, zar, zas, zat, zau, zav, zaw, zax, zay, zaz, zaA, zaB, zaC, zaD, zaE, zaF, zaG, zaH, zaI, zaJ, zaK, zaL, zaM, zaN, zaO, zaP, zaQ, zaR, zaS, zaT, zaU, zaV, startE, full, fullE, clean, cleanE, zaW, zaX, zaY, zaZ, zba, zbb, zbc, zbd, zbe, zbf, zbg, zbh, zbi, zbj, zbk, zbl, zbm, zbn, zbo, zbp, zbq, zbr, zbs, zbt, zbu, zbv, zbw, zbx, zby, zbz, zbA, zbB, zbC, zbD, zbE, zbF, zbG, zbH, zbI, zbJ, zbK, zbL, zbM, zbN, zbO, zbP, Bool.bne_false, Bool.bne_true, zbQ, zbR, zbS, zbT, zbU, zbV, zbW, zbX, zbY, zbZ, zca, zcb, zcc, zcd, zce, zcf, zcg, zch, zci, zcj, zck, zcl, zcm, zcn, zco, setAll, wipeR, setV, zcp, zcq, zcr, zcs, zct, zcu, zcv, zcw, zcx, zcy, zcz, zcA, zcB, zcC, List.any_cons, List.any_nil, List.map_cons, List.map_nil, List.length_cons, List.length_nil, List.replicate, Nat.sub_self, List.cons_append, List.nil_append, List.append_nil, List.getElem?_cons_zero, List.getElem?_cons_succ, List.set_cons_zero, List.set_cons_succ, List.set_nil, zcD, zcE, zcF, zcG, zcH, zcI, zcJ, zcK, zcL, zcM, zcN, zcO, zcP, zcQ, zcR, zcS, zcT, zcU, zcV, zcW, zcX, zcY, zcZ, zda, zdb, zdc, zdd, zde, zdf, zdg, zdh, zdi, zdj, zdk, zdl, zdm, zdn, zdo, zdp, zdq, zdr, zds, zdt, zdu, zdv, zdw, zdx, zdy, zdz, zdA, zdB, zdC, zdD, zdE, zdF, zdG]
    rw [← show A = res from hh] at q
    exact q
  · subst e
    simp only [List.length_cons] at hu
    simp only [b2_laid_anew_r, zaa, zab, zac, zad, zae, zaf, zag, zah, zai, zaj, zak, zal, zam, zan, zao, zap, zaq, zar, zas, zat, zau, zav, zaw, zax, zay, zaz, zaA, zaB, zaC, zaD, zaE, zaF, zaG, zaH, zaI, zaJ, zaK, zaL, zaM, zaN, zaO, zaP, zaQ, zaR, zaS, zaT, zaU, zaV, startE, full, fullE, clean, cleanE, zaW, zaX, zaY, zaZ, zba, zbb, zbc, zbd, zbe, zbf, zbg, zbh, zbi, zbj, zbk, zbl, zbm, zbn, zbo, zbp, zbq, zbr, zbs, zbt, zbu, zbv, zbw, zbx, zby, zbz, zbA, zbB, zbC, zbD, zbE, zbF, zbG, zbH, zbI, zbJ, zbK, zbL, zbM, zbN, zbO, zbP, Bool.bne_false, Bool.bne_true, zbQ, zbR, zbS, zbT, zbU, zbV, zbW, zbX, zbY, zbZ, zca, zcb, zcc, zcd, zce, zcf, zcg, zch, zci, zcj, zck, zcl, zcm, zcn, zco, setAll, wipeR, setV, zcp, zcq, zcr, zcs, zct, zcu, zcv, zcw, zcx, zcy, zcz, zcA, zcB, zcC, List.any_cons, List.any_nil, List.map_cons, List.map_nil, List.length_cons, List.length_nil, List.replicate, Nat.sub_self, List.cons_append, List.nil_append, List.append_nil, List.getElem?_cons_zero, List.getElem?_cons_succ, List.set_cons_zero, List.set_cons_succ, List.set_nil, zcD, zcE, zcF, zcG, zcH, zcI, zcJ, zcK, zcL, zcM, zcN, zcO, zcP, zcQ, zcR, zcS, zcT, zcU, zcV, zcW, zcX, zcY, zcZ, zda, zdb, zdc, zdd, zde, zdf, zdg, zdh, zdi, zdj, zdk, zdl, zdm, zdn, zdo, zdp, zdq, zdr, zds, zdt, zdu, zdv, zdw, zdx, zdy, zdz, zdA, zdB, zdC, zdD, zdE, zdF, zdG, tabD_s]
    have hs : SizeOk A.length := by rw [hA]; exact hn
    refine placed_slots hs (by omega) ?_
    have p := place_put (h := h) (st := st) (c := c) (k := a) hs (by omega)
    exact hnx _ ⟨_, _, rfl, by rw [p.len]; exact hA, by have := p.used; omega, hh⟩
theorem anew_rows {h c o : String} {R : List (List Int)} {n : Nat} (hn : SizeOk n) (hl : R.flatten.length ≤ 1000) (q : Q (tabD (.r (anewR h c R n)))) : m_laid_anew [rowsW h c o, tabD (.r R), .int n] Q E := by
  obtain ⟨hn0, hn1⟩ := small hn
  simp only [m_laid_anew_r, b1_laid_anew_r, zaa, zab, zac, zad, zae, zaf, zag, zah, zai, zaj, zak, zal, zam, zan, zao, zap, zaq, zar, zas, zat, zau, zav, zaw, zax, zay, zaz, zaA, zaB, zaC, zaD, zaE, zaF, zaG, zaH, zaI, zaJ, zaK, zaL, zaM, zaN, zaO, zaP, zaQ, zaR, zaS, zaT, zaU, zaV, startE, full, fullE, clean, cleanE, zaW, zaX, zaY, zaZ, zba, zbb, zbc, zbd, zbe, zbf, zbg, zbh, zbi, zbj, zbk, zbl, zbm, zbn, zbo, zbp, zbq, zbr, zbs, zbt, zbu, zbv, zbw, zbx, zby, zbz, zbA, zbB, zbC, zbD, zbE, zbF, zbG, zbH, zbI, zbJ, zbK, zbL, zbM, zbN, zbO, zbP, Bool.bne_false, Bool.bne_true, zbQ, zbR, zbS, zbT, zbU, zbV, zbW, zbX, zbY, zbZ, zca, zcb, zcc, zcd, zce, zcf, zcg, zch, zci, zcj, zck, zcl, zcm, zcn, zco, setAll, wipeR, setV, zcp, zcq, zcr, zcs, zct, zcu, zcv, zcw, zcx, zcy, zcz, zcA, zcB, zcC, List.any_cons, List.any_nil, List.map_cons, List.map_nil, List.length_cons, List.length_nil, List.replicate, Nat.sub_self, List.cons_append, List.nil_append, List.append_nil, List.getElem?_cons_zero, List.getElem?_cons_succ, List.set_cons_zero, List.set_cons_succ, List.set_nil, zcD, zcE, zcF, zcG, zcH, zcI, zcJ, zcK, zcL, zcM, zcN, zcO, zcP, zcQ, zcR, zcS, zcT, zcU, zcV, zcW, zcX, zcY, zcZ, zda, zdb, zdc, zdd, zde, zdf, zdg, zdh, zdi, zdj, zdk, zdl, zdm, zdn, zdo, zdp, zdq, zdr, zds, zdt, zdu, zdv, zdw, zdx, zdy, zdz, zdA, zdB, zdC, zdD, zdE, zdF, zdG]
  refine begun_rows hn ?_
  simp only [b3_laid_anew_r, zaa, zab, zac, zad, zae, zaf, zag, zah, zai, zaj, zak, zal, zam, zan, zao, zap, zaq, zar, zas, zat, zau, zav, zaw, zax, zay, zaz, zaA, zaB, zaC, zaD, zaE, zaF, zaG, zaH, zaI, zaJ, zaK, zaL, zaM, zaN, zaO, zaP, zaQ, zaR, zaS, zaT, zaU, zaV, startE, full, fullE, clean, cleanE, zaW, zaX, zaY, zaZ, zba, zbb, zbc, zbd, zbe, zbf, zbg, zbh, zbi, zbj, zbk, zbl, zbm, zbn, zbo, zbp, zbq, zbr, zbs, zbt, zbu, zbv, zbw, zbx, zby, zbz, zbA, zbB, zbC, zbD, zbE, zbF, zbG, zbH, zbI, zbJ, zbK, zbL, zbM, zbN, zbO, zbP, Bool.bne_false, Bool.bne_true, zbQ, zbR, zbS, zbT, zbU, zbV, zbW, zbX, zbY, zbZ, zca, zcb, zcc, zcd, zce, zcf, zcg, zch, zci, zcj, zck, zcl, zcm, zcn, zco, setAll, wipeR, setV, zcp, zcq, zcr, zcs, zct, zcu, zcv, zcw, zcx, zcy, zcz, zcA, zcB, zcC, List.any_cons, List.any_nil, List.map_cons, List.map_nil, List.length_cons, List.length_nil, List.replicate, Nat.sub_self, List.cons_append, List.nil_append, List.append_nil, List.getElem?_cons_zero, List.getElem?_cons_succ, List.set_cons_zero, List.set_cons_succ, List.set_nil, zcD, zcE, zcF, zcG, zcH, zcI, zcJ, zcK, zcL, zcM, zcN, zcO, zcP, zcQ, zcR, zcS, zcT, zcU, zcV, zcW, zcX, zcY, zcZ, zda, zdb, zdc, zdd, zde, zdf, zdg, zdh, zdi, zdj, zdk, zdl, zdm, zdn, zdo, zdp, zdq, zdr, zds, zdt, zdu, zdv, zdw, zdx, zdy, zdz, zdA, zdB, zdC, zdD, zdE, zdF, zdG]
  refine keys_rows hl ?_
  refine once_ok hl ?_
  simp only [zaa, zab, zac, zad, zae, zaf, zag, zah, zai, zaj, zak, zal, zam, zan, zao, zap, zaq, zar, zas, zat, zau, zav, zaw, zax, zay, zaz, zaA, zaB, zaC, zaD, zaE, zaF, zaG, zaH, zaI, zaJ, zaK, zaL, zaM, zaN, zaO, zaP, zaQ, zaR, zaS, zaT, zaU, zaV, startE, full, fullE, clean, cleanE, zaW, zaX, zaY, zaZ, zba, zbb, zbc, zbd, zbe, zbf, zbg, zbh, zbi, zbj, zbk, zbl, zbm, zbn, zbo, zbp, zbq, zbr, zbs, zbt, zbu, zbv, zbw, zbx, zby, zbz, zbA, zbB, zbC, zbD, zbE, zbF, zbG, zbH, zbI, zbJ, zbK, zbL, zbM, zbN, zbO, zbP, Bool.bne_false, Bool.bne_true, zbQ, zbR, zbS, zbT, zbU, zbV, zbW, zbX, zbY, zbZ, zca, zcb, zcc, zcd, zce, zcf, zcg, zch, zci, zcj, zck, zcl, zcm, zcn, zco, setAll, wipeR, setV, zcp, zcq, zcr, zcs, zct, zcu, zcv, zcw, zcx, zcy, zcz, zcA, zcB, zcC, List.any_cons, List.any_nil, List.map_cons, List.map_nil, List.length_cons, List.length_nil, List.replicate, Nat.sub_self, List.cons_append, List.nil_append, List.append_nil, List.getElem?_cons_zero, List.getElem?_cons_succ, List.set_cons_zero, List.set_cons_succ, List.set_nil, zcD, zcE, zcF, zcG, zcH, zcI, zcJ, zcK, zcL, zcM, zcN, zcO, zcP, zcQ, zcR, zcS, zcT, zcU, zcV, zcW, zcX, zcY, zcZ, zda, zdb, zdc, zdd, zde, zdf, zdg, zdh, zdi, zdj, zdk, zdl, zdm, zdn, zdo, zdp, zdq, zdr, zds, zdt, zdu, zdv, zdw, zdx, zdy, zdz, zdA, zdB, zdC, zdD, zdE, zdF, zdG]
  unfold anewR at q
  have ol := once_len R.flatten
  have on := once_nodup R.flatten
  generalize once [] R.flatten = L at ol on q
  generalize e0 : L.foldl (placeR h c) (List.replicate n []) = res at q
  refine forLoop_mp PyData.int (fun r Γ => ∃ A x, Γ = [some (.val (rowsW h c o)), some (.val (tabD (.r R))), some (.val (.int n)), some (.val (tabD (.r A))), x] ∧ A.length = n ∧ A.flatten.length + r.length ≤ 1000 ∧ r.foldl (placeR h c) A = res) (fun Γ ⟨A, x, e, _, _, hh⟩ => ?_) _ (fun a r Γ ⟨A, x, e, hA, hu, hh⟩ nx hnx => ?_) _ ⟨List.replicate n [], none, by simp, by simp, by rw [flat_replicate]; simp; omega, e0⟩
  · subst e
    simp only [zaa, zab, zac, zad, zae, zaf, zag, zah, zai, zaj, zak, zal, zam, zan, zao, zap, zaq, zar, zas, zat, zau, zav, zaw, zax, zay, zaz, zaA, zaB, zaC, zaD, zaE, zaF, zaG, zaH, zaI, zaJ, zaK, zaL, zaM, zaN, zaO, zaP, zaQ, zaR, zaS, zaT, zaU, zaV, startE, full, fullE, clean, cleanE, zaW, zaX, zaY, zaZ, zba, zbb, zbc, zbd, zbe, zbf, zbg, zbh, zbi, zbj, zbk, zbl, zbm, zbn, zbo, zbp, zbq, zbr, zbs, zbt, zbu, zbv, zbw, zbx, zby, zbz, zbA, zbB, zbC, zbD, zbE, zbF, zbG, zbH, zbI, zbJ, zbK, zbL, zbM, zbN, zbO, zbP, Bool.bne_false, Bool.bne_true, zbQ, zbR, zbS, zbT, zbU, zbV, zbW, zbX, zbY, zbZ, zca, zcb, zcc, zcd, zce, zcf, zcg, zch, zci, zcj, zck, zcl, zcm, zcn, zco, setAll, wipeR, setV, zcp, zcq, zcr, zcs, zct, zcu, zcv, zcw, zcx, zcy, zcz, zcA, zcB, zcC, List.any_cons, List.any_nil, List.map_cons, List.map_nil, List.length_cons, List.length_nil, List.replicate, Nat.sub_self, List.cons_append, List.nil_append, List.append_nil, List.getElem?_cons_zero, List.getElem?_cons_succ, List.set_cons_zero, List.set_cons_succ, List.set_nil, zcD, zcE, zcF, zcG, zcH, zcI, zcJ, zcK, zcL, zcM, zcN, zcO, zcP, zcQ, zcR, zcS, zcT, zcU, zcV, zcW, zcX, zcY, zcZ, zda, zdb, zdc, zdd, zde, zdf, zdg, zdh, zdi, zdj, zdk, zdl, zdm, zdn, zdo, zdp, zdq, zdr, zds, zdt, zdu, zdv, zdw, zdx, zdy, zdz, zdA, zdB, zdC, zdD, zdE, zdF, zdG]
    rw [← show A = res from hh] at q
    exact q
  · subst e
    simp only [List.length_cons] at hu
    simp only [b2_laid_anew_r, zaa, zab, zac, zad, zae, zaf, zag, zah, zai, zaj, zak, zal, zam, zan, zao, zap, zaq, zar, zas, zat, zau, zav, zaw, zax, zay, zaz, zaA, zaB, zaC, zaD, zaE, zaF, zaG, zaH, zaI, zaJ, zaK, zaL, zaM, zaN, zaO, zaP, zaQ, zaR, zaS, zaT, zaU, zaV, startE, full, fullE, clean, cleanE, zaW, zaX, zaY, zaZ, zba, zbb, zbc, zbd, zbe, zbf, zbg, zbh, zbi, zbj, zbk, zbl, zbm, zbn, zbo, zbp, zbq, zbr, zbs, zbt, zbu, zbv, zbw, zbx, zby, zbz, zbA, zbB, zbC, zbD, zbE, zbF, zbG, zbH, zbI, zbJ, zbK, zbL, zbM, zbN, zbO, zbP, Bool.bne_false, Bool.bne_true, zbQ, zbR, zbS, zbT, zbU, zbV, zbW, zbX, zbY, zbZ, zca, zcb, zcc, zcd, zce, zcf, zcg, zch, zci, zcj, zck, zcl, zcm, zcn, zco, setAll, wipeR, setV, zcp, zcq, zcr, zcs, zct, zcu, zcv, zcw, zcx, zcy, zcz, zcA, zcB, zcC, List.any_cons, List.any_nil, List.map_cons, List.map_nil, List.length_cons, List.length_nil, List.replicate, Nat.sub_self, List.cons_append, List.nil_append, List.append_nil, List.getElem?_cons_zero, List.getElem?_cons_succ, List.set_cons_zero, List.set_cons_succ, List.set_nil, zcD, zcE, zcF, zcG, zcH, zcI, zcJ, zcK, zcL, zcM, zcN, zcO, zcP, zcQ, zcR, zcS, zcT, zcU, zcV, zcW, zcX, zcY, zcZ, zda, zdb, zdc, zdd, zde, zdf, zdg, zdh, zdi, zdj, zdk, zdl, zdm, zdn, zdo, zdp, zdq, zdr, zds, zdt, zdu, zdv, zdw, zdx, zdy, zdz, zdA, zdB, zdC, zdD, zdE, zdF, zdG]
    have hs : SizeOk A.length := by rw [hA]; exact hn
    obtain ⟨h0, h1⟩ := home_rng (h := h) (k := a) hs
    have rl : ∀ r ∈ A, r.length ≤ A.flatten.length := fun r hr => (List.sublist_flatten_of_mem hr).length_le
    refine placed_rows hs (fun r hr => by have := rl r hr; omega) ?_
    refine hnx _ ⟨_, _, rfl, by unfold placeR; rw [rput_len]; exact hA, ?_, hh⟩
    have := flat_rput (R := A) (r := if c = "front" then a :: rat A (homeOf h a A.length) else rat A (homeOf h a A.length) ++ [a]) h0 h1
    unfold placeR
    have l : (if c = "front" then a :: rat A (homeOf h a A.length) else rat A (homeOf h a A.length) ++ [a]).length = (rat A (homeOf h a A.length)).length + 1 := by split <;> simp
    omega
end
end G6

namespace G6
open PySem PySem.Spec L2 DL TM
section
variable {Q : D → Prop} {E : Str → Prop}
theorem pulled_ok {h st c g gr : String} {T : List Int} {s : Int} (hn : SizeOk T.length) (hu : used T < T.length) (h0 : 0 ≤ s) (h1 : s < T.length) (hs : ga T s ≠ -1) (q : Q (tabD (.s (pull h st T.length T.length (put T s (-1)) s s)))) : m_pulled [slotsW h st c g gr, .tuple (intsD T), .int s] Q E := by
  obtain ⟨hn0, hn1⟩ := small hn
  simp only [m_pulled_r, b1_pulled_r, zaa, zab, zac, zad, zae, zaf, zag, zah, zai, zaj, zak, zal, zam, zan, zao, zap, zaq, zar, zas, zat, zau, zav, zaw, zax, zay, zaz, zaA, zaB, zaC, zaD, zaE, zaF, zaG, zaH, zaI, zaJ, zaK, zaL, zaM, zaN, zaO, zaP, zaQ, zaR, zaS, zaT, zaU, zaV, startE, full, fullE, clean, cleanE, zaW, zaX, zaY, zaZ, zba, zbb, zbc, zbd, zbe, zbf, zbg, zbh, zbi, zbj, zbk, zbl, zbm, zbn, zbo, zbp, zbq, zbr, zbs, zbt, zbu, zbv, zbw, zbx, zby, zbz, zbA, zbB, zbC, zbD, zbE, zbF, zbG, zbH, zbI, zbJ, zbK, zbL, zbM, zbN, zbO, zbP, Bool.bne_false, Bool.bne_true, zbQ, zbR, zbS, zbT, zbU, zbV, zbW, zbX, zbY, zbZ, zca, zcb, zcc, zcd, zce, zcf, zcg, zch, zci, zcj, zck, zcl, zcm, zcn, zco, setAll, wipeR, setV, zcp, zcq, zcr, zcs, zct, zcu, zcv, zcw, zcx, zcy, zcz, zcA, zcB, zcC, List.any_cons, List.any_nil, List.map_cons, List.map_nil, List.length_cons, List.length_nil, List.replicate, Nat.sub_self, List.cons_append, List.nil_append, List.append_nil, List.getElem?_cons_zero, List.getElem?_cons_succ, List.set_cons_zero, List.set_cons_succ, List.set_nil, zcD, zcE, zcF, zcG, zcH, zcI, zcJ, zcK, zcL, zcM, zcN, zcO, zcP, zcQ, zcR, zcS, zcT, zcU, zcV, zcW, zcX, zcY, zcZ, zda, zdb, zdc, zdd, zde, zdf, zdg, zdh, zdi, zdj, zdk, zdl, zdm, zdn, zdo, zdp, zdq, zdr, zds, zdt, zdu, zdv, zdw, zdx, zdy, zdz, zdA, zdB, zdC, zdD, zdE, zdF, zdG, intsD_len]
  refine tset h0 h1 (by omega) ?_
  generalize e0 : pull h st T.length T.length (put T s (-1)) s s = res at q
  have i0 := PuI.start (st := st) hn hu h0 h1 hs
  revert i0 e0
  generalize (T.length : Int) = n at hn hn0 hn1
  generalize put T s (-1) = T0
  generalize T.length = f
  intro e0 i0
  refine while_ind (fun f Γ => ∃ T s a x, Γ = [some (.val (slotsW h st c g gr)), some (.val (.tuple (intsD T))), some (.val (.int s)), some (.val (.int n)), some (.val (.int a)), x] ∧ PuI st n f T s a ∧ pull h st n f T s a = res) ?_ f _ ⟨T0, s, s, _, rfl, i0, e0⟩
  rintro f Γ ⟨T, s, a, x, rfl, i, e⟩ nx hnx
  obtain ⟨b0, b1⟩ := nxt_rng (st := st) (s := a) hn0
  have l1 : nxt st a n < T.length := by have := i.len; omega
  have s1 : s < T.length := by have := i.len; have := i.s1; omega
  have hT : T.length ≤ 1000 := by have := i.len; omega
  obtain ⟨f', rfl⟩ := i.free
  rw [pull_turn] at e
  simp only [zaa, zab, zac, zad, zae, zaf, zag, zah, zai, zaj, zak, zal, zam, zan, zao, zap, zaq, zar, zas, zat, zau, zav, zaw, zax, zay, zaz, zaA, zaB, zaC, zaD, zaE, zaF, zaG, zaH, zaI, zaJ, zaK, zaL, zaM, zaN, zaO, zaP, zaQ, zaR, zaS, zaT, zaU, zaV, startE, full, fullE, clean, cleanE, zaW, zaX, zaY, zaZ, zba, zbb, zbc, zbd, zbe, zbf, zbg, zbh, zbi, zbj, zbk, zbl, zbm, zbn, zbo, zbp, zbq, zbr, zbs, zbt, zbu, zbv, zbw, zbx, zby, zbz, zbA, zbB, zbC, zbD, zbE, zbF, zbG, zbH, zbI, zbJ, zbK, zbL, zbM, zbN, zbO, zbP, Bool.bne_false, Bool.bne_true, zbQ, zbR, zbS, zbT, zbU, zbV, zbW, zbX, zbY, zbZ, zca, zcb, zcc, zcd, zce, zcf, zcg, zch, zci, zcj, zck, zcl, zcm, zcn, zco, setAll, wipeR, setV, zcp, zcq, zcr, zcs, zct, zcu, zcv, zcw, zcx, zcy, zcz, zcA, zcB, zcC, List.any_cons, List.any_nil, List.map_cons, List.map_nil, List.length_cons, List.length_nil, List.replicate, Nat.sub_self, List.cons_append, List.nil_append, List.append_nil, List.getElem?_cons_zero, List.getElem?_cons_succ, List.set_cons_zero, List.set_cons_succ, List.set_nil, zcD, zcE, zcF, zcG, zcH, zcI, zcJ, zcK, zcL, zcM, zcN, zcO, zcP, zcQ, zcR, zcS, zcT, zcU, zcV, zcW, zcX, zcY, zcZ, zda, zdb, zdc, zdd, zde, zdf, zdg, zdh, zdi, zdj, zdk, zdl, zdm, zdn, zdo, zdp, zdq, zdr, zds, zdt, zdu, zdv, zdw, zdx, zdy, zdz, zdA, zdB, zdC, zdD, zdE, zdF, zdG, reduceIte, Bool.false_eq_true, decide_true, decide_false, Bool.not_true, Bool.not_false, true_and, and_true, decide_not, Bool.true_bne, Bool.false_bne, Bool.not_not]
  simp only [b6_pulled_r, b2_pulled_r, slotsW, zaa, zab, zac, zad, zae, zaf, zag, zah, zai, zaj, zak, zal, zam, zan, zao, zap, zaq, zar, zas, zat, zau, zav, zaw, zax, zay, zaz, zaA, zaB, zaC, zaD, zaE, zaF, zaG, zaH, zaI, zaJ, zaK, zaL, zaM, zaN, zaO, zaP, zaQ, zaR, zaS, zaT, zaU, zaV, startE, full, fullE, clean, cleanE, zaW, zaX, zaY, zaZ, zba, zbb, zbc, zbd, zbe, zbf, zbg, zbh, zbi, zbj, zbk, zbl, zbm, zbn, zbo, zbp, zbq, zbr, zbs, zbt, zbu, zbv, zbw, zbx, zby, zbz, zbA, zbB, zbC, zbD, zbE, zbF, zbG, zbH, zbI, zbJ, zbK, zbL, zbM, zbN, zbO, zbP, Bool.bne_false, Bool.bne_true, zbQ, zbR, zbS, zbT, zbU, zbV, zbW, zbX, zbY, zbZ, zca, zcb, zcc, zcd, zce, zcf, zcg, zch, zci, zcj, zck, zcl, zcm, zcn, zco, setAll, wipeR, setV, zcp, zcq, zcr, zcs, zct, zcu, zcv, zcw, zcx, zcy, zcz, zcA, zcB, zcC, List.any_cons, List.any_nil, List.map_cons, List.map_nil, List.length_cons, List.length_nil, List.replicate, Nat.sub_self, List.cons_append, List.nil_append, List.append_nil, List.getElem?_cons_zero, List.getElem?_cons_succ, List.set_cons_zero, List.set_cons_succ, List.set_nil, zcD, zcE, zcF, zcG, zcH, zcI, zcJ, zcK, zcL, zcM, zcN, zcO, zcP, zcQ, zcR, zcS, zcT, zcU, zcV, zcW, zcX, zcY, zcZ, zda, zdb, zdc, zdd, zde, zdf, zdg, zdh, zdi, zdj, zdk, zdl, zdm, zdn, zdo, zdp, zdq, zdr, zds, zdt, zdu, zdv, zdw, zdx, zdy, zdz, zdA, zdB, zdC, zdD, zdE, zdF, zdG, reduceIte, Bool.false_eq_true, decide_true, decide_false, Bool.not_true, Bool.not_false, true_and, and_true, decide_not, Bool.true_bne, Bool.false_bne, Bool.not_not]
  have tl : ∀ a' : Int, a' = nxt st a n → b3_pulled [some (.val (slotsW h st c g gr)), some (.val (.tuple (intsD T))), some (.val (.int s)), some (.val (.int n)), some (.val (.int a')), x] { nx := fun Γ' => (sSeq (sSet 5 (eOp idxD (eVar 1) (eVar 4))) b5_pulled) Γ' { nx := nx, rt := Q, bk := fun _ => Q .none, ct := nx }, rt := Q, bk := fun _ => Q .none, ct := nx } := by
    rintro a' rfl
    simp only [b3_pulled_r, zaa, zab, zac, zad, zae, zaf, zag, zah, zai, zaj, zak, zal, zam, zan, zao, zap, zaq, zar, zas, zat, zau, zav, zaw, zax, zay, zaz, zaA, zaB, zaC, zaD, zaE, zaF, zaG, zaH, zaI, zaJ, zaK, zaL, zaM, zaN, zaO, zaP, zaQ, zaR, zaS, zaT, zaU, zaV, startE, full, fullE, clean, cleanE, zaW, zaX, zaY, zaZ, zba, zbb, zbc, zbd, zbe, zbf, zbg, zbh, zbi, zbj, zbk, zbl, zbm, zbn, zbo, zbp, zbq, zbr, zbs, zbt, zbu, zbv, zbw, zbx, zby, zbz, zbA, zbB, zbC, zbD, zbE, zbF, zbG, zbH, zbI, zbJ, zbK, zbL, zbM, zbN, zbO, zbP, Bool.bne_false, Bool.bne_true, zbQ, zbR, zbS, zbT, zbU, zbV, zbW, zbX, zbY, zbZ, zca, zcb, zcc, zcd, zce, zcf, zcg, zch, zci, zcj, zck, zcl, zcm, zcn, zco, setAll, wipeR, setV, zcp, zcq, zcr, zcs, zct, zcu, zcv, zcw, zcx, zcy, zcz, zcA, zcB, zcC, List.any_cons, List.any_nil, List.map_cons, List.map_nil, List.length_cons, List.length_nil, List.replicate, Nat.sub_self, List.cons_append, List.nil_append, List.append_nil, List.getElem?_cons_zero, List.getElem?_cons_succ, List.set_cons_zero, List.set_cons_succ, List.set_nil, zcD, zcE, zcF, zcG, zcH, zcI, zcJ, zcK, zcL, zcM, zcN, zcO, zcP, zcQ, zcR, zcS, zcT, zcU, zcV, zcW, zcX, zcY, zcZ, zda, zdb, zdc, zdd, zde, zdf, zdg, zdh, zdi, zdj, zdk, zdl, zdm, zdn, zdo, zdp, zdq, zdr, zds, zdt, zdu, zdv, zdw, zdx, zdy, zdz, zdA, zdB, zdC, zdD, zdE, zdF, zdG, tget b0 l1]
    by_cases hg : ga T (nxt st a n) = -1
    · rw [if_pos hg] at e
      simp only [decide_eq_true hg, reduceIte, Bool.false_eq_true, decide_true, decide_false, Bool.not_true, Bool.not_false, true_and, and_true, decide_not, Bool.true_bne, Bool.false_bne, Bool.not_not, zaa, zab, zac, zad, zae, zaf, zag, zah, zai, zaj, zak, zal, zam, zan, zao, zap, zaq, zar, zas, zat, zau, zav, zaw, zax, zay, zaz, zaA, zaB, zaC, zaD, zaE, zaF, zaG, zaH, zaI, zaJ, zaK, zaL, zaM, zaN, zaO, zaP, zaQ, zaR, zaS, zaT, zaU, zaV, startE, full, fullE, clean, cleanE, zaW, zaX, zaY, zaZ, zba, zbb, zbc, zbd, zbe, zbf, zbg, zbh, zbi, zbj, zbk, zbl, zbm, zbn, zbo, zbp, zbq, zbr, zbs, zbt, zbu, zbv, zbw, zbx, zby, zbz, zbA, zbB, zbC, zbD, zbE, zbF, zbG, zbH, zbI, zbJ, zbK, zbL, zbM, zbN, zbO, zbP, Bool.bne_false, Bool.bne_true, zbQ, zbR, zbS, zbT, zbU, zbV, zbW, zbX, zbY, zbZ, zca, zcb, zcc, zcd, zce, zcf, zcg, zch, zci, zcj, zck, zcl, zcm, zcn, zco, setAll, wipeR, setV, zcp, zcq, zcr, zcs, zct, zcu, zcv, zcw, zcx, zcy, zcz, zcA, zcB, zcC, List.any_cons, List.any_nil, List.map_cons, List.map_nil, List.length_cons, List.length_nil, List.replicate, Nat.sub_self, List.cons_append, List.nil_append, List.append_nil, List.getElem?_cons_zero, List.getElem?_cons_succ, List.set_cons_zero, List.set_cons_succ, List.set_nil, zcD, zcE, zcF, zcG, zcH, zcI, zcJ, zcK, zcL, zcM, zcN, zcO, zcP, zcQ, zcR, zcS, zcT, zcU, zcV, zcW, zcX, zcY, zcZ, zda, zdb, zdc, zdd, zde, zdf, zdg, zdh, zdi, zdj, zdk, zdl, zdm, zdn, zdo, zdp, zdq, zdr, zds, zdt, zdu, zdv, zdw, zdx, zdy, zdz, zdA, zdB, zdC, zdD, zdE, zdF, zdG]
      rw [← e] at q
      exact q
    · rw [if_neg hg] at e
      obtain ⟨f2, e2, i1, i2⟩ := i.step hn0 hg
      have : f2 = f' := by omega
      subst this
      simp only [decide_eq_false hg, reduceIte, Bool.false_eq_true, decide_true, decide_false, Bool.not_true, Bool.not_false, true_and, and_true, decide_not, Bool.true_bne, Bool.false_bne, Bool.not_not, zaa, zab, zac, zad, zae, zaf, zag, zah, zai, zaj, zak, zal, zam, zan, zao, zap, zaq, zar, zas, zat, zau, zav, zaw, zax, zay, zaz, zaA, zaB, zaC, zaD, zaE, zaF, zaG, zaH, zaI, zaJ, zaK, zaL, zaM, zaN, zaO, zaP, zaQ, zaR, zaS, zaT, zaU, zaV, startE, full, fullE, clean, cleanE, zaW, zaX, zaY, zaZ, zba, zbb, zbc, zbd, zbe, zbf, zbg, zbh, zbi, zbj, zbk, zbl, zbm, zbn, zbo, zbp, zbq, zbr, zbs, zbt, zbu, zbv, zbw, zbx, zby, zbz, zbA, zbB, zbC, zbD, zbE, zbF, zbG, zbH, zbI, zbJ, zbK, zbL, zbM, zbN, zbO, zbP, Bool.bne_false, Bool.bne_true, zbQ, zbR, zbS, zbT, zbU, zbV, zbW, zbX, zbY, zbZ, zca, zcb, zcc, zcd, zce, zcf, zcg, zch, zci, zcj, zck, zcl, zcm, zcn, zco, setAll, wipeR, setV, zcp, zcq, zcr, zcs, zct, zcu, zcv, zcw, zcx, zcy, zcz, zcA, zcB, zcC, List.any_cons, List.any_nil, List.map_cons, List.map_nil, List.length_cons, List.length_nil, List.replicate, Nat.sub_self, List.cons_append, List.nil_append, List.append_nil, List.getElem?_cons_zero, List.getElem?_cons_succ, List.set_cons_zero, List.set_cons_succ, List.set_nil, zcD, zcE, zcF, zcG, zcH, zcI, zcJ, zcK, zcL, zcM, zcN, zcO, zcP, zcQ, zcR, zcS, zcT, zcU, zcV, zcW, zcX, zcY, zcZ, zda, zdb, zdc, zdd, zde, zdf, zdg, zdh, zdi, zdj, zdk, zdl, zdm, zdn, zdo, zdp, zdq, zdr, zds, zdt, zdu, zdv, zdw, zdx, zdy, zdz, zdA, zdB, zdC, zdD, zdE, zdF, zdG, tget b0 l1]
      simp only [b5_pulled_r, zaa, zab, zac, zad, zae, zaf, zag, zah, zai, zaj, zak, zal, zam, zan, zao, zap, zaq, zar, zas, zat, zau, zav, zaw, zax, zay, zaz, zaA, zaB, zaC, zaD, zaE, zaF, zaG, zaH, zaI, zaJ, zaK, zaL, zaM, zaN, zaO, zaP, zaQ, zaR, zaS, zaT, zaU, zaV, startE, full, fullE, clean, cleanE, zaW, zaX, zaY, zaZ, zba, zbb, zbc, zbd, zbe, zbf, zbg, zbh, zbi, zbj, zbk, zbl, zbm, zbn, zbo, zbp, zbq, zbr, zbs, zbt, zbu, zbv, zbw, zbx, zby, zbz, zbA, zbB, zbC, zbD, zbE, zbF, zbG, zbH, zbI, zbJ, zbK, zbL, zbM, zbN, zbO, zbP, Bool.bne_false, Bool.bne_true, zbQ, zbR, zbS, zbT, zbU, zbV, zbW, zbX, zbY, zbZ, zca, zcb, zcc, zcd, zce, zcf, zcg, zch, zci, zcj, zck, zcl, zcm, zcn, zco, setAll, wipeR, setV, zcp, zcq, zcr, zcs, zct, zcu, zcv, zcw, zcx, zcy, zcz, zcA, zcB, zcC, List.any_cons, List.any_nil, List.map_cons, List.map_nil, List.length_cons, List.length_nil, List.replicate, Nat.sub_self, List.cons_append, List.nil_append, List.append_nil, List.getElem?_cons_zero, List.getElem?_cons_succ, List.set_cons_zero, List.set_cons_succ, List.set_nil, zcD, zcE, zcF, zcG, zcH, zcI, zcJ, zcK, zcL, zcM, zcN, zcO, zcP, zcQ, zcR, zcS, zcT, zcU, zcV, zcW, zcX, zcY, zcZ, zda, zdb, zdc, zdd, zde, zdf, zdg, zdh, zdi, zdj, zdk, zdl, zdm, zdn, zdo, zdp, zdq, zdr, zds, zdt, zdu, zdv, zdw, zdx, zdy, zdz, zdA, zdB, zdC, zdD, zdE, zdF, zdG]
      refine distance_ok hn (distance_ok hn ?_)
      simp only [zaa, zab, zac, zad, zae, zaf, zag, zah, zai, zaj, zak, zal, zam, zan, zao, zap, zaq, zar, zas, zat, zau, zav, zaw, zax, zay, zaz, zaA, zaB, zaC, zaD, zaE, zaF, zaG, zaH, zaI, zaJ, zaK, zaL, zaM, zaN, zaO, zaP, zaQ, zaR, zaS, zaT, zaU, zaV, startE, full, fullE, clean, cleanE, zaW, zaX, zaY, zaZ, zba, zbb, zbc, zbd, zbe, zbf, zbg, zbh, zbi, zbj, zbk, zbl, zbm, zbn, zbo, zbp, zbq, zbr, zbs, zbt, zbu, zbv, zbw, zbx, zby, zbz, zbA, zbB, zbC, zbD, zbE, zbF, zbG, zbH, zbI, zbJ, zbK, zbL, zbM, zbN, zbO, zbP, Bool.bne_false, Bool.bne_true, zbQ, zbR, zbS, zbT, zbU, zbV, zbW, zbX, zbY, zbZ, zca, zcb, zcc, zcd, zce, zcf, zcg, zch, zci, zcj, zck, zcl, zcm, zcn, zco, setAll, wipeR, setV, zcp, zcq, zcr, zcs, zct, zcu, zcv, zcw, zcx, zcy, zcz, zcA, zcB, zcC, List.any_cons, List.any_nil, List.map_cons, List.map_nil, List.length_cons, List.length_nil, List.replicate, Nat.sub_self, List.cons_append, List.nil_append, List.append_nil, List.getElem?_cons_zero, List.getElem?_cons_succ, List.set_cons_zero, List.set_cons_succ, List.set_nil, zcD, zcE, zcF, zcG, zcH, zcI, zcJ, zcK, zcL, zcM, zcN, zcO, zcP, zcQ, zcR, zcS, zcT, zcU, zcV, zcW, zcX, zcY, zcZ, zda, zdb, zdc, zdd, zde, zdf, zdg, zdh, zdi, zdj, zdk, zdl, zdm, zdn, zdo, zdp, zdq, zdr, zds, zdt, zdu, zdv, zdw, zdx, zdy, zdz, zdA, zdB, zdC, zdD, zdE, zdF, zdG]
      by_cases e3 : dist h st (ga T (nxt st a n)) s n ≤ dist h st (ga T (nxt st a n)) (nxt st a n) n
      · rw [if_pos e3] at e
        simp only [decide_eq_true e3, reduceIte, Bool.false_eq_true, decide_true, decide_false, Bool.not_true, Bool.not_false, true_and, and_true, decide_not, Bool.true_bne, Bool.false_bne, Bool.not_not, b4_pulled_r, zaa, zab, zac, zad, zae, zaf, zag, zah, zai, zaj, zak, zal, zam, zan, zao, zap, zaq, zar, zas, zat, zau, zav, zaw, zax, zay, zaz, zaA, zaB, zaC, zaD, zaE, zaF, zaG, zaH, zaI, zaJ, zaK, zaL, zaM, zaN, zaO, zaP, zaQ, zaR, zaS, zaT, zaU, zaV, startE, full, fullE, clean, cleanE, zaW, zaX, zaY, zaZ, zba, zbb, zbc, zbd, zbe, zbf, zbg, zbh, zbi, zbj, zbk, zbl, zbm, zbn, zbo, zbp, zbq, zbr, zbs, zbt, zbu, zbv, zbw, zbx, zby, zbz, zbA, zbB, zbC, zbD, zbE, zbF, zbG, zbH, zbI, zbJ, zbK, zbL, zbM, zbN, zbO, zbP, Bool.bne_false, Bool.bne_true, zbQ, zbR, zbS, zbT, zbU, zbV, zbW, zbX, zbY, zbZ, zca, zcb, zcc, zcd, zce, zcf, zcg, zch, zci, zcj, zck, zcl, zcm, zcn, zco, setAll, wipeR, setV, zcp, zcq, zcr, zcs, zct, zcu, zcv, zcw, zcx, zcy, zcz, zcA, zcB, zcC, List.any_cons, List.any_nil, List.map_cons, List.map_nil, List.length_cons, List.length_nil, List.replicate, Nat.sub_self, List.cons_append, List.nil_append, List.append_nil, List.getElem?_cons_zero, List.getElem?_cons_succ, List.set_cons_zero, List.set_cons_succ, List.set_nil, zcD, zcE, zcF, zcG, zcH, zcI, zcJ, zcK, zcL, zcM, zcN, zcO, zcP, zcQ, zcR, zcS, zcT, zcU, zcV, zcW, zcX, zcY, zcZ, zda, zdb, zdc, zdd, zde, zdf, zdg, zdh, zdi, zdj, zdk, zdl, zdm, zdn, zdo, zdp, zdq, zdr, zds, zdt, zdu, zdv, zdw, zdx, zdy, zdz, zdA, zdB, zdC, zdD, zdE, zdF, zdG]
        refine tset i.s0 s1 hT ?_
        rw [tabD_s]
        refine tset b0 (by rw [put_len]; exact l1) (by rw [put_len]; exact hT) ?_
        exact hnx f2 _ rfl ⟨_, _, _, _, rfl, i1, e⟩
      · rw [if_neg e3] at e
        simp only [decide_eq_false e3, reduceIte, Bool.false_eq_true, decide_true, decide_false, Bool.not_true, Bool.not_false, true_and, and_true, decide_not, Bool.true_bne, Bool.false_bne, Bool.not_not, zaa, zab, zac, zad, zae, zaf, zag, zah, zai, zaj, zak, zal, zam, zan, zao, zap, zaq, zar, zas, zat, zau, zav, zaw, zax, zay, zaz, zaA, zaB, zaC, zaD, zaE, zaF, zaG, zaH, zaI, zaJ, zaK, zaL, zaM, zaN, zaO, zaP, zaQ, zaR, zaS, zaT, zaU, zaV, startE, full, fullE, clean, cleanE, zaW, zaX, zaY, zaZ, zba, zbb, zbc, zbd, zbe, zbf, zbg, zbh, zbi, zbj, zbk, zbl, zbm, zbn, zbo, zbp, zbq, zbr, zbs, zbt, zbu, zbv, zbw, zbx, zby, zbz, zbA, zbB, zbC, zbD, zbE, zbF, zbG, zbH, zbI, zbJ, zbK, zbL, zbM, zbN, zbO, zbP, Bool.bne_false, Bool.bne_true, zbQ, zbR, zbS, zbT, zbU, zbV, zbW, zbX, zbY, zbZ, zca, zcb, zcc, zcd, zce, zcf, zcg, zch, zci, zcj, zck, zcl, zcm, zcn, zco, setAll, wipeR, setV, zcp, zcq, zcr, zcs, zct, zcu, zcv, zcw, zcx, zcy, zcz, zcA, zcB, zcC, List.any_cons, List.any_nil, List.map_cons, List.map_nil, List.length_cons, List.length_nil, List.replicate, Nat.sub_self, List.cons_append, List.nil_append, List.append_nil, List.getElem?_cons_zero, List.getElem?_cons_succ, List.set_cons_zero, List.set_cons_succ, List.set_nil, zcD, zcE, zcF, zcG, zcH, zcI, zcJ, zcK, zcL, zcM, zcN, zcO, zcP, zcQ, zcR, zcS, zcT, zcU, zcV, zcW, zcX, zcY, zcZ, zda, zdb, zdc, zdd, zde, zdf, zdg, zdh, zdi, zdj, zdk, zdl, zdm, zdn, zdo, zdp, zdq, zdr, zds, zdt, zdu, zdv, zdw, zdx, zdy, zdz, zdA, zdB, zdC, zdD, zdE, zdF, zdG]
        exact hnx f2 _ rfl ⟨_, _, _, _, rfl, i2, e⟩
  by_cases hu : st = "up"
  · have en : nxt st a n = (a + 1) % n := by unfold nxt; rw [if_pos hu]
    simp only [decide_eq_true hu, reduceIte, Bool.false_eq_true, decide_true, decide_false, Bool.not_true, Bool.not_false, true_and, and_true, decide_not, Bool.true_bne, Bool.false_bne, Bool.not_not, zaa, zab, zac, zad, zae, zaf, zag, zah, zai, zaj, zak, zal, zam, zan, zao, zap, zaq, zar, zas, zat, zau, zav, zaw, zax, zay, zaz, zaA, zaB, zaC, zaD, zaE, zaF, zaG, zaH, zaI, zaJ, zaK, zaL, zaM, zaN, zaO, zaP, zaQ, zaR, zaS, zaT, zaU, zaV, startE, full, fullE, clean, cleanE, zaW, zaX, zaY, zaZ, zba, zbb, zbc, zbd, zbe, zbf, zbg, zbh, zbi, zbj, zbk, zbl, zbm, zbn, zbo, zbp, zbq, zbr, zbs, zbt, zbu, zbv, zbw, zbx, zby, zbz, zbA, zbB, zbC, zbD, zbE, zbF, zbG, zbH, zbI, zbJ, zbK, zbL, zbM, zbN, zbO, zbP, Bool.bne_false, Bool.bne_true, zbQ, zbR, zbS, zbT, zbU, zbV, zbW, zbX, zbY, zbZ, zca, zcb, zcc, zcd, zce, zcf, zcg, zch, zci, zcj, zck, zcl, zcm, zcn, zco, setAll, wipeR, setV, zcp, zcq, zcr, zcs, zct, zcu, zcv, zcw, zcx, zcy, zcz, zcA, zcB, zcC, List.any_cons, List.any_nil, List.map_cons, List.map_nil, List.length_cons, List.length_nil, List.replicate, Nat.sub_self, List.cons_append, List.nil_append, List.append_nil, List.getElem?_cons_zero, List.getElem?_cons_succ, List.set_cons_zero, List.set_cons_succ, List.set_nil, zcD, zcE, zcF, zcG, zcH, zcI, zcJ, zcK, zcL, zcM, zcN, zcO, zcP, zcQ, zcR, zcS, zcT, zcU, zcV, zcW, zcX, zcY, zcZ, zda, zdb, zdc, zdd, zde, zdf, zdg, zdh, zdi, zdj, zdk, zdl, zdm, zdn, zdo, zdp, zdq, zdr, zds, zdt, zdu, zdv, zdw, zdx, zdy, zdz, zdA, zdB, zdC, zdD, zdE, zdF, zdG]
    exact ⟨hn0, tl _ en.symm⟩
  · have en : nxt st a n = (a - 1) % n := by unfold nxt; rw [if_neg hu]
    simp only [decide_eq_false hu, reduceIte, Bool.false_eq_true, decide_true, decide_false, Bool.not_true, Bool.not_false, true_and, and_true, decide_not, Bool.true_bne, Bool.false_bne, Bool.not_not, zaa, zab, zac, zad, zae, zaf, zag, zah, zai, zaj, zak, zal, zam, zan, zao, zap, zaq, zar, zas, zat, zau, zav, zaw, zax, zay, zaz, zaA, zaB, zaC, zaD, zaE, zaF, zaG, zaH, zaI, zaJ, zaK, zaL, zaM, zaN, zaO, zaP, zaQ, zaR, zaS, zaT, zaU, zaV, startE, full, fullE, clean, cleanE, zaW, zaX, zaY, zaZ, zba, zbb, zbc, zbd, zbe, zbf, zbg, zbh, zbi, zbj, zbk, zbl, zbm, zbn, zbo, zbp, zbq, zbr, zbs, zbt, zbu, zbv, zbw, zbx, zby, zbz, zbA, zbB, zbC, zbD, zbE, zbF, zbG, zbH, zbI, zbJ, zbK, zbL, zbM, zbN, zbO, zbP, Bool.bne_false, Bool.bne_true, zbQ, zbR, zbS, zbT, zbU, zbV, zbW, zbX, zbY, zbZ, zca, zcb, zcc, zcd, zce, zcf, zcg, zch, zci, zcj, zck, zcl, zcm, zcn, zco, setAll, wipeR, setV, zcp, zcq, zcr, zcs, zct, zcu, zcv, zcw, zcx, zcy, zcz, zcA, zcB, zcC, List.any_cons, List.any_nil, List.map_cons, List.map_nil, List.length_cons, List.length_nil, List.replicate, Nat.sub_self, List.cons_append, List.nil_append, List.append_nil, List.getElem?_cons_zero, List.getElem?_cons_succ, List.set_cons_zero, List.set_cons_succ, List.set_nil, zcD, zcE, zcF, zcG, zcH, zcI, zcJ, zcK, zcL, zcM, zcN, zcO, zcP, zcQ, zcR, zcS, zcT, zcU, zcV, zcW, zcX, zcY, zcZ, zda, zdb, zdc, zdd, zde, zdf, zdg, zdh, zdi, zdj, zdk, zdl, zdm, zdn, zdo, zdp, zdq, zdr, zds, zdt, zdu, zdv, zdw, zdx, zdy, zdz, zdA, zdB, zdC, zdD, zdE, zdF, zdG]
    exact ⟨hn0, tl _ en.symm⟩
theorem removed_slots {h st c g gr : String} {ks T : List Int} {s k : Int} (o : OkS gr ks T) (hg : GrowOk gr) (h0 : 0 ≤ s) (h1 : s < T.length) (hs : ga T s ≠ -1) (q : Q (tabD (.s (removedS h st c g T s)))) : m_removed [slotsW h st c g gr, .tuple (intsD T), .int s, .int k] Q E := by
  obtain ⟨hn0, hn1⟩ := small o.size
  have hl := grow_lt hg o.size
  have hu := o.used
  have hT : T.length ≤ 1000 := by omega
  unfold removedS at q
  simp only [m_removed_r, b2_removed_r, slotsW, zaa, zab, zac, zad, zae, zaf, zag, zah, zai, zaj, zak, zal, zam, zan, zao, zap, zaq, zar, zas, zat, zau, zav, zaw, zax, zay, zaz, zaA, zaB, zaC, zaD, zaE, zaF, zaG, zaH, zaI, zaJ, zaK, zaL, zaM, zaN, zaO, zaP, zaQ, zaR, zaS, zaT, zaU, zaV, startE, full, fullE, clean, cleanE, zaW, zaX, zaY, zaZ, zba, zbb, zbc, zbd, zbe, zbf, zbg, zbh, zbi, zbj, zbk, zbl, zbm, zbn, zbo, zbp, zbq, zbr, zbs, zbt, zbu, zbv, zbw, zbx, zby, zbz, zbA, zbB, zbC, zbD, zbE, zbF, zbG, zbH, zbI, zbJ, zbK, zbL, zbM, zbN, zbO, zbP, Bool.bne_false, Bool.bne_true, zbQ, zbR, zbS, zbT, zbU, zbV, zbW, zbX, zbY, zbZ, zca, zcb, zcc, zcd, zce, zcf, zcg, zch, zci, zcj, zck, zcl, zcm, zcn, zco, setAll, wipeR, setV, zcp, zcq, zcr, zcs, zct, zcu, zcv, zcw, zcx, zcy, zcz, zcA, zcB, zcC, List.any_cons, List.any_nil, List.map_cons, List.map_nil, List.length_cons, List.length_nil, List.replicate, Nat.sub_self, List.cons_append, List.nil_append, List.append_nil, List.getElem?_cons_zero, List.getElem?_cons_succ, List.set_cons_zero, List.set_cons_succ, List.set_nil, zcD, zcE, zcF, zcG, zcH, zcI, zcJ, zcK, zcL, zcM, zcN, zcO, zcP, zcQ, zcR, zcS, zcT, zcU, zcV, zcW, zcX, zcY, zcZ, zda, zdb, zdc, zdd, zde, zdf, zdg, zdh, zdi, zdj, zdk, zdl, zdm, zdn, zdo, zdp, zdq, zdr, zds, zdt, zdu, zdv, zdw, zdx, zdy, zdz, zdA, zdB, zdC, zdD, zdE, zdF, zdG, reduceIte, Bool.false_eq_true, decide_true, decide_false, Bool.not_true, Bool.not_false, true_and, and_true, decide_not, Bool.true_bne, Bool.false_bne, Bool.not_not]
  simp [zaa, zab, zac, zad, zae, zaf, zag, zah, zai, zaj, zak, zal, zam, zan, zao, zap, zaq, zar, zas, zat, zau, zav, zaw, zax, zay, zaz, zaA, zaB, zaC, zaD, zaE, zaF, zaG, zaH, zaI, zaJ, zaK, zaL, zaM, zaN, zaO, zaP, zaQ, zaR, zaS, zaT, zaU, zaV, startE, full, fullE, clean, cleanE, zaW, zaX, zaY, zaZ, zba, zbb, zbc, zbd, zbe, zbf, zbg, zbh, zbi, zbj, zbk, zbl, zbm, zbn, zbo, zbp, zbq, zbr, zbs, zbt, zbu, zbv, zbw, zbx, zby, zbz, zbA, zbB, zbC, zbD, zbE, zbF, zbG, zbH, zbI, zbJ, zbK, zbL, zbM, zbN, zbO, zbP, Bool.bne_false, Bool.bne_true, zbQ, zbR, zbS, zbT, zbU, zbV, zbW, zbX, zbY, zbZ, zca, zcb, zcc, zcd, zce, zcf, zcg, zch, zci, zcj, zck, zcl, zcm, zcn, zco, setAll, wipeR, setV, zcp, zcq, zcr, zcs, zct, zcu, zcv, zcw, zcx, zcy, zcz, zcA, zcB, zcC, List.any_cons, List.any_nil, List.map_cons, List.map_nil, List.length_cons, List.length_nil, List.replicate, Nat.sub_self, List.cons_append, List.nil_append, List.append_nil, List.getElem?_cons_zero, List.getElem?_cons_succ, List.set_cons_zero, List.set_cons_succ, List.set_nil, zcD, zcE, zcF, zcG, zcH, zcI, zcJ, zcK, zcL, zcM, zcN, zcO, zcP, zcQ, zcR, zcS, zcT, zcU, zcV, zcW, zcX, zcY, zcZ, zda, zdb, zdc, zdd, zde, zdf, zdg, zdh, zdi, zdj, zdk, zdl, zdm, zdn, zdo, zdp, zdq, zdr, zds, zdt, zdu, zdv, zdw, zdx, zdy, zdz, zdA, zdB, zdC, zdD, zdE, zdF, zdG]
  simp only [b4_removed_r, zaa, zab, zac, zad, zae, zaf, zag, zah, zai, zaj, zak, zal, zam, zan, zao, zap, zaq, zar, zas, zat, zau, zav, zaw, zax, zay, zaz, zaA, zaB, zaC, zaD, zaE, zaF, zaG, zaH, zaI, zaJ, zaK, zaL, zaM, zaN, zaO, zaP, zaQ, zaR, zaS, zaT, zaU, zaV, startE, full, fullE, clean, cleanE, zaW, zaX, zaY, zaZ, zba, zbb, zbc, zbd, zbe, zbf, zbg, zbh, zbi, zbj, zbk, zbl, zbm, zbn, zbo, zbp, zbq, zbr, zbs, zbt, zbu, zbv, zbw, zbx, zby, zbz, zbA, zbB, zbC, zbD, zbE, zbF, zbG, zbH, zbI, zbJ, zbK, zbL, zbM, zbN, zbO, zbP, Bool.bne_false, Bool.bne_true, zbQ, zbR, zbS, zbT, zbU, zbV, zbW, zbX, zbY, zbZ, zca, zcb, zcc, zcd, zce, zcf, zcg, zch, zci, zcj, zck, zcl, zcm, zcn, zco, setAll, wipeR, setV, zcp, zcq, zcr, zcs, zct, zcu, zcv, zcw, zcx, zcy, zcz, zcA, zcB, zcC, List.any_cons, List.any_nil, List.map_cons, List.map_nil, List.length_cons, List.length_nil, List.replicate, Nat.sub_self, List.cons_append, List.nil_append, List.append_nil, List.getElem?_cons_zero, List.getElem?_cons_succ, List.set_cons_zero, List.set_cons_succ, List.set_nil, zcD, zcE, zcF, zcG, zcH, zcI, zcJ, zcK, zcL, zcM, zcN, zcO, zcP, zcQ, zcR, zcS, zcT, zcU, zcV, zcW, zcX, zcY, zcZ, zda, zdb, zdc, zdd, zde, zdf, zdg, zdh, zdi, zdj, zdk, zdl, zdm, zdn, zdo, zdp, zdq, zdr, zds, zdt, zdu, zdv, zdw, zdx, zdy, zdz, zdA, zdB, zdC, zdD, zdE, zdF, zdG, reduceIte, Bool.false_eq_true, decide_true, decide_false, Bool.not_true, Bool.not_false, true_and, and_true, decide_not, Bool.true_bne, Bool.false_bne, Bool.not_not]
  by_cases e1 : g = "mark"
  · rw [if_pos e1] at q
    simp only [decide_eq_true e1, reduceIte, Bool.false_eq_true, decide_true, decide_false, Bool.not_true, Bool.not_false, true_and, and_true, decide_not, Bool.true_bne, Bool.false_bne, Bool.not_not, b3_removed_r, zaa, zab, zac, zad, zae, zaf, zag, zah, zai, zaj, zak, zal, zam, zan, zao, zap, zaq, zar, zas, zat, zau, zav, zaw, zax, zay, zaz, zaA, zaB, zaC, zaD, zaE, zaF, zaG, zaH, zaI, zaJ, zaK, zaL, zaM, zaN, zaO, zaP, zaQ, zaR, zaS, zaT, zaU, zaV, startE, full, fullE, clean, cleanE, zaW, zaX, zaY, zaZ, zba, zbb, zbc, zbd, zbe, zbf, zbg, zbh, zbi, zbj, zbk, zbl, zbm, zbn, zbo, zbp, zbq, zbr, zbs, zbt, zbu, zbv, zbw, zbx, zby, zbz, zbA, zbB, zbC, zbD, zbE, zbF, zbG, zbH, zbI, zbJ, zbK, zbL, zbM, zbN, zbO, zbP, Bool.bne_false, Bool.bne_true, zbQ, zbR, zbS, zbT, zbU, zbV, zbW, zbX, zbY, zbZ, zca, zcb, zcc, zcd, zce, zcf, zcg, zch, zci, zcj, zck, zcl, zcm, zcn, zco, setAll, wipeR, setV, zcp, zcq, zcr, zcs, zct, zcu, zcv, zcw, zcx, zcy, zcz, zcA, zcB, zcC, List.any_cons, List.any_nil, List.map_cons, List.map_nil, List.length_cons, List.length_nil, List.replicate, Nat.sub_self, List.cons_append, List.nil_append, List.append_nil, List.getElem?_cons_zero, List.getElem?_cons_succ, List.set_cons_zero, List.set_cons_succ, List.set_nil, zcD, zcE, zcF, zcG, zcH, zcI, zcJ, zcK, zcL, zcM, zcN, zcO, zcP, zcQ, zcR, zcS, zcT, zcU, zcV, zcW, zcX, zcY, zcZ, zda, zdb, zdc, zdd, zde, zdf, zdg, zdh, zdi, zdj, zdk, zdl, zdm, zdn, zdo, zdp, zdq, zdr, zds, zdt, zdu, zdv, zdw, zdx, zdy, zdz, zdA, zdB, zdC, zdD, zdE, zdF, zdG]
    exact tset h0 h1 hT q
  · rw [if_neg e1] at q
    simp only [decide_eq_false e1, reduceIte, Bool.false_eq_true, decide_true, decide_false, Bool.not_true, Bool.not_false, true_and, and_true, decide_not, Bool.true_bne, Bool.false_bne, Bool.not_not, b6_removed_r, zaa, zab, zac, zad, zae, zaf, zag, zah, zai, zaj, zak, zal, zam, zan, zao, zap, zaq, zar, zas, zat, zau, zav, zaw, zax, zay, zaz, zaA, zaB, zaC, zaD, zaE, zaF, zaG, zaH, zaI, zaJ, zaK, zaL, zaM, zaN, zaO, zaP, zaQ, zaR, zaS, zaT, zaU, zaV, startE, full, fullE, clean, cleanE, zaW, zaX, zaY, zaZ, zba, zbb, zbc, zbd, zbe, zbf, zbg, zbh, zbi, zbj, zbk, zbl, zbm, zbn, zbo, zbp, zbq, zbr, zbs, zbt, zbu, zbv, zbw, zbx, zby, zbz, zbA, zbB, zbC, zbD, zbE, zbF, zbG, zbH, zbI, zbJ, zbK, zbL, zbM, zbN, zbO, zbP, Bool.bne_false, Bool.bne_true, zbQ, zbR, zbS, zbT, zbU, zbV, zbW, zbX, zbY, zbZ, zca, zcb, zcc, zcd, zce, zcf, zcg, zch, zci, zcj, zck, zcl, zcm, zcn, zco, setAll, wipeR, setV, zcp, zcq, zcr, zcs, zct, zcu, zcv, zcw, zcx, zcy, zcz, zcA, zcB, zcC, List.any_cons, List.any_nil, List.map_cons, List.map_nil, List.length_cons, List.length_nil, List.replicate, Nat.sub_self, List.cons_append, List.nil_append, List.append_nil, List.getElem?_cons_zero, List.getElem?_cons_succ, List.set_cons_zero, List.set_cons_succ, List.set_nil, zcD, zcE, zcF, zcG, zcH, zcI, zcJ, zcK, zcL, zcM, zcN, zcO, zcP, zcQ, zcR, zcS, zcT, zcU, zcV, zcW, zcX, zcY, zcZ, zda, zdb, zdc, zdd, zde, zdf, zdg, zdh, zdi, zdj, zdk, zdl, zdm, zdn, zdo, zdp, zdq, zdr, zds, zdt, zdu, zdv, zdw, zdx, zdy, zdz, zdA, zdB, zdC, zdD, zdE, zdF, zdG]
    by_cases e2 : g = "pull"
    · rw [if_pos e2] at q
      simp only [decide_eq_true e2, reduceIte, Bool.false_eq_true, decide_true, decide_false, Bool.not_true, Bool.not_false, true_and, and_true, decide_not, Bool.true_bne, Bool.false_bne, Bool.not_not, b5_removed_r, zaa, zab, zac, zad, zae, zaf, zag, zah, zai, zaj, zak, zal, zam, zan, zao, zap, zaq, zar, zas, zat, zau, zav, zaw, zax, zay, zaz, zaA, zaB, zaC, zaD, zaE, zaF, zaG, zaH, zaI, zaJ, zaK, zaL, zaM, zaN, zaO, zaP, zaQ, zaR, zaS, zaT, zaU, zaV, startE, full, fullE, clean, cleanE, zaW, zaX, zaY, zaZ, zba, zbb, zbc, zbd, zbe, zbf, zbg, zbh, zbi, zbj, zbk, zbl, zbm, zbn, zbo, zbp, zbq, zbr, zbs, zbt, zbu, zbv, zbw, zbx, zby, zbz, zbA, zbB, zbC, zbD, zbE, zbF, zbG, zbH, zbI, zbJ, zbK, zbL, zbM, zbN, zbO, zbP, Bool.bne_false, Bool.bne_true, zbQ, zbR, zbS, zbT, zbU, zbV, zbW, zbX, zbY, zbZ, zca, zcb, zcc, zcd, zce, zcf, zcg, zch, zci, zcj, zck, zcl, zcm, zcn, zco, setAll, wipeR, setV, zcp, zcq, zcr, zcs, zct, zcu, zcv, zcw, zcx, zcy, zcz, zcA, zcB, zcC, List.any_cons, List.any_nil, List.map_cons, List.map_nil, List.length_cons, List.length_nil, List.replicate, Nat.sub_self, List.cons_append, List.nil_append, List.append_nil, List.getElem?_cons_zero, List.getElem?_cons_succ, List.set_cons_zero, List.set_cons_succ, List.set_nil, zcD, zcE, zcF, zcG, zcH, zcI, zcJ, zcK, zcL, zcM, zcN, zcO, zcP, zcQ, zcR, zcS, zcT, zcU, zcV, zcW, zcX, zcY, zcZ, zda, zdb, zdc, zdd, zde, zdf, zdg, zdh, zdi, zdj, zdk, zdl, zdm, zdn, zdo, zdp, zdq, zdr, zds, zdt, zdu, zdv, zdw, zdx, zdy, zdz, zdA, zdB, zdC, zdD, zdE, zdF, zdG]
      exact pulled_ok (c := c) (g := g) (gr := gr) o.size (by omega) h0 h1 hs q
    · rw [if_neg e2] at q
      simp only [decide_eq_false e2, reduceIte, Bool.false_eq_true, decide_true, decide_false, Bool.not_true, Bool.not_false, true_and, and_true, decide_not, Bool.true_bne, Bool.false_bne, Bool.not_not, b7_removed_r, zaa, zab, zac, zad, zae, zaf, zag, zah, zai, zaj, zak, zal, zam, zan, zao, zap, zaq, zar, zas, zat, zau, zav, zaw, zax, zay, zaz, zaA, zaB, zaC, zaD, zaE, zaF, zaG, zaH, zaI, zaJ, zaK, zaL, zaM, zaN, zaO, zaP, zaQ, zaR, zaS, zaT, zaU, zaV, startE, full, fullE, clean, cleanE, zaW, zaX, zaY, zaZ, zba, zbb, zbc, zbd, zbe, zbf, zbg, zbh, zbi, zbj, zbk, zbl, zbm, zbn, zbo, zbp, zbq, zbr, zbs, zbt, zbu, zbv, zbw, zbx, zby, zbz, zbA, zbB, zbC, zbD, zbE, zbF, zbG, zbH, zbI, zbJ, zbK, zbL, zbM, zbN, zbO, zbP, Bool.bne_false, Bool.bne_true, zbQ, zbR, zbS, zbT, zbU, zbV, zbW, zbX, zbY, zbZ, zca, zcb, zcc, zcd, zce, zcf, zcg, zch, zci, zcj, zck, zcl, zcm, zcn, zco, setAll, wipeR, setV, zcp, zcq, zcr, zcs, zct, zcu, zcv, zcw, zcx, zcy, zcz, zcA, zcB, zcC, List.any_cons, List.any_nil, List.map_cons, List.map_nil, List.length_cons, List.length_nil, List.replicate, Nat.sub_self, List.cons_append, List.nil_append, List.append_nil, List.getElem?_cons_zero, List.getElem?_cons_succ, List.set_cons_zero, List.set_cons_succ, List.set_nil, zcD, zcE, zcF, zcG, zcH, zcI, zcJ, zcK, zcL, zcM, zcN, zcO, zcP, zcQ, zcR, zcS, zcT, zcU, zcV, zcW, zcX, zcY, zcZ, zda, zdb, zdc, zdd, zde, zdf, zdg, zdh, zdi, zdj, zdk, zdl, zdm, zdn, zdo, zdp, zdq, zdr, zds, zdt, zdu, zdv, zdw, zdx, zdy, zdz, zdA, zdB, zdC, zdD, zdE, zdF, zdG]
      refine tset h0 h1 hT ?_
      simp only [b8_removed_r, zaa, zab, zac, zad, zae, zaf, zag, zah, zai, zaj, zak, zal, zam, zan, zao, zap, zaq, zar, zas, zat, zau, zav, zaw, zax, zay, zaz, zaA, zaB, zaC, zaD, zaE, zaF, zaG, zaH, zaI, zaJ, zaK, zaL, zaM, zaN, zaO, zaP, zaQ, zaR, zaS, zaT, zaU, zaV, startE, full, fullE, clean, cleanE, zaW, zaX, zaY, zaZ, zba, zbb, zbc, zbd, zbe, zbf, zbg, zbh, zbi, zbj, zbk, zbl, zbm, zbn, zbo, zbp, zbq, zbr, zbs, zbt, zbu, zbv, zbw, zbx, zby, zbz, zbA, zbB, zbC, zbD, zbE, zbF, zbG, zbH, zbI, zbJ, zbK, zbL, zbM, zbN, zbO, zbP, Bool.bne_false, Bool.bne_true, zbQ, zbR, zbS, zbT, zbU, zbV, zbW, zbX, zbY, zbZ, zca, zcb, zcc, zcd, zce, zcf, zcg, zch, zci, zcj, zck, zcl, zcm, zcn, zco, setAll, wipeR, setV, zcp, zcq, zcr, zcs, zct, zcu, zcv, zcw, zcx, zcy, zcz, zcA, zcB, zcC, List.any_cons, List.any_nil, List.map_cons, List.map_nil, List.length_cons, List.length_nil, List.replicate, Nat.sub_self, List.cons_append, List.nil_append, List.append_nil, List.getElem?_cons_zero, List.getElem?_cons_succ, List.set_cons_zero, List.set_cons_succ, List.set_nil, zcD, zcE, zcF, zcG, zcH, zcI, zcJ, zcK, zcL, zcM, zcN, zcO, zcP, zcQ, zcR, zcS, zcT, zcU, zcV, zcW, zcX, zcY, zcZ, zda, zdb, zdc, zdd, zde, zdf, zdg, zdh, zdi, zdj, zdk, zdl, zdm, zdn, zdo, zdp, zdq, zdr, zds, zdt, zdu, zdv, zdw, zdx, zdy, zdz, zdA, zdB, zdC, zdD, zdE, zdF, zdG, tabD_s]
      by_cases e3 : g = "hole"
      · rw [if_pos e3] at q
        simp only [decide_eq_true e3, reduceIte, Bool.false_eq_true, decide_true, decide_false, Bool.not_true, Bool.not_false, true_and, and_true, decide_not, Bool.true_bne, Bool.false_bne, Bool.not_not]
        exact q
      · rw [if_neg e3] at q
        simp only [decide_eq_false e3, reduceIte, Bool.false_eq_true, decide_true, decide_false, Bool.not_true, Bool.not_false, true_and, and_true, decide_not, Bool.true_bne, Bool.false_bne, Bool.not_not, intsD_len, put_len]
        have u := used_put (x := -1) h0 h1
        rw [if_neg hs] at u
        simp at u
        have hm : (once [] (keysS (put T s (-1)))).length ≤ used (put T s (-1)) := Nat.le_trans (once_len _) (keys_le _)
        exact anew_slots (g := g) (gr := gr) o.size (by rw [put_len]; exact hT) (by omega) q
theorem row_le {R : List (List Int)} {r : List Int} (h : r ∈ R) : r.length ≤ R.flatten.length := (List.sublist_flatten_of_mem h).length_le
theorem removed_rows {h c o : String} {R : List (List Int)} {s k : Int} (hn : SizeOk R.length) (hl : R.flatten.length ≤ 1000) (h0 : 0 ≤ s) (h1 : s < R.length) (q : Q (tabD (.r (rput R s ((rat R s).filter (· ≠ k)))))) : m_removed [rowsW h c o, tabD (.r R), .int s, .int k] Q E := by
  obtain ⟨hn0, hn1⟩ := small hn
  simp only [m_removed_r, b2_removed_r, rowsW, zaa, zab, zac, zad, zae, zaf, zag, zah, zai, zaj, zak, zal, zam, zan, zao, zap, zaq, zar, zas, zat, zau, zav, zaw, zax, zay, zaz, zaA, zaB, zaC, zaD, zaE, zaF, zaG, zaH, zaI, zaJ, zaK, zaL, zaM, zaN, zaO, zaP, zaQ, zaR, zaS, zaT, zaU, zaV, startE, full, fullE, clean, cleanE, zaW, zaX, zaY, zaZ, zba, zbb, zbc, zbd, zbe, zbf, zbg, zbh, zbi, zbj, zbk, zbl, zbm, zbn, zbo, zbp, zbq, zbr, zbs, zbt, zbu, zbv, zbw, zbx, zby, zbz, zbA, zbB, zbC, zbD, zbE, zbF, zbG, zbH, zbI, zbJ, zbK, zbL, zbM, zbN, zbO, zbP, Bool.bne_false, Bool.bne_true, zbQ, zbR, zbS, zbT, zbU, zbV, zbW, zbX, zbY, zbZ, zca, zcb, zcc, zcd, zce, zcf, zcg, zch, zci, zcj, zck, zcl, zcm, zcn, zco, setAll, wipeR, setV, zcp, zcq, zcr, zcs, zct, zcu, zcv, zcw, zcx, zcy, zcz, zcA, zcB, zcC, List.any_cons, List.any_nil, List.map_cons, List.map_nil, List.length_cons, List.length_nil, List.replicate, Nat.sub_self, List.cons_append, List.nil_append, List.append_nil, List.getElem?_cons_zero, List.getElem?_cons_succ, List.set_cons_zero, List.set_cons_succ, List.set_nil, zcD, zcE, zcF, zcG, zcH, zcI, zcJ, zcK, zcL, zcM, zcN, zcO, zcP, zcQ, zcR, zcS, zcT, zcU, zcV, zcW, zcX, zcY, zcZ, zda, zdb, zdc, zdd, zde, zdf, zdg, zdh, zdi, zdj, zdk, zdl, zdm, zdn, zdo, zdp, zdq, zdr, zds, zdt, zdu, zdv, zdw, zdx, zdy, zdz, zdA, zdB, zdC, zdD, zdE, zdF, zdG, reduceIte, Bool.false_eq_true, decide_true, decide_false, Bool.not_true, Bool.not_false, true_and, and_true, decide_not, Bool.true_bne, Bool.false_bne, Bool.not_not]
  rw [tabD_r]
  simp only [zaa, zab, zac, zad, zae, zaf, zag, zah, zai, zaj, zak, zal, zam, zan, zao, zap, zaq, zar, zas, zat, zau, zav, zaw, zax, zay, zaz, zaA, zaB, zaC, zaD, zaE, zaF, zaG, zaH, zaI, zaJ, zaK, zaL, zaM, zaN, zaO, zaP, zaQ, zaR, zaS, zaT, zaU, zaV, startE, full, fullE, clean, cleanE, zaW, zaX, zaY, zaZ, zba, zbb, zbc, zbd, zbe, zbf, zbg, zbh, zbi, zbj, zbk, zbl, zbm, zbn, zbo, zbp, zbq, zbr, zbs, zbt, zbu, zbv, zbw, zbx, zby, zbz, zbA, zbB, zbC, zbD, zbE, zbF, zbG, zbH, zbI, zbJ, zbK, zbL, zbM, zbN, zbO, zbP, Bool.bne_false, Bool.bne_true, zbQ, zbR, zbS, zbT, zbU, zbV, zbW, zbX, zbY, zbZ, zca, zcb, zcc, zcd, zce, zcf, zcg, zch, zci, zcj, zck, zcl, zcm, zcn, zco, setAll, wipeR, setV, zcp, zcq, zcr, zcs, zct, zcu, zcv, zcw, zcx, zcy, zcz, zcA, zcB, zcC, List.any_cons, List.any_nil, List.map_cons, List.map_nil, List.length_cons, List.length_nil, List.replicate, Nat.sub_self, List.cons_append, List.nil_append, List.append_nil, List.getElem?_cons_zero, List.getElem?_cons_succ, List.set_cons_zero, List.set_cons_succ, List.set_nil, zcD, zcE, zcF, zcG, zcH, zcI, zcJ, zcK, zcL, zcM, zcN, zcO, zcP, zcQ, zcR, zcS, zcT, zcU, zcV, zcW, zcX, zcY, zcZ, zda, zdb, zdc, zdd, zde, zdf, zdg, zdh, zdi, zdj, zdk, zdl, zdm, zdn, zdo, zdp, zdq, zdr, zds, zdt, zdu, zdv, zdw, zdx, zdy, zdz, zdA, zdB, zdC, zdD, zdE, zdF, zdG, rget h0 h1, b1_removed_r]
  have := row_le (rat_mem h0 h1)
  refine ⟨by rw [intsD_len]; omega, lcLoop_fm PyData.int (fun x => decide (x ≠ k)) PyData.int (fun a ha kk hk => ?_) ?_⟩
  · simp only [zaa, zab, zac, zad, zae, zaf, zag, zah, zai, zaj, zak, zal, zam, zan, zao, zap, zaq, zar, zas, zat, zau, zav, zaw, zax, zay, zaz, zaA, zaB, zaC, zaD, zaE, zaF, zaG, zaH, zaI, zaJ, zaK, zaL, zaM, zaN, zaO, zaP, zaQ, zaR, zaS, zaT, zaU, zaV, startE, full, fullE, clean, cleanE, zaW, zaX, zaY, zaZ, zba, zbb, zbc, zbd, zbe, zbf, zbg, zbh, zbi, zbj, zbk, zbl, zbm, zbn, zbo, zbp, zbq, zbr, zbs, zbt, zbu, zbv, zbw, zbx, zby, zbz, zbA, zbB, zbC, zbD, zbE, zbF, zbG, zbH, zbI, zbJ, zbK, zbL, zbM, zbN, zbO, zbP, Bool.bne_false, Bool.bne_true, zbQ, zbR, zbS, zbT, zbU, zbV, zbW, zbX, zbY, zbZ, zca, zcb, zcc, zcd, zce, zcf, zcg, zch, zci, zcj, zck, zcl, zcm, zcn, zco, setAll, wipeR, setV, zcp, zcq, zcr, zcs, zct, zcu, zcv, zcw, zcx, zcy, zcz, zcA, zcB, zcC, List.any_cons, List.any_nil, List.map_cons, List.map_nil, List.length_cons, List.length_nil, List.replicate, Nat.sub_self, List.cons_append, List.nil_append, List.append_nil, List.getElem?_cons_zero, List.getElem?_cons_succ, List.set_cons_zero, List.set_cons_succ, List.set_nil, zcD, zcE, zcF, zcG, zcH, zcI, zcJ, zcK, zcL, zcM, zcN, zcO, zcP, zcQ, zcR, zcS, zcT, zcU, zcV, zcW, zcX, zcY, zcZ, zda, zdb, zdc, zdd, zde, zdf, zdg, zdh, zdi, zdj, zdk, zdl, zdm, zdn, zdo, zdp, zdq, zdr, zds, zdt, zdu, zdv, zdw, zdx, zdy, zdz, zdA, zdB, zdC, zdD, zdE, zdF, zdG]
    by_cases e : a = k
    · simpa [e] using hk
    · simpa [e] using hk
  · exact rset h0 h1 (by omega) q
/-! ### making room -/
theorem grown_slots {h st c g gr : String} {ks T : List Int} (o : OkS gr ks T) (hg : GrowOk gr) (hk : ks.length ≤ 30) (q : Q (tabD (.s (grownS h st c gr T)))) : m_grown [slotsW h st c g gr, .tuple (intsD T)] Q E := by
  obtain ⟨hn0, hn1⟩ := small o.size
  have hl := grow_lt hg o.size
  have hu := o.used
  have ho := o.once
  have hT : T.length ≤ 1000 := by omega
  have hm : (once [] (keysS T)).length ≤ used T := Nat.le_trans (once_len _) (keys_le T)
  have hkl := keys_le T
  unfold grownS at q
  simp only [m_grown_r, b1_grown_r, zaa, zab, zac, zad, zae, zaf, zag, zah, zai, zaj, zak, zal, zam, zan, zao, zap, zaq, zar, zas, zat, zau, zav, zaw, zax, zay, zaz, zaA, zaB, zaC, zaD, zaE, zaF, zaG, zaH, zaI, zaJ, zaK, zaL, zaM, zaN, zaO, zaP, zaQ, zaR, zaS, zaT, zaU, zaV, startE, full, fullE, clean, cleanE, zaW, zaX, zaY, zaZ, zba, zbb, zbc, zbd, zbe, zbf, zbg, zbh, zbi, zbj, zbk, zbl, zbm, zbn, zbo, zbp, zbq, zbr, zbs, zbt, zbu, zbv, zbw, zbx, zby, zbz, zbA, zbB, zbC, zbD, zbE, zbF, zbG, zbH, zbI, zbJ, zbK, zbL, zbM, zbN, zbO, zbP, Bool.bne_false, Bool.bne_true, zbQ, zbR, zbS, zbT, zbU, zbV, zbW, zbX, zbY, zbZ, zca, zcb, zcc, zcd, zce, zcf, zcg, zch, zci, zcj, zck, zcl, zcm, zcn, zco, setAll, wipeR, setV, zcp, zcq, zcr, zcs, zct, zcu, zcv, zcw, zcx, zcy, zcz, zcA, zcB, zcC, List.any_cons, List.any_nil, List.map_cons, List.map_nil, List.length_cons, List.length_nil, List.replicate, Nat.sub_self, List.cons_append, List.nil_append, List.append_nil, List.getElem?_cons_zero, List.getElem?_cons_succ, List.set_cons_zero, List.set_cons_succ, List.set_nil, zcD, zcE, zcF, zcG, zcH, zcI, zcJ, zcK, zcL, zcM, zcN, zcO, zcP, zcQ, zcR, zcS, zcT, zcU, zcV, zcW, zcX, zcY, zcZ, zda, zdb, zdc, zdd, zde, zdf, zdg, zdh, zdi, zdj, zdk, zdl, zdm, zdn, zdo, zdp, zdq, zdr, zds, zdt, zdu, zdv, zdw, zdx, zdy, zdz, zdA, zdB, zdC, zdD, zdE, zdF, zdG, intsD_len]
  refine used_slots hT ?_
  simp only [zaa, zab, zac, zad, zae, zaf, zag, zah, zai, zaj, zak, zal, zam, zan, zao, zap, zaq, zar, zas, zat, zau, zav, zaw, zax, zay, zaz, zaA, zaB, zaC, zaD, zaE, zaF, zaG, zaH, zaI, zaJ, zaK, zaL, zaM, zaN, zaO, zaP, zaQ, zaR, zaS, zaT, zaU, zaV, startE, full, fullE, clean, cleanE, zaW, zaX, zaY, zaZ, zba, zbb, zbc, zbd, zbe, zbf, zbg, zbh, zbi, zbj, zbk, zbl, zbm, zbn, zbo, zbp, zbq, zbr, zbs, zbt, zbu, zbv, zbw, zbx, zby, zbz, zbA, zbB, zbC, zbD, zbE, zbF, zbG, zbH, zbI, zbJ, zbK, zbL, zbM, zbN, zbO, zbP, Bool.bne_false, Bool.bne_true, zbQ, zbR, zbS, zbT, zbU, zbV, zbW, zbX, zbY, zbZ, zca, zcb, zcc, zcd, zce, zcf, zcg, zch, zci, zcj, zck, zcl, zcm, zcn, zco, setAll, wipeR, setV, zcp, zcq, zcr, zcs, zct, zcu, zcv, zcw, zcx, zcy, zcz, zcA, zcB, zcC, List.any_cons, List.any_nil, List.map_cons, List.map_nil, List.length_cons, List.length_nil, List.replicate, Nat.sub_self, List.cons_append, List.nil_append, List.append_nil, List.getElem?_cons_zero, List.getElem?_cons_succ, List.set_cons_zero, List.set_cons_succ, List.set_nil, zcD, zcE, zcF, zcG, zcH, zcI, zcJ, zcK, zcL, zcM, zcN, zcO, zcP, zcQ, zcR, zcS, zcT, zcU, zcV, zcW, zcX, zcY, zcZ, zda, zdb, zdc, zdd, zde, zdf, zdg, zdh, zdi, zdj, zdk, zdl, zdm, zdn, zdo, zdp, zdq, zdr, zds, zdt, zdu, zdv, zdw, zdx, zdy, zdz, zdA, zdB, zdC, zdD, zdE, zdF, zdG]
  refine bound_slots o.size hg ?_
  simp only [zaa, zab, zac, zad, zae, zaf, zag, zah, zai, zaj, zak, zal, zam, zan, zao, zap, zaq, zar, zas, zat, zau, zav, zaw, zax, zay, zaz, zaA, zaB, zaC, zaD, zaE, zaF, zaG, zaH, zaI, zaJ, zaK, zaL, zaM, zaN, zaO, zaP, zaQ, zaR, zaS, zaT, zaU, zaV, startE, full, fullE, clean, cleanE, zaW, zaX, zaY, zaZ, zba, zbb, zbc, zbd, zbe, zbf, zbg, zbh, zbi, zbj, zbk, zbl, zbm, zbn, zbo, zbp, zbq, zbr, zbs, zbt, zbu, zbv, zbw, zbx, zby, zbz, zbA, zbB, zbC, zbD, zbE, zbF, zbG, zbH, zbI, zbJ, zbK, zbL, zbM, zbN, zbO, zbP, Bool.bne_false, Bool.bne_true, zbQ, zbR, zbS, zbT, zbU, zbV, zbW, zbX, zbY, zbZ, zca, zcb, zcc, zcd, zce, zcf, zcg, zch, zci, zcj, zck, zcl, zcm, zcn, zco, setAll, wipeR, setV, zcp, zcq, zcr, zcs, zct, zcu, zcv, zcw, zcx, zcy, zcz, zcA, zcB, zcC, List.any_cons, List.any_nil, List.map_cons, List.map_nil, List.length_cons, List.length_nil, List.replicate, Nat.sub_self, List.cons_append, List.nil_append, List.append_nil, List.getElem?_cons_zero, List.getElem?_cons_succ, List.set_cons_zero, List.set_cons_succ, List.set_nil, zcD, zcE, zcF, zcG, zcH, zcI, zcJ, zcK, zcL, zcM, zcN, zcO, zcP, zcQ, zcR, zcS, zcT, zcU, zcV, zcW, zcX, zcY, zcZ, zda, zdb, zdc, zdd, zde, zdf, zdg, zdh, zdi, zdj, zdk, zdl, zdm, zdn, zdo, zdp, zdq, zdr, zds, zdt, zdu, zdv, zdw, zdx, zdy, zdz, zdA, zdB, zdC, zdD, zdE, zdF, zdG]
  by_cases e1 : (used T : Int) + 1 ≤ growOf gr T.length
  · rw [if_pos e1] at q
    simp only [decide_eq_true e1, reduceIte, Bool.false_eq_true, decide_true, decide_false, Bool.not_true, Bool.not_false, true_and, and_true, decide_not, Bool.true_bne, Bool.false_bne, Bool.not_not, zaa, zab, zac, zad, zae, zaf, zag, zah, zai, zaj, zak, zal, zam, zan, zao, zap, zaq, zar, zas, zat, zau, zav, zaw, zax, zay, zaz, zaA, zaB, zaC, zaD, zaE, zaF, zaG, zaH, zaI, zaJ, zaK, zaL, zaM, zaN, zaO, zaP, zaQ, zaR, zaS, zaT, zaU, zaV, startE, full, fullE, clean, cleanE, zaW, zaX, zaY, zaZ, zba, zbb, zbc, zbd, zbe, zbf, zbg, zbh, zbi, zbj, zbk, zbl, zbm, zbn, zbo, zbp, zbq, zbr, zbs, zbt, zbu, zbv, zbw, zbx, zby, zbz, zbA, zbB, zbC, zbD, zbE, zbF, zbG, zbH, zbI, zbJ, zbK, zbL, zbM, zbN, zbO, zbP, Bool.bne_false, Bool.bne_true, zbQ, zbR, zbS, zbT, zbU, zbV, zbW, zbX, zbY, zbZ, zca, zcb, zcc, zcd, zce, zcf, zcg, zch, zci, zcj, zck, zcl, zcm, zcn, zco, setAll, wipeR, setV, zcp, zcq, zcr, zcs, zct, zcu, zcv, zcw, zcx, zcy, zcz, zcA, zcB, zcC, List.any_cons, List.any_nil, List.map_cons, List.map_nil, List.length_cons, List.length_nil, List.replicate, Nat.sub_self, List.cons_append, List.nil_append, List.append_nil, List.getElem?_cons_zero, List.getElem?_cons_succ, List.set_cons_zero, List.set_cons_succ, List.set_nil, zcD, zcE, zcF, zcG, zcH, zcI, zcJ, zcK, zcL, zcM, zcN, zcO, zcP, zcQ, zcR, zcS, zcT, zcU, zcV, zcW, zcX, zcY, zcZ, zda, zdb, zdc, zdd, zde, zdf, zdg, zdh, zdi, zdj, zdk, zdl, zdm, zdn, zdo, zdp, zdq, zdr, zds, zdt, zdu, zdv, zdw, zdx, zdy, zdz, zdA, zdB, zdC, zdD, zdE, zdF, zdG]
    exact q
  · rw [if_neg e1] at q
    simp only [decide_eq_false e1, reduceIte, Bool.false_eq_true, decide_true, decide_false, Bool.not_true, Bool.not_false, true_and, and_true, decide_not, Bool.true_bne, Bool.false_bne, Bool.not_not, zaa, zab, zac, zad, zae, zaf, zag, zah, zai, zaj, zak, zal, zam, zan, zao, zap, zaq, zar, zas, zat, zau, zav, zaw, zax, zay, zaz, zaA, zaB, zaC, zaD, zaE, zaF, zaG, zaH, zaI, zaJ, zaK, zaL, zaM, zaN, zaO, zaP, zaQ, zaR, zaS, zaT, zaU, zaV, startE, full, fullE, clean, cleanE, zaW, zaX, zaY, zaZ, zba, zbb, zbc, zbd, zbe, zbf, zbg, zbh, zbi, zbj, zbk, zbl, zbm, zbn, zbo, zbp, zbq, zbr, zbs, zbt, zbu, zbv, zbw, zbx, zby, zbz, zbA, zbB, zbC, zbD, zbE, zbF, zbG, zbH, zbI, zbJ, zbK, zbL, zbM, zbN, zbO, zbP, Bool.bne_false, Bool.bne_true, zbQ, zbR, zbS, zbT, zbU, zbV, zbW, zbX, zbY, zbZ, zca, zcb, zcc, zcd, zce, zcf, zcg, zch, zci, zcj, zck, zcl, zcm, zcn, zco, setAll, wipeR, setV, zcp, zcq, zcr, zcs, zct, zcu, zcv, zcw, zcx, zcy, zcz, zcA, zcB, zcC, List.any_cons, List.any_nil, List.map_cons, List.map_nil, List.length_cons, List.length_nil, List.replicate, Nat.sub_self, List.cons_append, List.nil_append, List.append_nil, List.getElem?_cons_zero, List.getElem?_cons_succ, List.set_cons_zero, List.set_cons_succ, List.set_nil, zcD, zcE, zcF, zcG, zcH, zcI, zcJ, zcK, zcL, zcM, zcN, zcO, zcP, zcQ, zcR, zcS, zcT, zcU, zcV, zcW, zcX, zcY, zcZ, zda, zdb, zdc, zdd, zde, zdf, zdg, zdh, zdi, zdj, zdk, zdl, zdm, zdn, zdo, zdp, zdq, zdr, zds, zdt, zdu, zdv, zdw, zdx, zdy, zdz, zdA, zdB, zdC, zdD, zdE, zdF, zdG, b3_grown_r]
    simp only [slotsW, zaa, zab, zac, zad, zae, zaf, zag, zah, zai, zaj, zak, zal, zam, zan, zao, zap, zaq, zar, zas, zat, zau, zav, zaw, zax, zay, zaz, zaA, zaB, zaC, zaD, zaE, zaF, zaG, zaH, zaI, zaJ, zaK, zaL, zaM, zaN, zaO, zaP, zaQ, zaR, zaS, zaT, zaU, zaV, startE, full, fullE, clean, cleanE, zaW, zaX, zaY, zaZ, zba, zbb, zbc, zbd, zbe, zbf, zbg, zbh, zbi, zbj, zbk, zbl, zbm, zbn, zbo, zbp, zbq, zbr, zbs, zbt, zbu, zbv, zbw, zbx, zby, zbz, zbA, zbB, zbC, zbD, zbE, zbF, zbG, zbH, zbI, zbJ, zbK, zbL, zbM, zbN, zbO, zbP, Bool.bne_false, Bool.bne_true, zbQ, zbR, zbS, zbT, zbU, zbV, zbW, zbX, zbY, zbZ, zca, zcb, zcc, zcd, zce, zcf, zcg, zch, zci, zcj, zck, zcl, zcm, zcn, zco, setAll, wipeR, setV, zcp, zcq, zcr, zcs, zct, zcu, zcv, zcw, zcx, zcy, zcz, zcA, zcB, zcC, List.any_cons, List.any_nil, List.map_cons, List.map_nil, List.length_cons, List.length_nil, List.replicate, Nat.sub_self, List.cons_append, List.nil_append, List.append_nil, List.getElem?_cons_zero, List.getElem?_cons_succ, List.set_cons_zero, List.set_cons_succ, List.set_nil, zcD, zcE, zcF, zcG, zcH, zcI, zcJ, zcK, zcL, zcM, zcN, zcO, zcP, zcQ, zcR, zcS, zcT, zcU, zcV, zcW, zcX, zcY, zcZ, zda, zdb, zdc, zdd, zde, zdf, zdg, zdh, zdi, zdj, zdk, zdl, zdm, zdn, zdo, zdp, zdq, zdr, zds, zdt, zdu, zdv, zdw, zdx, zdy, zdz, zdA, zdB, zdC, zdD, zdE, zdF, zdG, reduceIte, Bool.false_eq_true, decide_true, decide_false, Bool.not_true, Bool.not_false, true_and, and_true, decide_not, Bool.true_bne, Bool.false_bne, Bool.not_not]
    show m_keys_in [slotsW h st c g gr, _] _ _
    refine keys_slots hT (once_ok (by omega) ?_)
    simp only [zaa, zab, zac, zad, zae, zaf, zag, zah, zai, zaj, zak, zal, zam, zan, zao, zap, zaq, zar, zas, zat, zau, zav, zaw, zax, zay, zaz, zaA, zaB, zaC, zaD, zaE, zaF, zaG, zaH, zaI, zaJ, zaK, zaL, zaM, zaN, zaO, zaP, zaQ, zaR, zaS, zaT, zaU, zaV, startE, full, fullE, clean, cleanE, zaW, zaX, zaY, zaZ, zba, zbb, zbc, zbd, zbe, zbf, zbg, zbh, zbi, zbj, zbk, zbl, zbm, zbn, zbo, zbp, zbq, zbr, zbs, zbt, zbu, zbv, zbw, zbx, zby, zbz, zbA, zbB, zbC, zbD, zbE, zbF, zbG, zbH, zbI, zbJ, zbK, zbL, zbM, zbN, zbO, zbP, Bool.bne_false, Bool.bne_true, zbQ, zbR, zbS, zbT, zbU, zbV, zbW, zbX, zbY, zbZ, zca, zcb, zcc, zcd, zce, zcf, zcg, zch, zci, zcj, zck, zcl, zcm, zcn, zco, setAll, wipeR, setV, zcp, zcq, zcr, zcs, zct, zcu, zcv, zcw, zcx, zcy, zcz, zcA, zcB, zcC, List.any_cons, List.any_nil, List.map_cons, List.map_nil, List.length_cons, List.length_nil, List.replicate, Nat.sub_self, List.cons_append, List.nil_append, List.append_nil, List.getElem?_cons_zero, List.getElem?_cons_succ, List.set_cons_zero, List.set_cons_succ, List.set_nil, zcD, zcE, zcF, zcG, zcH, zcI, zcJ, zcK, zcL, zcM, zcN, zcO, zcP, zcQ, zcR, zcS, zcT, zcU, zcV, zcW, zcX, zcY, zcZ, zda, zdb, zdc, zdd, zde, zdf, zdg, zdh, zdi, zdj, zdk, zdl, zdm, zdn, zdo, zdp, zdq, zdr, zds, zdt, zdu, zdv, zdw, zdx, zdy, zdz, zdA, zdB, zdC, zdD, zdE, zdF, zdG, intsD_len]
    show m_bound_of [slotsW h st c g gr, _] _ _
    refine bound_slots o.size hg ?_
    simp only [zaa, zab, zac, zad, zae, zaf, zag, zah, zai, zaj, zak, zal, zam, zan, zao, zap, zaq, zar, zas, zat, zau, zav, zaw, zax, zay, zaz, zaA, zaB, zaC, zaD, zaE, zaF, zaG, zaH, zaI, zaJ, zaK, zaL, zaM, zaN, zaO, zaP, zaQ, zaR, zaS, zaT, zaU, zaV, startE, full, fullE, clean, cleanE, zaW, zaX, zaY, zaZ, zba, zbb, zbc, zbd, zbe, zbf, zbg, zbh, zbi, zbj, zbk, zbl, zbm, zbn, zbo, zbp, zbq, zbr, zbs, zbt, zbu, zbv, zbw, zbx, zby, zbz, zbA, zbB, zbC, zbD, zbE, zbF, zbG, zbH, zbI, zbJ, zbK, zbL, zbM, zbN, zbO, zbP, Bool.bne_false, Bool.bne_true, zbQ, zbR, zbS, zbT, zbU, zbV, zbW, zbX, zbY, zbZ, zca, zcb, zcc, zcd, zce, zcf, zcg, zch, zci, zcj, zck, zcl, zcm, zcn, zco, setAll, wipeR, setV, zcp, zcq, zcr, zcs, zct, zcu, zcv, zcw, zcx, zcy, zcz, zcA, zcB, zcC, List.any_cons, List.any_nil, List.map_cons, List.map_nil, List.length_cons, List.length_nil, List.replicate, Nat.sub_self, List.cons_append, List.nil_append, List.append_nil, List.getElem?_cons_zero, List.getElem?_cons_succ, List.set_cons_zero, List.set_cons_succ, List.set_nil, zcD, zcE, zcF, zcG, zcH, zcI, zcJ, zcK, zcL, zcM, zcN, zcO, zcP, zcQ, zcR, zcS, zcT, zcU, zcV, zcW, zcX, zcY, zcZ, zda, zdb, zdc, zdd, zde, zdf, zdg, zdh, zdi, zdj, zdk, zdl, zdm, zdn, zdo, zdp, zdq, zdr, zds, zdt, zdu, zdv, zdw, zdx, zdy, zdz, zdA, zdB, zdC, zdD, zdE, zdF, zdG]
    by_cases e2 : ((once [] (keysS T)).length : Int) + 1 ≤ growOf gr T.length
    · rw [if_pos e2] at q
      simp only [decide_eq_true e2, reduceIte, Bool.false_eq_true, decide_true, decide_false, Bool.not_true, Bool.not_false, true_and, and_true, decide_not, Bool.true_bne, Bool.false_bne, Bool.not_not, zaa, zab, zac, zad, zae, zaf, zag, zah, zai, zaj, zak, zal, zam, zan, zao, zap, zaq, zar, zas, zat, zau, zav, zaw, zax, zay, zaz, zaA, zaB, zaC, zaD, zaE, zaF, zaG, zaH, zaI, zaJ, zaK, zaL, zaM, zaN, zaO, zaP, zaQ, zaR, zaS, zaT, zaU, zaV, startE, full, fullE, clean, cleanE, zaW, zaX, zaY, zaZ, zba, zbb, zbc, zbd, zbe, zbf, zbg, zbh, zbi, zbj, zbk, zbl, zbm, zbn, zbo, zbp, zbq, zbr, zbs, zbt, zbu, zbv, zbw, zbx, zby, zbz, zbA, zbB, zbC, zbD, zbE, zbF, zbG, zbH, zbI, zbJ, zbK, zbL, zbM, zbN, zbO, zbP, Bool.bne_false, Bool.bne_true, zbQ, zbR, zbS, zbT, zbU, zbV, zbW, zbX, zbY, zbZ, zca, zcb, zcc, zcd, zce, zcf, zcg, zch, zci, zcj, zck, zcl, zcm, zcn, zco, setAll, wipeR, setV, zcp, zcq, zcr, zcs, zct, zcu, zcv, zcw, zcx, zcy, zcz, zcA, zcB, zcC, List.any_cons, List.any_nil, List.map_cons, List.map_nil, List.length_cons, List.length_nil, List.replicate, Nat.sub_self, List.cons_append, List.nil_append, List.append_nil, List.getElem?_cons_zero, List.getElem?_cons_succ, List.set_cons_zero, List.set_cons_succ, List.set_nil, zcD, zcE, zcF, zcG, zcH, zcI, zcJ, zcK, zcL, zcM, zcN, zcO, zcP, zcQ, zcR, zcS, zcT, zcU, zcV, zcW, zcX, zcY, zcZ, zda, zdb, zdc, zdd, zde, zdf, zdg, zdh, zdi, zdj, zdk, zdl, zdm, zdn, zdo, zdp, zdq, zdr, zds, zdt, zdu, zdv, zdw, zdx, zdy, zdz, zdA, zdB, zdC, zdD, zdE, zdF, zdG, b2_grown_r]
      show m_laid_anew [slotsW h st c g gr, _, _] _ _
      exact anew_slots o.size hT (by omega) q
    · rw [if_neg e2] at q
      simp only [decide_eq_false e2, reduceIte, Bool.false_eq_true, decide_true, decide_false, Bool.not_true, Bool.not_false, true_and, and_true, decide_not, Bool.true_bne, Bool.false_bne, Bool.not_not, zaa, zab, zac, zad, zae, zaf, zag, zah, zai, zaj, zak, zal, zam, zan, zao, zap, zaq, zar, zas, zat, zau, zav, zaw, zax, zay, zaz, zaA, zaB, zaC, zaD, zaE, zaF, zaG, zaH, zaI, zaJ, zaK, zaL, zaM, zaN, zaO, zaP, zaQ, zaR, zaS, zaT, zaU, zaV, startE, full, fullE, clean, cleanE, zaW, zaX, zaY, zaZ, zba, zbb, zbc, zbd, zbe, zbf, zbg, zbh, zbi, zbj, zbk, zbl, zbm, zbn, zbo, zbp, zbq, zbr, zbs, zbt, zbu, zbv, zbw, zbx, zby, zbz, zbA, zbB, zbC, zbD, zbE, zbF, zbG, zbH, zbI, zbJ, zbK, zbL, zbM, zbN, zbO, zbP, Bool.bne_false, Bool.bne_true, zbQ, zbR, zbS, zbT, zbU, zbV, zbW, zbX, zbY, zbZ, zca, zcb, zcc, zcd, zce, zcf, zcg, zch, zci, zcj, zck, zcl, zcm, zcn, zco, setAll, wipeR, setV, zcp, zcq, zcr, zcs, zct, zcu, zcv, zcw, zcx, zcy, zcz, zcA, zcB, zcC, List.any_cons, List.any_nil, List.map_cons, List.map_nil, List.length_cons, List.length_nil, List.replicate, Nat.sub_self, List.cons_append, List.nil_append, List.append_nil, List.getElem?_cons_zero, List.getElem?_cons_succ, List.set_cons_zero, List.set_cons_succ, List.set_nil, zcD, zcE, zcF, zcG, zcH, zcI, zcJ, zcK, zcL, zcM, zcN, zcO, zcP, zcQ, zcR, zcS, zcT, zcU, zcV, zcW, zcX, zcY, zcZ, zda, zdb, zdc, zdd, zde, zdf, zdg, zdh, zdi, zdj, zdk, zdl, zdm, zdn, zdo, zdp, zdq, zdr, zds, zdt, zdu, zdv, zdw, zdx, zdy, zdz, zdA, zdB, zdC, zdD, zdE, zdF, zdG, b4_grown_r]
      refine ⟨cm (by omega), ?_⟩
      have hs : SizeOk ((2 * T.length : Nat) : Int) := by
        have h64 : growOf gr 64 ≥ 32 := by unfold growOf; rcases hg with rfl | rfl | rfl <;> decide
        rcases o.size with z | z | z | z | z
        · exact .inr (.inl (by omega))
        · exact .inr (.inr (.inl (by omega)))
        · exact .inr (.inr (.inr (.inl (by omega))))
        · exact .inr (.inr (.inr (.inr (by omega))))
        · rw [z] at e2
          omega
      have e3 : 2 * (T.length : Int) = ((2 * T.length : Nat) : Int) := by omega
      rw [e3]
      show m_laid_anew [slotsW h st c g gr, _, _] _ _
      exact anew_slots hs hT (by omega) q
theorem grown_rows {h c o : String} {ks : List Int} {R : List (List Int)} (k : OkR h o ks R) (ho : OneOk o) (hk : ks.length ≤ 30) (q : Q (tabD (.r (grownR h c o R)))) : m_grown [rowsW h c o, tabD (.r R)] Q E := by
  obtain ⟨hn0, hn1⟩ := small k.hm.size
  have hl := many_lt ho k.hm.size
  have ht := k.total
  unfold grownR at q
  rw [tabD_r]
  simp only [m_grown_r, b1_grown_r, zaa, zab, zac, zad, zae, zaf, zag, zah, zai, zaj, zak, zal, zam, zan, zao, zap, zaq, zar, zas, zat, zau, zav, zaw, zax, zay, zaz, zaA, zaB, zaC, zaD, zaE, zaF, zaG, zaH, zaI, zaJ, zaK, zaL, zaM, zaN, zaO, zaP, zaQ, zaR, zaS, zaT, zaU, zaV, startE, full, fullE, clean, cleanE, zaW, zaX, zaY, zaZ, zba, zbb, zbc, zbd, zbe, zbf, zbg, zbh, zbi, zbj, zbk, zbl, zbm, zbn, zbo, zbp, zbq, zbr, zbs, zbt, zbu, zbv, zbw, zbx, zby, zbz, zbA, zbB, zbC, zbD, zbE, zbF, zbG, zbH, zbI, zbJ, zbK, zbL, zbM, zbN, zbO, zbP, Bool.bne_false, Bool.bne_true, zbQ, zbR, zbS, zbT, zbU, zbV, zbW, zbX, zbY, zbZ, zca, zcb, zcc, zcd, zce, zcf, zcg, zch, zci, zcj, zck, zcl, zcm, zcn, zco, setAll, wipeR, setV, zcp, zcq, zcr, zcs, zct, zcu, zcv, zcw, zcx, zcy, zcz, zcA, zcB, zcC, List.any_cons, List.any_nil, List.map_cons, List.map_nil, List.length_cons, List.length_nil, List.replicate, Nat.sub_self, List.cons_append, List.nil_append, List.append_nil, List.getElem?_cons_zero, List.getElem?_cons_succ, List.set_cons_zero, List.set_cons_succ, List.set_nil, zcD, zcE, zcF, zcG, zcH, zcI, zcJ, zcK, zcL, zcM, zcN, zcO, zcP, zcQ, zcR, zcS, zcT, zcU, zcV, zcW, zcX, zcY, zcZ, zda, zdb, zdc, zdd, zde, zdf, zdg, zdh, zdi, zdj, zdk, zdl, zdm, zdn, zdo, zdp, zdq, zdr, zds, zdt, zdu, zdv, zdw, zdx, zdy, zdz, zdA, zdB, zdC, zdD, zdE, zdF, zdG, List.length_map]
  rw [← tabD_r]
  refine used_rows (by omega) ?_
  simp only [zaa, zab, zac, zad, zae, zaf, zag, zah, zai, zaj, zak, zal, zam, zan, zao, zap, zaq, zar, zas, zat, zau, zav, zaw, zax, zay, zaz, zaA, zaB, zaC, zaD, zaE, zaF, zaG, zaH, zaI, zaJ, zaK, zaL, zaM, zaN, zaO, zaP, zaQ, zaR, zaS, zaT, zaU, zaV, startE, full, fullE, clean, cleanE, zaW, zaX, zaY, zaZ, zba, zbb, zbc, zbd, zbe, zbf, zbg, zbh, zbi, zbj, zbk, zbl, zbm, zbn, zbo, zbp, zbq, zbr, zbs, zbt, zbu, zbv, zbw, zbx, zby, zbz, zbA, zbB, zbC, zbD, zbE, zbF, zbG, zbH, zbI, zbJ, zbK, zbL, zbM, zbN, zbO, zbP, Bool.bne_false, Bool.bne_true, zbQ, zbR, zbS, zbT, zbU, zbV, zbW, zbX, zbY, zbZ, zca, zcb, zcc, zcd, zce, zcf, zcg, zch, zci, zcj, zck, zcl, zcm, zcn, zco, setAll, wipeR, setV, zcp, zcq, zcr, zcs, zct, zcu, zcv, zcw, zcx, zcy, zcz, zcA, zcB, zcC, List.any_cons, List.any_nil, List.map_cons, List.map_nil, List.length_cons, List.length_nil, List.replicate, Nat.sub_self, List.cons_append, List.nil_append, List.append_nil, List.getElem?_cons_zero, List.getElem?_cons_succ, List.set_cons_zero, List.set_cons_succ, List.set_nil, zcD, zcE, zcF, zcG, zcH, zcI, zcJ, zcK, zcL, zcM, zcN, zcO, zcP, zcQ, zcR, zcS, zcT, zcU, zcV, zcW, zcX, zcY, zcZ, zda, zdb, zdc, zdd, zde, zdf, zdg, zdh, zdi, zdj, zdk, zdl, zdm, zdn, zdo, zdp, zdq, zdr, zds, zdt, zdu, zdv, zdw, zdx, zdy, zdz, zdA, zdB, zdC, zdD, zdE, zdF, zdG]
  refine bound_rows k.hm.size ?_
  simp only [zaa, zab, zac, zad, zae, zaf, zag, zah, zai, zaj, zak, zal, zam, zan, zao, zap, zaq, zar, zas, zat, zau, zav, zaw, zax, zay, zaz, zaA, zaB, zaC, zaD, zaE, zaF, zaG, zaH, zaI, zaJ, zaK, zaL, zaM, zaN, zaO, zaP, zaQ, zaR, zaS, zaT, zaU, zaV, startE, full, fullE, clean, cleanE, zaW, zaX, zaY, zaZ, zba, zbb, zbc, zbd, zbe, zbf, zbg, zbh, zbi, zbj, zbk, zbl, zbm, zbn, zbo, zbp, zbq, zbr, zbs, zbt, zbu, zbv, zbw, zbx, zby, zbz, zbA, zbB, zbC, zbD, zbE, zbF, zbG, zbH, zbI, zbJ, zbK, zbL, zbM, zbN, zbO, zbP, Bool.bne_false, Bool.bne_true, zbQ, zbR, zbS, zbT, zbU, zbV, zbW, zbX, zbY, zbZ, zca, zcb, zcc, zcd, zce, zcf, zcg, zch, zci, zcj, zck, zcl, zcm, zcn, zco, setAll, wipeR, setV, zcp, zcq, zcr, zcs, zct, zcu, zcv, zcw, zcx, zcy, zcz, zcA, zcB, zcC, List.any_cons, List.any_nil, List.map_cons, List.map_nil, List.length_cons, List.length_nil, List.replicate, Nat.sub_self, List.cons_append, List.nil_append, List.append_nil, List.getElem?_cons_zero, List.getElem?_cons_succ, List.set_cons_zero, List.set_cons_succ, List.set_nil, zcD, zcE, zcF, zcG, zcH, zcI, zcJ, zcK, zcL, zcM, zcN, zcO, zcP, zcQ, zcR, zcS, zcT, zcU, zcV, zcW, zcX, zcY, zcZ, zda, zdb, zdc, zdd, zde, zdf, zdg, zdh, zdi, zdj, zdk, zdl, zdm, zdn, zdo, zdp, zdq, zdr, zds, zdt, zdu, zdv, zdw, zdx, zdy, zdz, zdA, zdB, zdC, zdD, zdE, zdF, zdG]
  by_cases e1 : (R.flatten.length : Int) + 1 ≤ manyOf o R.length
  · rw [if_pos e1] at q
    simp only [decide_eq_true e1, reduceIte, Bool.false_eq_true, decide_true, decide_false, Bool.not_true, Bool.not_false, true_and, and_true, decide_not, Bool.true_bne, Bool.false_bne, Bool.not_not, zaa, zab, zac, zad, zae, zaf, zag, zah, zai, zaj, zak, zal, zam, zan, zao, zap, zaq, zar, zas, zat, zau, zav, zaw, zax, zay, zaz, zaA, zaB, zaC, zaD, zaE, zaF, zaG, zaH, zaI, zaJ, zaK, zaL, zaM, zaN, zaO, zaP, zaQ, zaR, zaS, zaT, zaU, zaV, startE, full, fullE, clean, cleanE, zaW, zaX, zaY, zaZ, zba, zbb, zbc, zbd, zbe, zbf, zbg, zbh, zbi, zbj, zbk, zbl, zbm, zbn, zbo, zbp, zbq, zbr, zbs, zbt, zbu, zbv, zbw, zbx, zby, zbz, zbA, zbB, zbC, zbD, zbE, zbF, zbG, zbH, zbI, zbJ, zbK, zbL, zbM, zbN, zbO, zbP, Bool.bne_false, Bool.bne_true, zbQ, zbR, zbS, zbT, zbU, zbV, zbW, zbX, zbY, zbZ, zca, zcb, zcc, zcd, zce, zcf, zcg, zch, zci, zcj, zck, zcl, zcm, zcn, zco, setAll, wipeR, setV, zcp, zcq, zcr, zcs, zct, zcu, zcv, zcw, zcx, zcy, zcz, zcA, zcB, zcC, List.any_cons, List.any_nil, List.map_cons, List.map_nil, List.length_cons, List.length_nil, List.replicate, Nat.sub_self, List.cons_append, List.nil_append, List.append_nil, List.getElem?_cons_zero, List.getElem?_cons_succ, List.set_cons_zero, List.set_cons_succ, List.set_nil, zcD, zcE, zcF, zcG, zcH, zcI, zcJ, zcK, zcL, zcM, zcN, zcO, zcP, zcQ, zcR, zcS, zcT, zcU, zcV, zcW, zcX, zcY, zcZ, zda, zdb, zdc, zdd, zde, zdf, zdg, zdh, zdi, zdj, zdk, zdl, zdm, zdn, zdo, zdp, zdq, zdr, zds, zdt, zdu, zdv, zdw, zdx, zdy, zdz, zdA, zdB, zdC, zdD, zdE, zdF, zdG]
    exact q
  · rw [if_neg e1] at q
    simp only [decide_eq_false e1, reduceIte, Bool.false_eq_true, decide_true, decide_false, Bool.not_true, Bool.not_false, true_and, and_true, decide_not, Bool.true_bne, Bool.false_bne, Bool.not_not, zaa, zab, zac, zad, zae, zaf, zag, zah, zai, zaj, zak, zal, zam, zan, zao, zap, zaq, zar, zas, zat, zau, zav, zaw, zax, zay, zaz, zaA, zaB, zaC, zaD, zaE, zaF, zaG, zaH, zaI, zaJ, zaK, zaL, zaM, zaN, zaO, zaP, zaQ, zaR, zaS, zaT, zaU, zaV, startE, full, fullE, clean, cleanE, zaW, zaX, zaY, zaZ, zba, zbb, zbc, zbd, zbe, zbf, zbg, zbh, zbi, zbj, zbk, zbl, zbm, zbn, zbo, zbp, zbq, zbr, zbs, zbt, zbu, zbv, zbw, zbx, zby, zbz, zbA, zbB, zbC, zbD, zbE, zbF, zbG, zbH, zbI, zbJ, zbK, zbL, zbM, zbN, zbO, zbP, Bool.bne_false, Bool.bne_true, zbQ, zbR, zbS, zbT, zbU, zbV, zbW, zbX, zbY, zbZ, zca, zcb, zcc, zcd, zce, zcf, zcg, zch, zci, zcj, zck, zcl, zcm, zcn, zco, setAll, wipeR, setV, zcp, zcq, zcr, zcs, zct, zcu, zcv, zcw, zcx, zcy, zcz, zcA, zcB, zcC, List.any_cons, List.any_nil, List.map_cons, List.map_nil, List.length_cons, List.length_nil, List.replicate, Nat.sub_self, List.cons_append, List.nil_append, List.append_nil, List.getElem?_cons_zero, List.getElem?_cons_succ, List.set_cons_zero, List.set_cons_succ, List.set_nil, zcD, zcE, zcF, zcG, zcH, zcI, zcJ, zcK, zcL, zcM, zcN, zcO, zcP, zcQ, zcR, zcS, zcT, zcU, zcV, zcW, zcX, zcY, zcZ, zda, zdb, zdc, zdd, zde, zdf, zdg, zdh, zdi, zdj, zdk, zdl, zdm, zdn, zdo, zdp, zdq, zdr, zds, zdt, zdu, zdv, zdw, zdx, zdy, zdz, zdA, zdB, zdC, zdD, zdE, zdF, zdG, b3_grown_r]
    simp only [rowsW, zaa, zab, zac, zad, zae, zaf, zag, zah, zai, zaj, zak, zal, zam, zan, zao, zap, zaq, zar, zas, zat, zau, zav, zaw, zax, zay, zaz, zaA, zaB, zaC, zaD, zaE, zaF, zaG, zaH, zaI, zaJ, zaK, zaL, zaM, zaN, zaO, zaP, zaQ, zaR, zaS, zaT, zaU, zaV, startE, full, fullE, clean, cleanE, zaW, zaX, zaY, zaZ, zba, zbb, zbc, zbd, zbe, zbf, zbg, zbh, zbi, zbj, zbk, zbl, zbm, zbn, zbo, zbp, zbq, zbr, zbs, zbt, zbu, zbv, zbw, zbx, zby, zbz, zbA, zbB, zbC, zbD, zbE, zbF, zbG, zbH, zbI, zbJ, zbK, zbL, zbM, zbN, zbO, zbP, Bool.bne_false, Bool.bne_true, zbQ, zbR, zbS, zbT, zbU, zbV, zbW, zbX, zbY, zbZ, zca, zcb, zcc, zcd, zce, zcf, zcg, zch, zci, zcj, zck, zcl, zcm, zcn, zco, setAll, wipeR, setV, zcp, zcq, zcr, zcs, zct, zcu, zcv, zcw, zcx, zcy, zcz, zcA, zcB, zcC, List.any_cons, List.any_nil, List.map_cons, List.map_nil, List.length_cons, List.length_nil, List.replicate, Nat.sub_self, List.cons_append, List.nil_append, List.append_nil, List.getElem?_cons_zero, List.getElem?_cons_succ, List.set_cons_zero, List.set_cons_succ, List.set_nil, zcD, zcE, zcF, zcG, zcH, zcI, zcJ, zcK, zcL, zcM, zcN, zcO, zcP, zcQ, zcR, zcS, zcT, zcU, zcV, zcW, zcX, zcY, zcZ, zda, zdb, zdc, zdd, zde, zdf, zdg, zdh, zdi, zdj, zdk, zdl, zdm, zdn, zdo, zdp, zdq, zdr, zds, zdt, zdu, zdv, zdw, zdx, zdy, zdz, zdA, zdB, zdC, zdD, zdE, zdF, zdG, reduceIte, Bool.false_eq_true, decide_true, decide_false, Bool.not_true, Bool.not_false, true_and, and_true, decide_not, Bool.true_bne, Bool.false_bne, Bool.not_not]
    simp [zaa, zab, zac, zad, zae, zaf, zag, zah, zai, zaj, zak, zal, zam, zan, zao, zap, zaq, zar, zas, zat, zau, zav, zaw, zax, zay, zaz, zaA, zaB, zaC, zaD, zaE, zaF, zaG, zaH, zaI, zaJ, zaK, zaL, zaM, zaN, zaO, zaP, zaQ, zaR, zaS, zaT, zaU, zaV, startE, full, fullE, clean, cleanE, zaW, zaX, zaY, zaZ, zba, zbb, zbc, zbd, zbe, zbf, zbg, zbh, zbi, zbj, zbk, zbl, zbm, zbn, zbo, zbp, zbq, zbr, zbs, zbt, zbu, zbv, zbw, zbx, zby, zbz, zbA, zbB, zbC, zbD, zbE, zbF, zbG, zbH, zbI, zbJ, zbK, zbL, zbM, zbN, zbO, zbP, Bool.bne_false, Bool.bne_true, zbQ, zbR, zbS, zbT, zbU, zbV, zbW, zbX, zbY, zbZ, zca, zcb, zcc, zcd, zce, zcf, zcg, zch, zci, zcj, zck, zcl, zcm, zcn, zco, setAll, wipeR, setV, zcp, zcq, zcr, zcs, zct, zcu, zcv, zcw, zcx, zcy, zcz, zcA, zcB, zcC, List.any_cons, List.any_nil, List.map_cons, List.map_nil, List.length_cons, List.length_nil, List.replicate, Nat.sub_self, List.cons_append, List.nil_append, List.append_nil, List.getElem?_cons_zero, List.getElem?_cons_succ, List.set_cons_zero, List.set_cons_succ, List.set_nil, zcD, zcE, zcF, zcG, zcH, zcI, zcJ, zcK, zcL, zcM, zcN, zcO, zcP, zcQ, zcR, zcS, zcT, zcU, zcV, zcW, zcX, zcY, zcZ, zda, zdb, zdc, zdd, zde, zdf, zdg, zdh, zdi, zdj, zdk, zdl, zdm, zdn, zdo, zdp, zdq, zdr, zds, zdt, zdu, zdv, zdw, zdx, zdy, zdz, zdA, zdB, zdC, zdD, zdE, zdF, zdG]
    simp only [b4_grown_r, zaa, zab, zac, zad, zae, zaf, zag, zah, zai, zaj, zak, zal, zam, zan, zao, zap, zaq, zar, zas, zat, zau, zav, zaw, zax, zay, zaz, zaA, zaB, zaC, zaD, zaE, zaF, zaG, zaH, zaI, zaJ, zaK, zaL, zaM, zaN, zaO, zaP, zaQ, zaR, zaS, zaT, zaU, zaV, startE, full, fullE, clean, cleanE, zaW, zaX, zaY, zaZ, zba, zbb, zbc, zbd, zbe, zbf, zbg, zbh, zbi, zbj, zbk, zbl, zbm, zbn, zbo, zbp, zbq, zbr, zbs, zbt, zbu, zbv, zbw, zbx, zby, zbz, zbA, zbB, zbC, zbD, zbE, zbF, zbG, zbH, zbI, zbJ, zbK, zbL, zbM, zbN, zbO, zbP, Bool.bne_false, Bool.bne_true, zbQ, zbR, zbS, zbT, zbU, zbV, zbW, zbX, zbY, zbZ, zca, zcb, zcc, zcd, zce, zcf, zcg, zch, zci, zcj, zck, zcl, zcm, zcn, zco, setAll, wipeR, setV, zcp, zcq, zcr, zcs, zct, zcu, zcv, zcw, zcx, zcy, zcz, zcA, zcB, zcC, List.any_cons, List.any_nil, List.map_cons, List.map_nil, List.length_cons, List.length_nil, List.replicate, Nat.sub_self, List.cons_append, List.nil_append, List.append_nil, List.getElem?_cons_zero, List.getElem?_cons_succ, List.set_cons_zero, List.set_cons_succ, List.set_nil, zcD, zcE, zcF, zcG, zcH, zcI, zcJ, zcK, zcL, zcM, zcN, zcO, zcP, zcQ, zcR, zcS, zcT, zcU, zcV, zcW, zcX, zcY, zcZ, zda, zdb, zdc, zdd, zde, zdf, zdg, zdh, zdi, zdj, zdk, zdl, zdm, zdn, zdo, zdp, zdq, zdr, zds, zdt, zdu, zdv, zdw, zdx, zdy, zdz, zdA, zdB, zdC, zdD, zdE, zdF, zdG]
    refine ⟨cm (by omega), ?_⟩
    have hs : SizeOk ((2 * R.length : Nat) : Int) := by
      rcases k.hm.size with z | z | z | z | z
      · exact .inr (.inl (by omega))
      · exact .inr (.inr (.inl (by omega)))
      · exact .inr (.inr (.inr (.inl (by omega))))
      · exact .inr (.inr (.inr (.inr (by omega))))
      · rw [z] at hl e1
        omega
    have e3 : 2 * (R.length : Int) = ((2 * R.length : Nat) : Int) := by omega
    rw [e3]
    show m_laid_anew [rowsW h c o, tabD (.r R), _] _ _
    exact anew_rows hs (by omega) q
/-! ### a deed -/
def kindS : Deed3 → String
  | .ask => "ask"
  | .put => "put"
  | .take => "take"
abbrev deedD (kd : Deed3) (k : Int) : D := .tuple [.str (Str.ofString (kindS kd)), .int k]
theorem found_ok {w : Way} {ks : List Int} {t : Tab} {k : Int} (o : Ok w ks t) (hl : ks.length ≤ 30) (q : Q (.tuple [optD (found w t k).1, .int (found w t k).2])) : m_found_at [wayD w, tabD t, .int k] Q E := by
  cases w with
  | r h c oo =>
    cases t with
    | s T => exact o.elim
    | r R =>
      have o' : OkR h oo ks R := o
      have := o'.total
      exact found_rows o'.hm.size (fun r hr => by have := row_le hr; omega) q
  | s h st c g gr =>
    cases t with
    | r R => exact o.elim
    | s T =>
      have o' : OkS gr ks T := o
      exact found_slots o'.size q
theorem put_ok {w : Way} {ks : List Int} {t : Tab} {k : Int} (hw : w.Ok) (o : Ok w ks t) (hl : ks.length ≤ 30) (q : Q (tabD (placed w (grown w t) k))) : m_grown [wayD w, tabD t] (fun d => m_placed [wayD w, d, .int k] Q E) E := by
  cases w with
  | r h c oo =>
    cases t with
    | s T => exact o.elim
    | r R =>
      have o' : OkR h oo ks R := o
      obtain ⟨g1, g2, g3⟩ := o'.grown (c := c) hw.2.2 hl
      refine grown_rows o' hw.2.2 hl ?_
      have := g1.total
      exact placed_rows g1.hm.size (fun r hr => by have := row_le hr; omega) q
  | s h st c g gr =>
    cases t with
    | r R => exact o.elim
    | s T =>
      have o' : OkS gr ks T := o
      obtain ⟨g1, g2⟩ := o'.grown (h := h) (st := st) (c := c) hw.2.2.2.2.1 hl
      have := grow_lt hw.2.2.2.2.1 g1.size
      refine grown_slots o' hw.2.2.2.2.1 hl ?_
      exact placed_slots g1.size (by omega) q
theorem take_ok {w : Way} {ks : List Int} {t : Tab} {k s : Int} (hw : w.Ok) (o : Ok w ks t) (hl : ks.length ≤ 30) (hf : (found w t k).1 = some s) (q : Q (tabD (removed w t s k))) : m_removed [wayD w, tabD t, .int s, .int k] Q E := by
  cases w with
  | r h c oo =>
    cases t with
    | s T => exact o.elim
    | r R =>
      have o' : OkR h oo ks R := o
      obtain ⟨h0, h1⟩ := home_rng (h := h) (k := k) o'.hm.size
      have := o'.total
      have e : s = homeOf h k R.length := by
        simp only [found] at hf
        split at hf
        · cases hf
          rfl
        · cases hf
      subst e
      exact removed_rows o'.hm.size (by omega) h0 h1 q
  | s h st c g gr =>
    cases t with
    | r R => exact o.elim
    | s T =>
      have o' : OkS gr ks T := o
      obtain ⟨z1, z2, z3⟩ := (seek_spec T k (pathOf h st k T.length) 0).1 s hf
      obtain ⟨s0, s1⟩ := (path_mem o'.size).mp z1
      exact removed_slots o' hw.2.2.2.2.1 s0 s1 z3 q
theorem done_ok {w : Way} {ks : List Int} {t : Tab} {kd : Deed3} {k : Int} (hw : w.Ok) (o : Ok w ks t) (hl : ks.length ≤ 30) (q : Q (.tuple [tabD (done w t kd k), .bool ((found w t k).1.isSome), .int (found w t k).2])) : m_done [wayD w, tabD t, deedD kd k] Q E := by
  simp only [m_done_r, b1_done_r, zaa, zab, zac, zad, zae, zaf, zag, zah, zai, zaj, zak, zal, zam, zan, zao, zap, zaq, zar, zas, zat, zau, zav, zaw, zax, zay, zaz, zaA, zaB, zaC, zaD, zaE, zaF, zaG, zaH, zaI, zaJ, zaK, zaL, zaM, zaN, zaO, zaP, zaQ, zaR, zaS, zaT, zaU, zaV, startE, full, fullE, clean, cleanE, zaW, zaX, zaY, zaZ, zba, zbb, zbc, zbd, zbe, zbf, zbg, zbh, zbi, zbj, zbk, zbl, zbm, zbn, zbo, zbp, zbq, zbr, zbs, zbt, zbu, zbv, zbw, zbx, zby, zbz, zbA, zbB, zbC, zbD, zbE, zbF, zbG, zbH, zbI, zbJ, zbK, zbL, zbM, zbN, zbO, zbP, Bool.bne_false, Bool.bne_true, zbQ, zbR, zbS, zbT, zbU, zbV, zbW, zbX, zbY, zbZ, zca, zcb, zcc, zcd, zce, zcf, zcg, zch, zci, zcj, zck, zcl, zcm, zcn, zco, setAll, wipeR, setV, zcp, zcq, zcr, zcs, zct, zcu, zcv, zcw, zcx, zcy, zcz, zcA, zcB, zcC, List.any_cons, List.any_nil, List.map_cons, List.map_nil, List.length_cons, List.length_nil, List.replicate, Nat.sub_self, List.cons_append, List.nil_append, List.append_nil, List.getElem?_cons_zero, List.getElem?_cons_succ, List.set_cons_zero, List.set_cons_succ, List.set_nil, zcD, zcE, zcF, zcG, zcH, zcI, zcJ, zcK, zcL, zcM, zcN, zcO, zcP, zcQ, zcR, zcS, zcT, zcU, zcV, zcW, zcX, zcY, zcZ, zda, zdb, zdc, zdd, zde, zdf, zdg, zdh, zdi, zdj, zdk, zdl, zdm, zdn, zdo, zdp, zdq, zdr, zds, zdt, zdu, zdv, zdw, zdx, zdy, zdz, zdA, zdB, zdC, zdD, zdE, zdF, zdG]
  refine found_ok o hl ?_
  simp only [zaa, zab, zac, zad, zae, zaf, zag, zah, zai, zaj, zak, zal, zam, zan, zao, zap, zaq, zar, zas, zat, zau, zav, zaw, zax, zay, zaz, zaA, zaB, zaC, zaD, zaE, zaF, zaG, zaH, zaI, zaJ, zaK, zaL, zaM, zaN, zaO, zaP, zaQ, zaR, zaS, zaT, zaU, zaV, startE, full, fullE, clean, cleanE, zaW, zaX, zaY, zaZ, zba, zbb, zbc, zbd, zbe, zbf, zbg, zbh, zbi, zbj, zbk, zbl, zbm, zbn, zbo, zbp, zbq, zbr, zbs, zbt, zbu, zbv, zbw, zbx, zby, zbz, zbA, zbB, zbC, zbD, zbE, zbF, zbG, zbH, zbI, zbJ, zbK, zbL, zbM, zbN, zbO, zbP, Bool.bne_false, Bool.bne_true, zbQ, zbR, zbS, zbT, zbU, zbV, zbW, zbX, zbY, zbZ, zca, zcb, zcc, zcd, zce, zcf, zcg, zch, zci, zcj, zck, zcl, zcm, zcn, zco, setAll, wipeR, setV, zcp, zcq, zcr, zcs, zct, zcu, zcv, zcw, zcx, zcy, zcz, zcA, zcB, zcC, List.any_cons, List.any_nil, List.map_cons, List.map_nil, List.length_cons, List.length_nil, List.replicate, Nat.sub_self, List.cons_append, List.nil_append, List.append_nil, List.getElem?_cons_zero, List.getElem?_cons_succ, List.set_cons_zero, List.set_cons_succ, List.set_nil, zcD, zcE, zcF, zcG, zcH, zcI, zcJ, zcK, zcL, zcM, zcN, zcO, zcP, zcQ, zcR, zcS, zcT, zcU, zcV, zcW, zcX, zcY, zcZ, zda, zdb, zdc, zdd, zde, zdf, zdg, zdh, zdi, zdj, zdk, zdl, zdm, zdn, zdo, zdp, zdq, zdr, zds, zdt, zdu, zdv, zdw, zdx, zdy, zdz, zdA, zdB, zdC, zdD, zdE, zdF, zdG]
  unfold done at q
  have fin : ∀ t', Q (.tuple [tabD t', .bool ((found w t k).1.isSome), .int (found w t k).2]) → b6_done [some (.val (wayD w)), some (.val (tabD t')), some (.val (deedD kd k)), some (.val (.str (Str.ofString (kindS kd)))), some (.val (.int k)), some (.val (optD (found w t k).1)), some (.val (.int (found w t k).2))] { nx := fun _ => Q .none, rt := Q } := by
    intro t' q'
    simp only [b6_done_r, zaa, zab, zac, zad, zae, zaf, zag, zah, zai, zaj, zak, zal, zam, zan, zao, zap, zaq, zar, zas, zat, zau, zav, zaw, zax, zay, zaz, zaA, zaB, zaC, zaD, zaE, zaF, zaG, zaH, zaI, zaJ, zaK, zaL, zaM, zaN, zaO, zaP, zaQ, zaR, zaS, zaT, zaU, zaV, startE, full, fullE, clean, cleanE, zaW, zaX, zaY, zaZ, zba, zbb, zbc, zbd, zbe, zbf, zbg, zbh, zbi, zbj, zbk, zbl, zbm, zbn, zbo, zbp, zbq, zbr, zbs, zbt, zbu, zbv, zbw, zbx, zby, zbz, zbA, zbB, zbC, zbD, zbE, zbF, zbG, zbH, zbI, zbJ, zbK, zbL, zbM, zbN, zbO, zbP, Bool.bne_false, Bool.bne_true, zbQ, zbR, zbS, zbT, zbU, zbV, zbW, zbX, zbY, zbZ, zca, zcb, zcc, zcd, zce, zcf, zcg, zch, zci, zcj, zck, zcl, zcm, zcn, zco, setAll, wipeR, setV, zcp, zcq, zcr, zcs, zct, zcu, zcv, zcw, zcx, zcy, zcz, zcA, zcB, zcC, List.any_cons, List.any_nil, List.map_cons, List.map_nil, List.length_cons, List.length_nil, List.replicate, Nat.sub_self, List.cons_append, List.nil_append, List.append_nil, List.getElem?_cons_zero, List.getElem?_cons_succ, List.set_cons_zero, List.set_cons_succ, List.set_nil, zcD, zcE, zcF, zcG, zcH, zcI, zcJ, zcK, zcL, zcM, zcN, zcO, zcP, zcQ, zcR, zcS, zcT, zcU, zcV, zcW, zcX, zcY, zcZ, zda, zdb, zdc, zdd, zde, zdf, zdg, zdh, zdi, zdj, zdk, zdl, zdm, zdn, zdo, zdp, zdq, zdr, zds, zdt, zdu, zdv, zdw, zdx, zdy, zdz, zdA, zdB, zdC, zdD, zdE, zdF, zdG]
    cases e : (found w t k).1 with
    | none =>
      rw [e] at q'
      simp only [optD, zaa, zab, zac, zad, zae, zaf, zag, zah, zai, zaj, zak, zal, zam, zan, zao, zap, zaq, zar, zas, zat, zau, zav, zaw, zax, zay, zaz, zaA, zaB, zaC, zaD, zaE, zaF, zaG, zaH, zaI, zaJ, zaK, zaL, zaM, zaN, zaO, zaP, zaQ, zaR, zaS, zaT, zaU, zaV, startE, full, fullE, clean, cleanE, zaW, zaX, zaY, zaZ, zba, zbb, zbc, zbd, zbe, zbf, zbg, zbh, zbi, zbj, zbk, zbl, zbm, zbn, zbo, zbp, zbq, zbr, zbs, zbt, zbu, zbv, zbw, zbx, zby, zbz, zbA, zbB, zbC, zbD, zbE, zbF, zbG, zbH, zbI, zbJ, zbK, zbL, zbM, zbN, zbO, zbP, Bool.bne_false, Bool.bne_true, zbQ, zbR, zbS, zbT, zbU, zbV, zbW, zbX, zbY, zbZ, zca, zcb, zcc, zcd, zce, zcf, zcg, zch, zci, zcj, zck, zcl, zcm, zcn, zco, setAll, wipeR, setV, zcp, zcq, zcr, zcs, zct, zcu, zcv, zcw, zcx, zcy, zcz, zcA, zcB, zcC, List.any_cons, List.any_nil, List.map_cons, List.map_nil, List.length_cons, List.length_nil, List.replicate, Nat.sub_self, List.cons_append, List.nil_append, List.append_nil, List.getElem?_cons_zero, List.getElem?_cons_succ, List.set_cons_zero, List.set_cons_succ, List.set_nil, zcD, zcE, zcF, zcG, zcH, zcI, zcJ, zcK, zcL, zcM, zcN, zcO, zcP, zcQ, zcR, zcS, zcT, zcU, zcV, zcW, zcX, zcY, zcZ, zda, zdb, zdc, zdd, zde, zdf, zdg, zdh, zdi, zdj, zdk, zdl, zdm, zdn, zdo, zdp, zdq, zdr, zds, zdt, zdu, zdv, zdw, zdx, zdy, zdz, zdA, zdB, zdC, zdD, zdE, zdF, zdG]
      exact ⟨by decide, q'⟩
    | some s =>
      rw [e] at q'
      simp only [optD, zaa, zab, zac, zad, zae, zaf, zag, zah, zai, zaj, zak, zal, zam, zan, zao, zap, zaq, zar, zas, zat, zau, zav, zaw, zax, zay, zaz, zaA, zaB, zaC, zaD, zaE, zaF, zaG, zaH, zaI, zaJ, zaK, zaL, zaM, zaN, zaO, zaP, zaQ, zaR, zaS, zaT, zaU, zaV, startE, full, fullE, clean, cleanE, zaW, zaX, zaY, zaZ, zba, zbb, zbc, zbd, zbe, zbf, zbg, zbh, zbi, zbj, zbk, zbl, zbm, zbn, zbo, zbp, zbq, zbr, zbs, zbt, zbu, zbv, zbw, zbx, zby, zbz, zbA, zbB, zbC, zbD, zbE, zbF, zbG, zbH, zbI, zbJ, zbK, zbL, zbM, zbN, zbO, zbP, Bool.bne_false, Bool.bne_true, zbQ, zbR, zbS, zbT, zbU, zbV, zbW, zbX, zbY, zbZ, zca, zcb, zcc, zcd, zce, zcf, zcg, zch, zci, zcj, zck, zcl, zcm, zcn, zco, setAll, wipeR, setV, zcp, zcq, zcr, zcs, zct, zcu, zcv, zcw, zcx, zcy, zcz, zcA, zcB, zcC, List.any_cons, List.any_nil, List.map_cons, List.map_nil, List.length_cons, List.length_nil, List.replicate, Nat.sub_self, List.cons_append, List.nil_append, List.append_nil, List.getElem?_cons_zero, List.getElem?_cons_succ, List.set_cons_zero, List.set_cons_succ, List.set_nil, zcD, zcE, zcF, zcG, zcH, zcI, zcJ, zcK, zcL, zcM, zcN, zcO, zcP, zcQ, zcR, zcS, zcT, zcU, zcV, zcW, zcX, zcY, zcZ, zda, zdb, zdc, zdd, zde, zdf, zdg, zdh, zdi, zdj, zdk, zdl, zdm, zdn, zdo, zdp, zdq, zdr, zds, zdt, zdu, zdv, zdw, zdx, zdy, zdz, zdA, zdB, zdC, zdD, zdE, zdF, zdG]
      exact ⟨by decide, q'⟩
  cases e : (found w t k).1 with
  | none =>
    rw [e] at q fin
    cases kd with
    | ask =>
      simp only [b3_done_r, b5_done_r, kindS, optD, zaa, zab, zac, zad, zae, zaf, zag, zah, zai, zaj, zak, zal, zam, zan, zao, zap, zaq, zar, zas, zat, zau, zav, zaw, zax, zay, zaz, zaA, zaB, zaC, zaD, zaE, zaF, zaG, zaH, zaI, zaJ, zaK, zaL, zaM, zaN, zaO, zaP, zaQ, zaR, zaS, zaT, zaU, zaV, startE, full, fullE, clean, cleanE, zaW, zaX, zaY, zaZ, zba, zbb, zbc, zbd, zbe, zbf, zbg, zbh, zbi, zbj, zbk, zbl, zbm, zbn, zbo, zbp, zbq, zbr, zbs, zbt, zbu, zbv, zbw, zbx, zby, zbz, zbA, zbB, zbC, zbD, zbE, zbF, zbG, zbH, zbI, zbJ, zbK, zbL, zbM, zbN, zbO, zbP, Bool.bne_false, Bool.bne_true, zbQ, zbR, zbS, zbT, zbU, zbV, zbW, zbX, zbY, zbZ, zca, zcb, zcc, zcd, zce, zcf, zcg, zch, zci, zcj, zck, zcl, zcm, zcn, zco, setAll, wipeR, setV, zcp, zcq, zcr, zcs, zct, zcu, zcv, zcw, zcx, zcy, zcz, zcA, zcB, zcC, List.any_cons, List.any_nil, List.map_cons, List.map_nil, List.length_cons, List.length_nil, List.replicate, Nat.sub_self, List.cons_append, List.nil_append, List.append_nil, List.getElem?_cons_zero, List.getElem?_cons_succ, List.set_cons_zero, List.set_cons_succ, List.set_nil, zcD, zcE, zcF, zcG, zcH, zcI, zcJ, zcK, zcL, zcM, zcN, zcO, zcP, zcQ, zcR, zcS, zcT, zcU, zcV, zcW, zcX, zcY, zcZ, zda, zdb, zdc, zdd, zde, zdf, zdg, zdh, zdi, zdj, zdk, zdl, zdm, zdn, zdo, zdp, zdq, zdr, zds, zdt, zdu, zdv, zdw, zdx, zdy, zdz, zdA, zdB, zdC, zdD, zdE, zdF, zdG]
      simp [zaa, zab, zac, zad, zae, zaf, zag, zah, zai, zaj, zak, zal, zam, zan, zao, zap, zaq, zar, zas, zat, zau, zav, zaw, zax, zay, zaz, zaA, zaB, zaC, zaD, zaE, zaF, zaG, zaH, zaI, zaJ, zaK, zaL, zaM, zaN, zaO, zaP, zaQ, zaR, zaS, zaT, zaU, zaV, startE, full, fullE, clean, cleanE, zaW, zaX, zaY, zaZ, zba, zbb, zbc, zbd, zbe, zbf, zbg, zbh, zbi, zbj, zbk, zbl, zbm, zbn, zbo, zbp, zbq, zbr, zbs, zbt, zbu, zbv, zbw, zbx, zby, zbz, zbA, zbB, zbC, zbD, zbE, zbF, zbG, zbH, zbI, zbJ, zbK, zbL, zbM, zbN, zbO, zbP, Bool.bne_false, Bool.bne_true, zbQ, zbR, zbS, zbT, zbU, zbV, zbW, zbX, zbY, zbZ, zca, zcb, zcc, zcd, zce, zcf, zcg, zch, zci, zcj, zck, zcl, zcm, zcn, zco, setAll, wipeR, setV, zcp, zcq, zcr, zcs, zct, zcu, zcv, zcw, zcx, zcy, zcz, zcA, zcB, zcC, List.any_cons, List.any_nil, List.map_cons, List.map_nil, List.length_cons, List.length_nil, List.replicate, Nat.sub_self, List.cons_append, List.nil_append, List.append_nil, List.getElem?_cons_zero, List.getElem?_cons_succ, List.set_cons_zero, List.set_cons_succ, List.set_nil, zcD, zcE, zcF, zcG, zcH, zcI, zcJ, zcK, zcL, zcM, zcN, zcO, zcP, zcQ, zcR, zcS, zcT, zcU, zcV, zcW, zcX, zcY, zcZ, zda, zdb, zdc, zdd, zde, zdf, zdg, zdh, zdi, zdj, zdk, zdl, zdm, zdn, zdo, zdp, zdq, zdr, zds, zdt, zdu, zdv, zdw, zdx, zdy, zdz, zdA, zdB, zdC, zdD, zdE, zdF, zdG]
      exact fin t q
    | take =>
      simp only [b3_done_r, b5_done_r, kindS, optD, zaa, zab, zac, zad, zae, zaf, zag, zah, zai, zaj, zak, zal, zam, zan, zao, zap, zaq, zar, zas, zat, zau, zav, zaw, zax, zay, zaz, zaA, zaB, zaC, zaD, zaE, zaF, zaG, zaH, zaI, zaJ, zaK, zaL, zaM, zaN, zaO, zaP, zaQ, zaR, zaS, zaT, zaU, zaV, startE, full, fullE, clean, cleanE, zaW, zaX, zaY, zaZ, zba, zbb, zbc, zbd, zbe, zbf, zbg, zbh, zbi, zbj, zbk, zbl, zbm, zbn, zbo, zbp, zbq, zbr, zbs, zbt, zbu, zbv, zbw, zbx, zby, zbz, zbA, zbB, zbC, zbD, zbE, zbF, zbG, zbH, zbI, zbJ, zbK, zbL, zbM, zbN, zbO, zbP, Bool.bne_false, Bool.bne_true, zbQ, zbR, zbS, zbT, zbU, zbV, zbW, zbX, zbY, zbZ, zca, zcb, zcc, zcd, zce, zcf, zcg, zch, zci, zcj, zck, zcl, zcm, zcn, zco, setAll, wipeR, setV, zcp, zcq, zcr, zcs, zct, zcu, zcv, zcw, zcx, zcy, zcz, zcA, zcB, zcC, List.any_cons, List.any_nil, List.map_cons, List.map_nil, List.length_cons, List.length_nil, List.replicate, Nat.sub_self, List.cons_append, List.nil_append, List.append_nil, List.getElem?_cons_zero, List.getElem?_cons_succ, List.set_cons_zero, List.set_cons_succ, List.set_nil, zcD, zcE, zcF, zcG, zcH, zcI, zcJ, zcK, zcL, zcM, zcN, zcO, zcP, zcQ, zcR, zcS, zcT, zcU, zcV, zcW, zcX, zcY, zcZ, zda, zdb, zdc, zdd, zde, zdf, zdg, zdh, zdi, zdj, zdk, zdl, zdm, zdn, zdo, zdp, zdq, zdr, zds, zdt, zdu, zdv, zdw, zdx, zdy, zdz, zdA, zdB, zdC, zdD, zdE, zdF, zdG]
      simp [zaa, zab, zac, zad, zae, zaf, zag, zah, zai, zaj, zak, zal, zam, zan, zao, zap, zaq, zar, zas, zat, zau, zav, zaw, zax, zay, zaz, zaA, zaB, zaC, zaD, zaE, zaF, zaG, zaH, zaI, zaJ, zaK, zaL, zaM, zaN, zaO, zaP, zaQ, zaR, zaS, zaT, zaU, zaV, startE, full, fullE, clean, cleanE, zaW, zaX, zaY, zaZ, zba, zbb, zbc, zbd, zbe, zbf, zbg, zbh, zbi, zbj, zbk, zbl, zbm, zbn, zbo, zbp, zbq, zbr, zbs, zbt, zbu, zbv, zbw, zbx, zby, zbz, zbA, zbB, zbC, zbD, zbE, zbF, zbG, zbH, zbI, zbJ, zbK, zbL, zbM, zbN, zbO, zbP, Bool.bne_false, Bool.bne_true, zbQ, zbR, zbS, zbT, zbU, zbV, zbW, zbX, zbY, zbZ, zca, zcb, zcc, zcd, zce, zcf, zcg, zch, zci, zcj, zck, zcl, zcm, zcn, zco, setAll, wipeR, setV, zcp, zcq, zcr, zcs, zct, zcu, zcv, zcw, zcx, zcy, zcz, zcA, zcB, zcC, List.any_cons, List.any_nil, List.map_cons, List.map_nil, List.length_cons, List.length_nil, List.replicate, Nat.sub_self, List.cons_append, List.nil_append, List.append_nil, List.getElem?_cons_zero, List.getElem?_cons_succ, List.set_cons_zero, List.set_cons_succ, List.set_nil, zcD, zcE, zcF, zcG, zcH, zcI, zcJ, zcK, zcL, zcM, zcN, zcO, zcP, zcQ, zcR, zcS, zcT, zcU, zcV, zcW, zcX, zcY, zcZ, zda, zdb, zdc, zdd, zde, zdf, zdg, zdh, zdi, zdj, zdk, zdl, zdm, zdn, zdo, zdp, zdq, zdr, zds, zdt, zdu, zdv, zdw, zdx, zdy, zdz, zdA, zdB, zdC, zdD, zdE, zdF, zdG]
      exact fin t q
    | put =>
      simp only [b3_done_r, kindS, optD, zaa, zab, zac, zad, zae, zaf, zag, zah, zai, zaj, zak, zal, zam, zan, zao, zap, zaq, zar, zas, zat, zau, zav, zaw, zax, zay, zaz, zaA, zaB, zaC, zaD, zaE, zaF, zaG, zaH, zaI, zaJ, zaK, zaL, zaM, zaN, zaO, zaP, zaQ, zaR, zaS, zaT, zaU, zaV, startE, full, fullE, clean, cleanE, zaW, zaX, zaY, zaZ, zba, zbb, zbc, zbd, zbe, zbf, zbg, zbh, zbi, zbj, zbk, zbl, zbm, zbn, zbo, zbp, zbq, zbr, zbs, zbt, zbu, zbv, zbw, zbx, zby, zbz, zbA, zbB, zbC, zbD, zbE, zbF, zbG, zbH, zbI, zbJ, zbK, zbL, zbM, zbN, zbO, zbP, Bool.bne_false, Bool.bne_true, zbQ, zbR, zbS, zbT, zbU, zbV, zbW, zbX, zbY, zbZ, zca, zcb, zcc, zcd, zce, zcf, zcg, zch, zci, zcj, zck, zcl, zcm, zcn, zco, setAll, wipeR, setV, zcp, zcq, zcr, zcs, zct, zcu, zcv, zcw, zcx, zcy, zcz, zcA, zcB, zcC, List.any_cons, List.any_nil, List.map_cons, List.map_nil, List.length_cons, List.length_nil, List.replicate, Nat.sub_self, List.cons_append, List.nil_append, List.append_nil, List.getElem?_cons_zero, List.getElem?_cons_succ, List.set_cons_zero, List.set_cons_succ, List.set_nil, zcD, zcE, zcF, zcG, zcH, zcI, zcJ, zcK, zcL, zcM, zcN, zcO, zcP, zcQ, zcR, zcS, zcT, zcU, zcV, zcW, zcX, zcY, zcZ, zda, zdb, zdc, zdd, zde, zdf, zdg, zdh, zdi, zdj, zdk, zdl, zdm, zdn, zdo, zdp, zdq, zdr, zds, zdt, zdu, zdv, zdw, zdx, zdy, zdz, zdA, zdB, zdC, zdD, zdE, zdF, zdG]
      simp [zaa, zab, zac, zad, zae, zaf, zag, zah, zai, zaj, zak, zal, zam, zan, zao, zap, zaq, zar, zas, zat, zau, zav, zaw, zax, zay, zaz, zaA, zaB, zaC, zaD, zaE, zaF, zaG, zaH, zaI, zaJ, zaK, zaL, zaM, zaN, zaO, zaP, zaQ, zaR, zaS, zaT, zaU, zaV, startE, full, fullE, clean, cleanE, zaW, zaX, zaY, zaZ, zba, zbb, zbc, zbd, zbe, zbf, zbg, zbh, zbi, zbj, zbk, zbl, zbm, zbn, zbo, zbp, zbq, zbr, zbs, zbt, zbu, zbv, zbw, zbx, zby, zbz, zbA, zbB, zbC, zbD, zbE, zbF, zbG, zbH, zbI, zbJ, zbK, zbL, zbM, zbN, zbO, zbP, Bool.bne_false, Bool.bne_true, zbQ, zbR, zbS, zbT, zbU, zbV, zbW, zbX, zbY, zbZ, zca, zcb, zcc, zcd, zce, zcf, zcg, zch, zci, zcj, zck, zcl, zcm, zcn, zco, setAll, wipeR, setV, zcp, zcq, zcr, zcs, zct, zcu, zcv, zcw, zcx, zcy, zcz, zcA, zcB, zcC, List.any_cons, List.any_nil, List.map_cons, List.map_nil, List.length_cons, List.length_nil, List.replicate, Nat.sub_self, List.cons_append, List.nil_append, List.append_nil, List.getElem?_cons_zero, List.getElem?_cons_succ, List.set_cons_zero, List.set_cons_succ, List.set_nil, zcD, zcE, zcF, zcG, zcH, zcI, zcJ, zcK, zcL, zcM, zcN, zcO, zcP, zcQ, zcR, zcS, zcT, zcU, zcV, zcW, zcX, zcY, zcZ, zda, zdb, zdc, zdd, zde, zdf, zdg, zdh, zdi, zdj, zdk, zdl, zdm, zdn, zdo, zdp, zdq, zdr, zds, zdt, zdu, zdv, zdw, zdx, zdy, zdz, zdA, zdB, zdC, zdD, zdE, zdF, zdG]
      simp only [b2_done_r, zaa, zab, zac, zad, zae, zaf, zag, zah, zai, zaj, zak, zal, zam, zan, zao, zap, zaq, zar, zas, zat, zau, zav, zaw, zax, zay, zaz, zaA, zaB, zaC, zaD, zaE, zaF, zaG, zaH, zaI, zaJ, zaK, zaL, zaM, zaN, zaO, zaP, zaQ, zaR, zaS, zaT, zaU, zaV, startE, full, fullE, clean, cleanE, zaW, zaX, zaY, zaZ, zba, zbb, zbc, zbd, zbe, zbf, zbg, zbh, zbi, zbj, zbk, zbl, zbm, zbn, zbo, zbp, zbq, zbr, zbs, zbt, zbu, zbv, zbw, zbx, zby, zbz, zbA, zbB, zbC, zbD, zbE, zbF, zbG, zbH, zbI, zbJ, zbK, zbL, zbM, zbN, zbO, zbP, Bool.bne_false, Bool.bne_true, zbQ, zbR, zbS, zbT, zbU, zbV, zbW, zbX, zbY, zbZ, zca, zcb, zcc, zcd, zce, zcf, zcg, zch, zci, zcj, zck, zcl, zcm, zcn, zco, setAll, wipeR, setV, zcp, zcq, zcr, zcs, zct, zcu, zcv, zcw, zcx, zcy, zcz, zcA, zcB, zcC, List.any_cons, List.any_nil, List.map_cons, List.map_nil, List.length_cons, List.length_nil, List.replicate, Nat.sub_self, List.cons_append, List.nil_append, List.append_nil, List.getElem?_cons_zero, List.getElem?_cons_succ, List.set_cons_zero, List.set_cons_succ, List.set_nil, zcD, zcE, zcF, zcG, zcH, zcI, zcJ, zcK, zcL, zcM, zcN, zcO, zcP, zcQ, zcR, zcS, zcT, zcU, zcV, zcW, zcX, zcY, zcZ, zda, zdb, zdc, zdd, zde, zdf, zdg, zdh, zdi, zdj, zdk, zdl, zdm, zdn, zdo, zdp, zdq, zdr, zds, zdt, zdu, zdv, zdw, zdx, zdy, zdz, zdA, zdB, zdC, zdD, zdE, zdF, zdG]
      refine put_ok hw o hl ?_
      simp only [b5_done_r, optD, zaa, zab, zac, zad, zae, zaf, zag, zah, zai, zaj, zak, zal, zam, zan, zao, zap, zaq, zar, zas, zat, zau, zav, zaw, zax, zay, zaz, zaA, zaB, zaC, zaD, zaE, zaF, zaG, zaH, zaI, zaJ, zaK, zaL, zaM, zaN, zaO, zaP, zaQ, zaR, zaS, zaT, zaU, zaV, startE, full, fullE, clean, cleanE, zaW, zaX, zaY, zaZ, zba, zbb, zbc, zbd, zbe, zbf, zbg, zbh, zbi, zbj, zbk, zbl, zbm, zbn, zbo, zbp, zbq, zbr, zbs, zbt, zbu, zbv, zbw, zbx, zby, zbz, zbA, zbB, zbC, zbD, zbE, zbF, zbG, zbH, zbI, zbJ, zbK, zbL, zbM, zbN, zbO, zbP, Bool.bne_false, Bool.bne_true, zbQ, zbR, zbS, zbT, zbU, zbV, zbW, zbX, zbY, zbZ, zca, zcb, zcc, zcd, zce, zcf, zcg, zch, zci, zcj, zck, zcl, zcm, zcn, zco, setAll, wipeR, setV, zcp, zcq, zcr, zcs, zct, zcu, zcv, zcw, zcx, zcy, zcz, zcA, zcB, zcC, List.any_cons, List.any_nil, List.map_cons, List.map_nil, List.length_cons, List.length_nil, List.replicate, Nat.sub_self, List.cons_append, List.nil_append, List.append_nil, List.getElem?_cons_zero, List.getElem?_cons_succ, List.set_cons_zero, List.set_cons_succ, List.set_nil, zcD, zcE, zcF, zcG, zcH, zcI, zcJ, zcK, zcL, zcM, zcN, zcO, zcP, zcQ, zcR, zcS, zcT, zcU, zcV, zcW, zcX, zcY, zcZ, zda, zdb, zdc, zdd, zde, zdf, zdg, zdh, zdi, zdj, zdk, zdl, zdm, zdn, zdo, zdp, zdq, zdr, zds, zdt, zdu, zdv, zdw, zdx, zdy, zdz, zdA, zdB, zdC, zdD, zdE, zdF, zdG]
      simp [zaa, zab, zac, zad, zae, zaf, zag, zah, zai, zaj, zak, zal, zam, zan, zao, zap, zaq, zar, zas, zat, zau, zav, zaw, zax, zay, zaz, zaA, zaB, zaC, zaD, zaE, zaF, zaG, zaH, zaI, zaJ, zaK, zaL, zaM, zaN, zaO, zaP, zaQ, zaR, zaS, zaT, zaU, zaV, startE, full, fullE, clean, cleanE, zaW, zaX, zaY, zaZ, zba, zbb, zbc, zbd, zbe, zbf, zbg, zbh, zbi, zbj, zbk, zbl, zbm, zbn, zbo, zbp, zbq, zbr, zbs, zbt, zbu, zbv, zbw, zbx, zby, zbz, zbA, zbB, zbC, zbD, zbE, zbF, zbG, zbH, zbI, zbJ, zbK, zbL, zbM, zbN, zbO, zbP, Bool.bne_false, Bool.bne_true, zbQ, zbR, zbS, zbT, zbU, zbV, zbW, zbX, zbY, zbZ, zca, zcb, zcc, zcd, zce, zcf, zcg, zch, zci, zcj, zck, zcl, zcm, zcn, zco, setAll, wipeR, setV, zcp, zcq, zcr, zcs, zct, zcu, zcv, zcw, zcx, zcy, zcz, zcA, zcB, zcC, List.any_cons, List.any_nil, List.map_cons, List.map_nil, List.length_cons, List.length_nil, List.replicate, Nat.sub_self, List.cons_append, List.nil_append, List.append_nil, List.getElem?_cons_zero, List.getElem?_cons_succ, List.set_cons_zero, List.set_cons_succ, List.set_nil, zcD, zcE, zcF, zcG, zcH, zcI, zcJ, zcK, zcL, zcM, zcN, zcO, zcP, zcQ, zcR, zcS, zcT, zcU, zcV, zcW, zcX, zcY, zcZ, zda, zdb, zdc, zdd, zde, zdf, zdg, zdh, zdi, zdj, zdk, zdl, zdm, zdn, zdo, zdp, zdq, zdr, zds, zdt, zdu, zdv, zdw, zdx, zdy, zdz, zdA, zdB, zdC, zdD, zdE, zdF, zdG]
      exact fin _ q
  | some s =>
    rw [e] at q fin
    cases kd with
    | ask =>
      simp only [b3_done_r, b5_done_r, kindS, optD, zaa, zab, zac, zad, zae, zaf, zag, zah, zai, zaj, zak, zal, zam, zan, zao, zap, zaq, zar, zas, zat, zau, zav, zaw, zax, zay, zaz, zaA, zaB, zaC, zaD, zaE, zaF, zaG, zaH, zaI, zaJ, zaK, zaL, zaM, zaN, zaO, zaP, zaQ, zaR, zaS, zaT, zaU, zaV, startE, full, fullE, clean, cleanE, zaW, zaX, zaY, zaZ, zba, zbb, zbc, zbd, zbe, zbf, zbg, zbh, zbi, zbj, zbk, zbl, zbm, zbn, zbo, zbp, zbq, zbr, zbs, zbt, zbu, zbv, zbw, zbx, zby, zbz, zbA, zbB, zbC, zbD, zbE, zbF, zbG, zbH, zbI, zbJ, zbK, zbL, zbM, zbN, zbO, zbP, Bool.bne_false, Bool.bne_true, zbQ, zbR, zbS, zbT, zbU, zbV, zbW, zbX, zbY, zbZ, zca, zcb, zcc, zcd, zce, zcf, zcg, zch, zci, zcj, zck, zcl, zcm, zcn, zco, setAll, wipeR, setV, zcp, zcq, zcr, zcs, zct, zcu, zcv, zcw, zcx, zcy, zcz, zcA, zcB, zcC, List.any_cons, List.any_nil, List.map_cons, List.map_nil, List.length_cons, List.length_nil, List.replicate, Nat.sub_self, List.cons_append, List.nil_append, List.append_nil, List.getElem?_cons_zero, List.getElem?_cons_succ, List.set_cons_zero, List.set_cons_succ, List.set_nil, zcD, zcE, zcF, zcG, zcH, zcI, zcJ, zcK, zcL, zcM, zcN, zcO, zcP, zcQ, zcR, zcS, zcT, zcU, zcV, zcW, zcX, zcY, zcZ, zda, zdb, zdc, zdd, zde, zdf, zdg, zdh, zdi, zdj, zdk, zdl, zdm, zdn, zdo, zdp, zdq, zdr, zds, zdt, zdu, zdv, zdw, zdx, zdy, zdz, zdA, zdB, zdC, zdD, zdE, zdF, zdG]
      simp [zaa, zab, zac, zad, zae, zaf, zag, zah, zai, zaj, zak, zal, zam, zan, zao, zap, zaq, zar, zas, zat, zau, zav, zaw, zax, zay, zaz, zaA, zaB, zaC, zaD, zaE, zaF, zaG, zaH, zaI, zaJ, zaK, zaL, zaM, zaN, zaO, zaP, zaQ, zaR, zaS, zaT, zaU, zaV, startE, full, fullE, clean, cleanE, zaW, zaX, zaY, zaZ, zba, zbb, zbc, zbd, zbe, zbf, zbg, zbh, zbi, zbj, zbk, zbl, zbm, zbn, zbo, zbp, zbq, zbr, zbs, zbt, zbu, zbv, zbw, zbx, zby, zbz, zbA, zbB, zbC, zbD, zbE, zbF, zbG, zbH, zbI, zbJ, zbK, zbL, zbM, zbN, zbO, zbP, Bool.bne_false, Bool.bne_true, zbQ, zbR, zbS, zbT, zbU, zbV, zbW, zbX, zbY, zbZ, zca, zcb, zcc, zcd, zce, zcf, zcg, zch, zci, zcj, zck, zcl, zcm, zcn, zco, setAll, wipeR, setV, zcp, zcq, zcr, zcs, zct, zcu, zcv, zcw, zcx, zcy, zcz, zcA, zcB, zcC, List.any_cons, List.any_nil, List.map_cons, List.map_nil, List.length_cons, List.length_nil, List.replicate, Nat.sub_self, List.cons_append, List.nil_append, List.append_nil, List.getElem?_cons_zero, List.getElem?_cons_succ, List.set_cons_zero, List.set_cons_succ, List.set_nil, zcD, zcE, zcF, zcG, zcH, zcI, zcJ, zcK, zcL, zcM, zcN, zcO, zcP, zcQ, zcR, zcS, zcT, zcU, zcV, zcW, zcX, zcY, zcZ, zda, zdb, zdc, zdd, zde, zdf, zdg, zdh, zdi, zdj, zdk, zdl, zdm, zdn, zdo, zdp, zdq, zdr, zds, zdt, zdu, zdv, zdw, zdx, zdy, zdz, zdA, zdB, zdC, zdD, zdE, zdF, zdG]
      exact fin t q
    | put =>
      simp only [b3_done_r, b5_done_r, kindS, optD, zaa, zab, zac, zad, zae, zaf, zag, zah, zai, zaj, zak, zal, zam, zan, zao, zap, zaq, zar, zas, zat, zau, zav, zaw, zax, zay, zaz, zaA, zaB, zaC, zaD, zaE, zaF, zaG, zaH, zaI, zaJ, zaK, zaL, zaM, zaN, zaO, zaP, zaQ, zaR, zaS, zaT, zaU, zaV, startE, full, fullE, clean, cleanE, zaW, zaX, zaY, zaZ, zba, zbb, zbc, zbd, zbe, zbf, zbg, zbh, zbi, zbj, zbk, zbl, zbm, zbn, zbo, zbp, zbq, zbr, zbs, zbt, zbu, zbv, zbw, zbx, zby, zbz, zbA, zbB, zbC, zbD, zbE, zbF, zbG, zbH, zbI, zbJ, zbK, zbL, zbM, zbN, zbO, zbP, Bool.bne_false, Bool.bne_true, zbQ, zbR, zbS, zbT, zbU, zbV, zbW, zbX, zbY, zbZ, zca, zcb, zcc, zcd, zce, zcf, zcg, zch, zci, zcj, zck, zcl, zcm, zcn, zco, setAll, wipeR, setV, zcp, zcq, zcr, zcs, zct, zcu, zcv, zcw, zcx, zcy, zcz, zcA, zcB, zcC, List.any_cons, List.any_nil, List.map_cons, List.map_nil, List.length_cons, List.length_nil, List.replicate, Nat.sub_self, List.cons_append, List.nil_append, List.append_nil, List.getElem?_cons_zero, List.getElem?_cons_succ, List.set_cons_zero, List.set_cons_succ, List.set_nil, zcD, zcE, zcF, zcG, zcH, zcI, zcJ, zcK, zcL, zcM, zcN, zcO, zcP, zcQ, zcR, zcS, zcT, zcU, zcV, zcW, zcX, zcY, zcZ, zda, zdb, zdc, zdd, zde, zdf, zdg, zdh, zdi, zdj, zdk, zdl, zdm, zdn, zdo, zdp, zdq, zdr, zds, zdt, zdu, zdv, zdw, zdx, zdy, zdz, zdA, zdB, zdC, zdD, zdE, zdF, zdG]
      simp [zaa, zab, zac, zad, zae, zaf, zag, zah, zai, zaj, zak, zal, zam, zan, zao, zap, zaq, zar, zas, zat, zau, zav, zaw, zax, zay, zaz, zaA, zaB, zaC, zaD, zaE, zaF, zaG, zaH, zaI, zaJ, zaK, zaL, zaM, zaN, zaO, zaP, zaQ, zaR, zaS, zaT, zaU, zaV, startE, full, fullE, clean, cleanE, zaW, zaX, zaY, zaZ, zba, zbb, zbc, zbd, zbe, zbf, zbg, zbh, zbi, zbj, zbk, zbl, zbm, zbn, zbo, zbp, zbq, zbr, zbs, zbt, zbu, zbv, zbw, zbx, zby, zbz, zbA, zbB, zbC, zbD, zbE, zbF, zbG, zbH, zbI, zbJ, zbK, zbL, zbM, zbN, zbO, zbP, Bool.bne_false, Bool.bne_true, zbQ, zbR, zbS, zbT, zbU, zbV, zbW, zbX, zbY, zbZ, zca, zcb, zcc, zcd, zce, zcf, zcg, zch, zci, zcj, zck, zcl, zcm, zcn, zco, setAll, wipeR, setV, zcp, zcq, zcr, zcs, zct, zcu, zcv, zcw, zcx, zcy, zcz, zcA, zcB, zcC, List.any_cons, List.any_nil, List.map_cons, List.map_nil, List.length_cons, List.length_nil, List.replicate, Nat.sub_self, List.cons_append, List.nil_append, List.append_nil, List.getElem?_cons_zero, List.getElem?_cons_succ, List.set_cons_zero, List.set_cons_succ, List.set_nil, zcD, zcE, zcF, zcG, zcH, zcI, zcJ, zcK, zcL, zcM, zcN, zcO, zcP, zcQ, zcR, zcS, zcT, zcU, zcV, zcW, zcX, zcY, zcZ, zda, zdb, zdc, zdd, zde, zdf, zdg, zdh, zdi, zdj, zdk, zdl, zdm, zdn, zdo, zdp, zdq, zdr, zds, zdt, zdu, zdv, zdw, zdx, zdy, zdz, zdA, zdB, zdC, zdD, zdE, zdF, zdG]
      exact fin t q
    | take =>
      simp only [b3_done_r, b5_done_r, kindS, optD, zaa, zab, zac, zad, zae, zaf, zag, zah, zai, zaj, zak, zal, zam, zan, zao, zap, zaq, zar, zas, zat, zau, zav, zaw, zax, zay, zaz, zaA, zaB, zaC, zaD, zaE, zaF, zaG, zaH, zaI, zaJ, zaK, zaL, zaM, zaN, zaO, zaP, zaQ, zaR, zaS, zaT, zaU, zaV, startE, full, fullE, clean, cleanE, zaW, zaX, zaY, zaZ, zba, zbb, zbc, zbd, zbe, zbf, zbg, zbh, zbi, zbj, zbk, zbl, zbm, zbn, zbo, zbp, zbq, zbr, zbs, zbt, zbu, zbv, zbw, zbx, zby, zbz, zbA, zbB, zbC, zbD, zbE, zbF, zbG, zbH, zbI, zbJ, zbK, zbL, zbM, zbN, zbO, zbP, Bool.bne_false, Bool.bne_true, zbQ, zbR, zbS, zbT, zbU, zbV, zbW, zbX, zbY, zbZ, zca, zcb, zcc, zcd, zce, zcf, zcg, zch, zci, zcj, zck, zcl, zcm, zcn, zco, setAll, wipeR, setV, zcp, zcq, zcr, zcs, zct, zcu, zcv, zcw, zcx, zcy, zcz, zcA, zcB, zcC, List.any_cons, List.any_nil, List.map_cons, List.map_nil, List.length_cons, List.length_nil, List.replicate, Nat.sub_self, List.cons_append, List.nil_append, List.append_nil, List.getElem?_cons_zero, List.getElem?_cons_succ, List.set_cons_zero, List.set_cons_succ, List.set_nil, zcD, zcE, zcF, zcG, zcH, zcI, zcJ, zcK, zcL, zcM, zcN, zcO, zcP, zcQ, zcR, zcS, zcT, zcU, zcV, zcW, zcX, zcY, zcZ, zda, zdb, zdc, zdd, zde, zdf, zdg, zdh, zdi, zdj, zdk, zdl, zdm, zdn, zdo, zdp, zdq, zdr, zds, zdt, zdu, zdv, zdw, zdx, zdy, zdz, zdA, zdB, zdC, zdD, zdE, zdF, zdG]
      simp [zaa, zab, zac, zad, zae, zaf, zag, zah, zai, zaj, zak, zal, zam, zan, zao, zap, zaq, zar, zas, zat, zau, zav, zaw, zax, zay, zaz, zaA, zaB, zaC, zaD, zaE, zaF, zaG, zaH, zaI, zaJ, zaK, zaL, zaM, zaN, zaO, zaP, zaQ, zaR, zaS, zaT, zaU, zaV, startE, full, fullE, clean, cleanE, zaW, zaX, zaY, zaZ, zba, zbb, zbc, zbd, zbe, zbf, zbg, zbh, zbi, zbj, zbk, zbl, zbm, zbn, zbo, zbp, zbq, zbr, zbs, zbt, zbu, zbv, zbw, zbx, zby, zbz, zbA, zbB, zbC, zbD, zbE, zbF, zbG, zbH, zbI, zbJ, zbK, zbL, zbM, zbN, zbO, zbP, Bool.bne_false, Bool.bne_true, zbQ, zbR, zbS, zbT, zbU, zbV, zbW, zbX, zbY, zbZ, zca, zcb, zcc, zcd, zce, zcf, zcg, zch, zci, zcj, zck, zcl, zcm, zcn, zco, setAll, wipeR, setV, zcp, zcq, zcr, zcs, zct, zcu, zcv, zcw, zcx, zcy, zcz, zcA, zcB, zcC, List.any_cons, List.any_nil, List.map_cons, List.map_nil, List.length_cons, List.length_nil, List.replicate, Nat.sub_self, List.cons_append, List.nil_append, List.append_nil, List.getElem?_cons_zero, List.getElem?_cons_succ, List.set_cons_zero, List.set_cons_succ, List.set_nil, zcD, zcE, zcF, zcG, zcH, zcI, zcJ, zcK, zcL, zcM, zcN, zcO, zcP, zcQ, zcR, zcS, zcT, zcU, zcV, zcW, zcX, zcY, zcZ, zda, zdb, zdc, zdd, zde, zdf, zdg, zdh, zdi, zdj, zdk, zdl, zdm, zdn, zdo, zdp, zdq, zdr, zds, zdt, zdu, zdv, zdw, zdx, zdy, zdz, zdA, zdB, zdC, zdD, zdE, zdF, zdG]
      simp only [b4_done_r, zaa, zab, zac, zad, zae, zaf, zag, zah, zai, zaj, zak, zal, zam, zan, zao, zap, zaq, zar, zas, zat, zau, zav, zaw, zax, zay, zaz, zaA, zaB, zaC, zaD, zaE, zaF, zaG, zaH, zaI, zaJ, zaK, zaL, zaM, zaN, zaO, zaP, zaQ, zaR, zaS, zaT, zaU, zaV, startE, full, fullE, clean, cleanE, zaW, zaX, zaY, zaZ, zba, zbb, zbc, zbd, zbe, zbf, zbg, zbh, zbi, zbj, zbk, zbl, zbm, zbn, zbo, zbp, zbq, zbr, zbs, zbt, zbu, zbv, zbw, zbx, zby, zbz, zbA, zbB, zbC, zbD, zbE, zbF, zbG, zbH, zbI, zbJ, zbK, zbL, zbM, zbN, zbO, zbP, Bool.bne_false, Bool.bne_true, zbQ, zbR, zbS, zbT, zbU, zbV, zbW, zbX, zbY, zbZ, zca, zcb, zcc, zcd, zce, zcf, zcg, zch, zci, zcj, zck, zcl, zcm, zcn, zco, setAll, wipeR, setV, zcp, zcq, zcr, zcs, zct, zcu, zcv, zcw, zcx, zcy, zcz, zcA, zcB, zcC, List.any_cons, List.any_nil, List.map_cons, List.map_nil, List.length_cons, List.length_nil, List.replicate, Nat.sub_self, List.cons_append, List.nil_append, List.append_nil, List.getElem?_cons_zero, List.getElem?_cons_succ, List.set_cons_zero, List.set_cons_succ, List.set_nil, zcD, zcE, zcF, zcG, zcH, zcI, zcJ, zcK, zcL, zcM, zcN, zcO, zcP, zcQ, zcR, zcS, zcT, zcU, zcV, zcW, zcX, zcY, zcZ, zda, zdb, zdc, zdd, zde, zdf, zdg, zdh, zdi, zdj, zdk, zdl, zdm, zdn, zdo, zdp, zdq, zdr, zds, zdt, zdu, zdv, zdw, zdx, zdy, zdz, zdA, zdB, zdC, zdD, zdE, zdF, zdG]
      refine take_ok hw o hl e ?_
      exact fin _ q
end
end G6

namespace G6
open PySem PySem.Spec L2 DL TM
abbrev pD (p : Deed3 × Int) : D := deedD p.1 p.2
def rowD (r : RowT) : D := .tuple (r.map pD)
def SightOk (x : String) : Prop := x = "both" ∨ x = "looks" ∨ x = "order"
def seeD (x : String) (t : Tab) (l : Int) : D := if x = "looks" then .int l else if x = "order" then .tuple (intsD (order t)) else .tuple [.int l, .tuple (intsD (order t))]
theorem bools_true {α : Type} (l : List α) : boolsD (l.map fun _ => PyData.bool true) = some (l.map fun _ => true) := by
  induction l with
  | nil => rfl
  | cons a r ih =>
    rw [List.map_cons, List.map_cons]
    unfold boolsD
    rw [ih]
    rfl
section
variable {Q : D → Prop} {E : Str → Prop}
theorem deed_ok {kd : Deed3} {k : Int} (hk : KeyOk k) (q : Q (.bool true)) : m_is_deed [deedD kd k] Q E := by
  obtain ⟨h0, h1⟩ := hk
  simp only [b1_is_deed_r, m_is_deed_r, zaa, zab, zac, zad, zae, zaf, zag, zah, zai, zaj, zak, zal, zam, zan, zao, zap, zaq, zar, zas, zat, zau, zav, zaw, zax, zay, zaz, zaA, zaB, zaC, zaD, zaE, zaF, zaG, zaH, zaI, zaJ, zaK, zaL, zaM, zaN, zaO, zaP, zaQ, zaR, zaS, zaT, zaU, zaV, startE, full, fullE, clean, cleanE, zaW, zaX, zaY, zaZ, zba, zbb, zbc, zbd, zbe, zbf, zbg, zbh, zbi, zbj, zbk, zbl, zbm, zbn, zbo, zbp, zbq, zbr, zbs, zbt, zbu, zbv, zbw, zbx, zby, zbz, zbA, zbB, zbC, zbD, zbE, zbF, zbG, zbH, zbI, zbJ, zbK, zbL, zbM, zbN, zbO, zbP, Bool.bne_false, Bool.bne_true, zbQ, zbR, zbS, zbT, zbU, zbV, zbW, zbX, zbY, zbZ, zca, zcb, zcc, zcd, zce, zcf, zcg, zch, zci, zcj, zck, zcl, zcm, zcn, zco, setAll, wipeR, setV, zcp, zcq, zcr, zcs, zct, zcu, zcv, zcw, zcx, zcy, zcz, zcA, zcB, zcC, List.any_cons, List.any_nil, List.map_cons, List.map_nil, List.length_cons, List.length_nil, List.replicate, Nat.sub_self, List.cons_append, List.nil_append, List.append_nil, List.getElem?_cons_zero, List.getElem?_cons_succ, List.set_cons_zero, List.set_cons_succ, List.set_nil, zcD, zcE, zcF, zcG, zcH, zcI, zcJ, zcK, zcL, zcM, zcN, zcO, zcP, zcQ, zcR, zcS, zcT, zcU, zcV, zcW, zcX, zcY, zcZ, zda, zdb, zdc, zdd, zde, zdf, zdg, zdh, zdi, zdj, zdk, zdl, zdm, zdn, zdo, zdp, zdq, zdr, zds, zdt, zdu, zdv, zdw, zdx, zdy, zdz, zdA, zdB, zdC, zdD, zdE, zdF, zdG]
  simp [zaa, zab, zac, zad, zae, zaf, zag, zah, zai, zaj, zak, zal, zam, zan, zao, zap, zaq, zar, zas, zat, zau, zav, zaw, zax, zay, zaz, zaA, zaB, zaC, zaD, zaE, zaF, zaG, zaH, zaI, zaJ, zaK, zaL, zaM, zaN, zaO, zaP, zaQ, zaR, zaS, zaT, zaU, zaV, startE, full, fullE, clean, cleanE, zaW, zaX, zaY, zaZ, zba, zbb, zbc, zbd, zbe, zbf, zbg, zbh, zbi, zbj, zbk, zbl, zbm, zbn, zbo, zbp, zbq, zbr, zbs, zbt, zbu, zbv, zbw, zbx, zby, zbz, zbA, zbB, zbC, zbD, zbE, zbF, zbG, zbH, zbI, zbJ, zbK, zbL, zbM, zbN, zbO, zbP, Bool.bne_false, Bool.bne_true, zbQ, zbR, zbS, zbT, zbU, zbV, zbW, zbX, zbY, zbZ, zca, zcb, zcc, zcd, zce, zcf, zcg, zch, zci, zcj, zck, zcl, zcm, zcn, zco, setAll, wipeR, setV, zcp, zcq, zcr, zcs, zct, zcu, zcv, zcw, zcx, zcy, zcz, zcA, zcB, zcC, List.any_cons, List.any_nil, List.map_cons, List.map_nil, List.length_cons, List.length_nil, List.replicate, Nat.sub_self, List.cons_append, List.nil_append, List.append_nil, List.getElem?_cons_zero, List.getElem?_cons_succ, List.set_cons_zero, List.set_cons_succ, List.set_nil, zcD, zcE, zcF, zcG, zcH, zcI, zcJ, zcK, zcL, zcM, zcN, zcO, zcP, zcQ, zcR, zcS, zcT, zcU, zcV, zcW, zcX, zcY, zcZ, zda, zdb, zdc, zdd, zde, zdf, zdg, zdh, zdi, zdj, zdk, zdl, zdm, zdn, zdo, zdp, zdq, zdr, zds, zdt, zdu, zdv, zdw, zdx, zdy, zdz, zdA, zdB, zdC, zdD, zdE, zdF, zdG]
  simp only [b1_is_word_r, m_is_word_r, c_KINDS, zaa, zab, zac, zad, zae, zaf, zag, zah, zai, zaj, zak, zal, zam, zan, zao, zap, zaq, zar, zas, zat, zau, zav, zaw, zax, zay, zaz, zaA, zaB, zaC, zaD, zaE, zaF, zaG, zaH, zaI, zaJ, zaK, zaL, zaM, zaN, zaO, zaP, zaQ, zaR, zaS, zaT, zaU, zaV, startE, full, fullE, clean, cleanE, zaW, zaX, zaY, zaZ, zba, zbb, zbc, zbd, zbe, zbf, zbg, zbh, zbi, zbj, zbk, zbl, zbm, zbn, zbo, zbp, zbq, zbr, zbs, zbt, zbu, zbv, zbw, zbx, zby, zbz, zbA, zbB, zbC, zbD, zbE, zbF, zbG, zbH, zbI, zbJ, zbK, zbL, zbM, zbN, zbO, zbP, Bool.bne_false, Bool.bne_true, zbQ, zbR, zbS, zbT, zbU, zbV, zbW, zbX, zbY, zbZ, zca, zcb, zcc, zcd, zce, zcf, zcg, zch, zci, zcj, zck, zcl, zcm, zcn, zco, setAll, wipeR, setV, zcp, zcq, zcr, zcs, zct, zcu, zcv, zcw, zcx, zcy, zcz, zcA, zcB, zcC, List.any_cons, List.any_nil, List.map_cons, List.map_nil, List.length_cons, List.length_nil, List.replicate, Nat.sub_self, List.cons_append, List.nil_append, List.append_nil, List.getElem?_cons_zero, List.getElem?_cons_succ, List.set_cons_zero, List.set_cons_succ, List.set_nil, zcD, zcE, zcF, zcG, zcH, zcI, zcJ, zcK, zcL, zcM, zcN, zcO, zcP, zcQ, zcR, zcS, zcT, zcU, zcV, zcW, zcX, zcY, zcZ, zda, zdb, zdc, zdd, zde, zdf, zdg, zdh, zdi, zdj, zdk, zdl, zdm, zdn, zdo, zdp, zdq, zdr, zds, zdt, zdu, zdv, zdw, zdx, zdy, zdz, zdA, zdB, zdC, zdD, zdE, zdF, zdG]
  cases kd with
  | ask =>
    simp [kindS, zaa, zab, zac, zad, zae, zaf, zag, zah, zai, zaj, zak, zal, zam, zan, zao, zap, zaq, zar, zas, zat, zau, zav, zaw, zax, zay, zaz, zaA, zaB, zaC, zaD, zaE, zaF, zaG, zaH, zaI, zaJ, zaK, zaL, zaM, zaN, zaO, zaP, zaQ, zaR, zaS, zaT, zaU, zaV, startE, full, fullE, clean, cleanE, zaW, zaX, zaY, zaZ, zba, zbb, zbc, zbd, zbe, zbf, zbg, zbh, zbi, zbj, zbk, zbl, zbm, zbn, zbo, zbp, zbq, zbr, zbs, zbt, zbu, zbv, zbw, zbx, zby, zbz, zbA, zbB, zbC, zbD, zbE, zbF, zbG, zbH, zbI, zbJ, zbK, zbL, zbM, zbN, zbO, zbP, Bool.bne_false, Bool.bne_true, zbQ, zbR, zbS, zbT, zbU, zbV, zbW, zbX, zbY, zbZ, zca, zcb, zcc, zcd, zce, zcf, zcg, zch, zci, zcj, zck, zcl, zcm, zcn, zco, setAll, wipeR, setV, zcp, zcq, zcr, zcs, zct, zcu, zcv, zcw, zcx, zcy, zcz, zcA, zcB, zcC, List.any_cons, List.any_nil, List.map_cons, List.map_nil, List.length_cons, List.length_nil, List.replicate, Nat.sub_self, List.cons_append, List.nil_append, List.append_nil, List.getElem?_cons_zero, List.getElem?_cons_succ, List.set_cons_zero, List.set_cons_succ, List.set_nil, zcD, zcE, zcF, zcG, zcH, zcI, zcJ, zcK, zcL, zcM, zcN, zcO, zcP, zcQ, zcR, zcS, zcT, zcU, zcV, zcW, zcX, zcY, zcZ, zda, zdb, zdc, zdd, zde, zdf, zdg, zdh, zdi, zdj, zdk, zdl, zdm, zdn, zdo, zdp, zdq, zdr, zds, zdt, zdu, zdv, zdw, zdx, zdy, zdz, zdA, zdB, zdC, zdD, zdE, zdF, zdG]
    simp only [b1_is_key_r, m_is_key_r, zaa, zab, zac, zad, zae, zaf, zag, zah, zai, zaj, zak, zal, zam, zan, zao, zap, zaq, zar, zas, zat, zau, zav, zaw, zax, zay, zaz, zaA, zaB, zaC, zaD, zaE, zaF, zaG, zaH, zaI, zaJ, zaK, zaL, zaM, zaN, zaO, zaP, zaQ, zaR, zaS, zaT, zaU, zaV, startE, full, fullE, clean, cleanE, zaW, zaX, zaY, zaZ, zba, zbb, zbc, zbd, zbe, zbf, zbg, zbh, zbi, zbj, zbk, zbl, zbm, zbn, zbo, zbp, zbq, zbr, zbs, zbt, zbu, zbv, zbw, zbx, zby, zbz, zbA, zbB, zbC, zbD, zbE, zbF, zbG, zbH, zbI, zbJ, zbK, zbL, zbM, zbN, zbO, zbP, Bool.bne_false, Bool.bne_true, zbQ, zbR, zbS, zbT, zbU, zbV, zbW, zbX, zbY, zbZ, zca, zcb, zcc, zcd, zce, zcf, zcg, zch, zci, zcj, zck, zcl, zcm, zcn, zco, setAll, wipeR, setV, zcp, zcq, zcr, zcs, zct, zcu, zcv, zcw, zcx, zcy, zcz, zcA, zcB, zcC, List.any_cons, List.any_nil, List.map_cons, List.map_nil, List.length_cons, List.length_nil, List.replicate, Nat.sub_self, List.cons_append, List.nil_append, List.append_nil, List.getElem?_cons_zero, List.getElem?_cons_succ, List.set_cons_zero, List.set_cons_succ, List.set_nil, zcD, zcE, zcF, zcG, zcH, zcI, zcJ, zcK, zcL, zcM, zcN, zcO, zcP, zcQ, zcR, zcS, zcT, zcU, zcV, zcW, zcX, zcY, zcZ, zda, zdb, zdc, zdd, zde, zdf, zdg, zdh, zdi, zdj, zdk, zdl, zdm, zdn, zdo, zdp, zdq, zdr, zds, zdt, zdu, zdv, zdw, zdx, zdy, zdz, zdA, zdB, zdC, zdD, zdE, zdF, zdG]
    refine between_ok ?_
    simpa [h0, h1] using q
  | put =>
    simp [kindS, zaa, zab, zac, zad, zae, zaf, zag, zah, zai, zaj, zak, zal, zam, zan, zao, zap, zaq, zar, zas, zat, zau, zav, zaw, zax, zay, zaz, zaA, zaB, zaC, zaD, zaE, zaF, zaG, zaH, zaI, zaJ, zaK, zaL, zaM, zaN, zaO, zaP, zaQ, zaR, zaS, zaT, zaU, zaV, startE, full, fullE, clean, cleanE, zaW, zaX, zaY, zaZ, zba, zbb, zbc, zbd, zbe, zbf, zbg, zbh, zbi, zbj, zbk, zbl, zbm, zbn, zbo, zbp, zbq, zbr, zbs, zbt, zbu, zbv, zbw, zbx, zby, zbz, zbA, zbB, zbC, zbD, zbE, zbF, zbG, zbH, zbI, zbJ, zbK, zbL, zbM, zbN, zbO, zbP, Bool.bne_false, Bool.bne_true, zbQ, zbR, zbS, zbT, zbU, zbV, zbW, zbX, zbY, zbZ, zca, zcb, zcc, zcd, zce, zcf, zcg, zch, zci, zcj, zck, zcl, zcm, zcn, zco, setAll, wipeR, setV, zcp, zcq, zcr, zcs, zct, zcu, zcv, zcw, zcx, zcy, zcz, zcA, zcB, zcC, List.any_cons, List.any_nil, List.map_cons, List.map_nil, List.length_cons, List.length_nil, List.replicate, Nat.sub_self, List.cons_append, List.nil_append, List.append_nil, List.getElem?_cons_zero, List.getElem?_cons_succ, List.set_cons_zero, List.set_cons_succ, List.set_nil, zcD, zcE, zcF, zcG, zcH, zcI, zcJ, zcK, zcL, zcM, zcN, zcO, zcP, zcQ, zcR, zcS, zcT, zcU, zcV, zcW, zcX, zcY, zcZ, zda, zdb, zdc, zdd, zde, zdf, zdg, zdh, zdi, zdj, zdk, zdl, zdm, zdn, zdo, zdp, zdq, zdr, zds, zdt, zdu, zdv, zdw, zdx, zdy, zdz, zdA, zdB, zdC, zdD, zdE, zdF, zdG]
    simp only [b1_is_key_r, m_is_key_r, zaa, zab, zac, zad, zae, zaf, zag, zah, zai, zaj, zak, zal, zam, zan, zao, zap, zaq, zar, zas, zat, zau, zav, zaw, zax, zay, zaz, zaA, zaB, zaC, zaD, zaE, zaF, zaG, zaH, zaI, zaJ, zaK, zaL, zaM, zaN, zaO, zaP, zaQ, zaR, zaS, zaT, zaU, zaV, startE, full, fullE, clean, cleanE, zaW, zaX, zaY, zaZ, zba, zbb, zbc, zbd, zbe, zbf, zbg, zbh, zbi, zbj, zbk, zbl, zbm, zbn, zbo, zbp, zbq, zbr, zbs, zbt, zbu, zbv, zbw, zbx, zby, zbz, zbA, zbB, zbC, zbD, zbE, zbF, zbG, zbH, zbI, zbJ, zbK, zbL, zbM, zbN, zbO, zbP, Bool.bne_false, Bool.bne_true, zbQ, zbR, zbS, zbT, zbU, zbV, zbW, zbX, zbY, zbZ, zca, zcb, zcc, zcd, zce, zcf, zcg, zch, zci, zcj, zck, zcl, zcm, zcn, zco, setAll, wipeR, setV, zcp, zcq, zcr, zcs, zct, zcu, zcv, zcw, zcx, zcy, zcz, zcA, zcB, zcC, List.any_cons, List.any_nil, List.map_cons, List.map_nil, List.length_cons, List.length_nil, List.replicate, Nat.sub_self, List.cons_append, List.nil_append, List.append_nil, List.getElem?_cons_zero, List.getElem?_cons_succ, List.set_cons_zero, List.set_cons_succ, List.set_nil, zcD, zcE, zcF, zcG, zcH, zcI, zcJ, zcK, zcL, zcM, zcN, zcO, zcP, zcQ, zcR, zcS, zcT, zcU, zcV, zcW, zcX, zcY, zcZ, zda, zdb, zdc, zdd, zde, zdf, zdg, zdh, zdi, zdj, zdk, zdl, zdm, zdn, zdo, zdp, zdq, zdr, zds, zdt, zdu, zdv, zdw, zdx, zdy, zdz, zdA, zdB, zdC, zdD, zdE, zdF, zdG]
    refine between_ok ?_
    simpa [h0, h1] using q
  | take =>
    simp [kindS, zaa, zab, zac, zad, zae, zaf, zag, zah, zai, zaj, zak, zal, zam, zan, zao, zap, zaq, zar, zas, zat, zau, zav, zaw, zax, zay, zaz, zaA, zaB, zaC, zaD, zaE, zaF, zaG, zaH, zaI, zaJ, zaK, zaL, zaM, zaN, zaO, zaP, zaQ, zaR, zaS, zaT, zaU, zaV, startE, full, fullE, clean, cleanE, zaW, zaX, zaY, zaZ, zba, zbb, zbc, zbd, zbe, zbf, zbg, zbh, zbi, zbj, zbk, zbl, zbm, zbn, zbo, zbp, zbq, zbr, zbs, zbt, zbu, zbv, zbw, zbx, zby, zbz, zbA, zbB, zbC, zbD, zbE, zbF, zbG, zbH, zbI, zbJ, zbK, zbL, zbM, zbN, zbO, zbP, Bool.bne_false, Bool.bne_true, zbQ, zbR, zbS, zbT, zbU, zbV, zbW, zbX, zbY, zbZ, zca, zcb, zcc, zcd, zce, zcf, zcg, zch, zci, zcj, zck, zcl, zcm, zcn, zco, setAll, wipeR, setV, zcp, zcq, zcr, zcs, zct, zcu, zcv, zcw, zcx, zcy, zcz, zcA, zcB, zcC, List.any_cons, List.any_nil, List.map_cons, List.map_nil, List.length_cons, List.length_nil, List.replicate, Nat.sub_self, List.cons_append, List.nil_append, List.append_nil, List.getElem?_cons_zero, List.getElem?_cons_succ, List.set_cons_zero, List.set_cons_succ, List.set_nil, zcD, zcE, zcF, zcG, zcH, zcI, zcJ, zcK, zcL, zcM, zcN, zcO, zcP, zcQ, zcR, zcS, zcT, zcU, zcV, zcW, zcX, zcY, zcZ, zda, zdb, zdc, zdd, zde, zdf, zdg, zdh, zdi, zdj, zdk, zdl, zdm, zdn, zdo, zdp, zdq, zdr, zds, zdt, zdu, zdv, zdw, zdx, zdy, zdz, zdA, zdB, zdC, zdD, zdE, zdF, zdG]
    simp only [b1_is_key_r, m_is_key_r, zaa, zab, zac, zad, zae, zaf, zag, zah, zai, zaj, zak, zal, zam, zan, zao, zap, zaq, zar, zas, zat, zau, zav, zaw, zax, zay, zaz, zaA, zaB, zaC, zaD, zaE, zaF, zaG, zaH, zaI, zaJ, zaK, zaL, zaM, zaN, zaO, zaP, zaQ, zaR, zaS, zaT, zaU, zaV, startE, full, fullE, clean, cleanE, zaW, zaX, zaY, zaZ, zba, zbb, zbc, zbd, zbe, zbf, zbg, zbh, zbi, zbj, zbk, zbl, zbm, zbn, zbo, zbp, zbq, zbr, zbs, zbt, zbu, zbv, zbw, zbx, zby, zbz, zbA, zbB, zbC, zbD, zbE, zbF, zbG, zbH, zbI, zbJ, zbK, zbL, zbM, zbN, zbO, zbP, Bool.bne_false, Bool.bne_true, zbQ, zbR, zbS, zbT, zbU, zbV, zbW, zbX, zbY, zbZ, zca, zcb, zcc, zcd, zce, zcf, zcg, zch, zci, zcj, zck, zcl, zcm, zcn, zco, setAll, wipeR, setV, zcp, zcq, zcr, zcs, zct, zcu, zcv, zcw, zcx, zcy, zcz, zcA, zcB, zcC, List.any_cons, List.any_nil, List.map_cons, List.map_nil, List.length_cons, List.length_nil, List.replicate, Nat.sub_self, List.cons_append, List.nil_append, List.append_nil, List.getElem?_cons_zero, List.getElem?_cons_succ, List.set_cons_zero, List.set_cons_succ, List.set_nil, zcD, zcE, zcF, zcG, zcH, zcI, zcJ, zcK, zcL, zcM, zcN, zcO, zcP, zcQ, zcR, zcS, zcT, zcU, zcV, zcW, zcX, zcY, zcZ, zda, zdb, zdc, zdd, zde, zdf, zdg, zdh, zdi, zdj, zdk, zdl, zdm, zdn, zdo, zdp, zdq, zdr, zds, zdt, zdu, zdv, zdw, zdx, zdy, zdz, zdA, zdB, zdC, zdD, zdE, zdF, zdG]
    refine between_ok ?_
    simpa [h0, h1] using q
theorem check_row_ok {ks : List Int} {r : RowT} (hr : RowOk ks r) (q : Q .none) : m_check_row [rowD r] Q E := by
  have hl := hr.len
  simp only [b1_check_row_r, m_check_row_r, b1_is_row_r, m_is_row_r, zaa, zab, zac, zad, zae, zaf, zag, zah, zai, zaj, zak, zal, zam, zan, zao, zap, zaq, zar, zas, zat, zau, zav, zaw, zax, zay, zaz, zaA, zaB, zaC, zaD, zaE, zaF, zaG, zaH, zaI, zaJ, zaK, zaL, zaM, zaN, zaO, zaP, zaQ, zaR, zaS, zaT, zaU, zaV, startE, full, fullE, clean, cleanE, zaW, zaX, zaY, zaZ, zba, zbb, zbc, zbd, zbe, zbf, zbg, zbh, zbi, zbj, zbk, zbl, zbm, zbn, zbo, zbp, zbq, zbr, zbs, zbt, zbu, zbv, zbw, zbx, zby, zbz, zbA, zbB, zbC, zbD, zbE, zbF, zbG, zbH, zbI, zbJ, zbK, zbL, zbM, zbN, zbO, zbP, Bool.bne_false, Bool.bne_true, zbQ, zbR, zbS, zbT, zbU, zbV, zbW, zbX, zbY, zbZ, zca, zcb, zcc, zcd, zce, zcf, zcg, zch, zci, zcj, zck, zcl, zcm, zcn, zco, setAll, wipeR, setV, zcp, zcq, zcr, zcs, zct, zcu, zcv, zcw, zcx, zcy, zcz, zcA, zcB, zcC, List.any_cons, List.any_nil, List.map_cons, List.map_nil, List.length_cons, List.length_nil, List.replicate, Nat.sub_self, List.cons_append, List.nil_append, List.append_nil, List.getElem?_cons_zero, List.getElem?_cons_succ, List.set_cons_zero, List.set_cons_succ, List.set_nil, zcD, zcE, zcF, zcG, zcH, zcI, zcJ, zcK, zcL, zcM, zcN, zcO, zcP, zcQ, zcR, zcS, zcT, zcU, zcV, zcW, zcX, zcY, zcZ, zda, zdb, zdc, zdd, zde, zdf, zdg, zdh, zdi, zdj, zdk, zdl, zdm, zdn, zdo, zdp, zdq, zdr, zds, zdt, zdu, zdv, zdw, zdx, zdy, zdz, zdA, zdB, zdC, zdD, zdE, zdF, zdG, rowD]
  simp only [zaa, zab, zac, zad, zae, zaf, zag, zah, zai, zaj, zak, zal, zam, zan, zao, zap, zaq, zar, zas, zat, zau, zav, zaw, zax, zay, zaz, zaA, zaB, zaC, zaD, zaE, zaF, zaG, zaH, zaI, zaJ, zaK, zaL, zaM, zaN, zaO, zaP, zaQ, zaR, zaS, zaT, zaU, zaV, startE, full, fullE, clean, cleanE, zaW, zaX, zaY, zaZ, zba, zbb, zbc, zbd, zbe, zbf, zbg, zbh, zbi, zbj, zbk, zbl, zbm, zbn, zbo, zbp, zbq, zbr, zbs, zbt, zbu, zbv, zbw, zbx, zby, zbz, zbA, zbB, zbC, zbD, zbE, zbF, zbG, zbH, zbI, zbJ, zbK, zbL, zbM, zbN, zbO, zbP, Bool.bne_false, Bool.bne_true, zbQ, zbR, zbS, zbT, zbU, zbV, zbW, zbX, zbY, zbZ, zca, zcb, zcc, zcd, zce, zcf, zcg, zch, zci, zcj, zck, zcl, zcm, zcn, zco, setAll, wipeR, setV, zcp, zcq, zcr, zcs, zct, zcu, zcv, zcw, zcx, zcy, zcz, zcA, zcB, zcC, List.any_cons, List.any_nil, List.map_cons, List.map_nil, List.length_cons, List.length_nil, List.replicate, Nat.sub_self, List.cons_append, List.nil_append, List.append_nil, List.getElem?_cons_zero, List.getElem?_cons_succ, List.set_cons_zero, List.set_cons_succ, List.set_nil, zcD, zcE, zcF, zcG, zcH, zcI, zcJ, zcK, zcL, zcM, zcN, zcO, zcP, zcQ, zcR, zcS, zcT, zcU, zcV, zcW, zcX, zcY, zcZ, zda, zdb, zdc, zdd, zde, zdf, zdg, zdh, zdi, zdj, zdk, zdl, zdm, zdn, zdo, zdp, zdq, zdr, zds, zdt, zdu, zdv, zdw, zdx, zdy, zdz, zdA, zdB, zdC, zdD, zdE, zdF, zdG, List.length_map]
  have h24 : ((r.length : Nat) : Int) ≤ 24 := by omega
  simp only [decide_eq_true h24, reduceIte, Bool.false_eq_true, decide_true, decide_false, Bool.not_true, Bool.not_false, true_and, and_true, decide_not, Bool.true_bne, Bool.false_bne, Bool.not_not, zaa, zab, zac, zad, zae, zaf, zag, zah, zai, zaj, zak, zal, zam, zan, zao, zap, zaq, zar, zas, zat, zau, zav, zaw, zax, zay, zaz, zaA, zaB, zaC, zaD, zaE, zaF, zaG, zaH, zaI, zaJ, zaK, zaL, zaM, zaN, zaO, zaP, zaQ, zaR, zaS, zaT, zaU, zaV, startE, full, fullE, clean, cleanE, zaW, zaX, zaY, zaZ, zba, zbb, zbc, zbd, zbe, zbf, zbg, zbh, zbi, zbj, zbk, zbl, zbm, zbn, zbo, zbp, zbq, zbr, zbs, zbt, zbu, zbv, zbw, zbx, zby, zbz, zbA, zbB, zbC, zbD, zbE, zbF, zbG, zbH, zbI, zbJ, zbK, zbL, zbM, zbN, zbO, zbP, Bool.bne_false, Bool.bne_true, zbQ, zbR, zbS, zbT, zbU, zbV, zbW, zbX, zbY, zbZ, zca, zcb, zcc, zcd, zce, zcf, zcg, zch, zci, zcj, zck, zcl, zcm, zcn, zco, setAll, wipeR, setV, zcp, zcq, zcr, zcs, zct, zcu, zcv, zcw, zcx, zcy, zcz, zcA, zcB, zcC, List.any_cons, List.any_nil, List.map_cons, List.map_nil, List.length_cons, List.length_nil, List.replicate, Nat.sub_self, List.cons_append, List.nil_append, List.append_nil, List.getElem?_cons_zero, List.getElem?_cons_succ, List.set_cons_zero, List.set_cons_succ, List.set_nil, zcD, zcE, zcF, zcG, zcH, zcI, zcJ, zcK, zcL, zcM, zcN, zcO, zcP, zcQ, zcR, zcS, zcT, zcU, zcV, zcW, zcX, zcY, zcZ, zda, zdb, zdc, zdd, zde, zdf, zdg, zdh, zdi, zdj, zdk, zdl, zdm, zdn, zdo, zdp, zdq, zdr, zds, zdt, zdu, zdv, zdw, zdx, zdy, zdz, zdA, zdB, zdC, zdD, zdE, zdF, zdG]
  refine ⟨by omega, lcLoop_mp pD (fun _ => PyData.bool true) (fun a ha kk hk => ?_) ?_⟩
  · simp only [zaa, zab, zac, zad, zae, zaf, zag, zah, zai, zaj, zak, zal, zam, zan, zao, zap, zaq, zar, zas, zat, zau, zav, zaw, zax, zay, zaz, zaA, zaB, zaC, zaD, zaE, zaF, zaG, zaH, zaI, zaJ, zaK, zaL, zaM, zaN, zaO, zaP, zaQ, zaR, zaS, zaT, zaU, zaV, startE, full, fullE, clean, cleanE, zaW, zaX, zaY, zaZ, zba, zbb, zbc, zbd, zbe, zbf, zbg, zbh, zbi, zbj, zbk, zbl, zbm, zbn, zbo, zbp, zbq, zbr, zbs, zbt, zbu, zbv, zbw, zbx, zby, zbz, zbA, zbB, zbC, zbD, zbE, zbF, zbG, zbH, zbI, zbJ, zbK, zbL, zbM, zbN, zbO, zbP, Bool.bne_false, Bool.bne_true, zbQ, zbR, zbS, zbT, zbU, zbV, zbW, zbX, zbY, zbZ, zca, zcb, zcc, zcd, zce, zcf, zcg, zch, zci, zcj, zck, zcl, zcm, zcn, zco, setAll, wipeR, setV, zcp, zcq, zcr, zcs, zct, zcu, zcv, zcw, zcx, zcy, zcz, zcA, zcB, zcC, List.any_cons, List.any_nil, List.map_cons, List.map_nil, List.length_cons, List.length_nil, List.replicate, Nat.sub_self, List.cons_append, List.nil_append, List.append_nil, List.getElem?_cons_zero, List.getElem?_cons_succ, List.set_cons_zero, List.set_cons_succ, List.set_nil, zcD, zcE, zcF, zcG, zcH, zcI, zcJ, zcK, zcL, zcM, zcN, zcO, zcP, zcQ, zcR, zcS, zcT, zcU, zcV, zcW, zcX, zcY, zcZ, zda, zdb, zdc, zdd, zde, zdf, zdg, zdh, zdi, zdj, zdk, zdl, zdm, zdn, zdo, zdp, zdq, zdr, zds, zdt, zdu, zdv, zdw, zdx, zdy, zdz, zdA, zdB, zdC, zdD, zdE, zdF, zdG, reduceIte, Bool.false_eq_true, decide_true, decide_false, Bool.not_true, Bool.not_false, true_and, and_true, decide_not, Bool.true_bne, Bool.false_bne, Bool.not_not]
    exact deed_ok (hr.keys a ha).1 hk
  · simp only [zaa, zab, zac, zad, zae, zaf, zag, zah, zai, zaj, zak, zal, zam, zan, zao, zap, zaq, zar, zas, zat, zau, zav, zaw, zax, zay, zaz, zaA, zaB, zaC, zaD, zaE, zaF, zaG, zaH, zaI, zaJ, zaK, zaL, zaM, zaN, zaO, zaP, zaQ, zaR, zaS, zaT, zaU, zaV, startE, full, fullE, clean, cleanE, zaW, zaX, zaY, zaZ, zba, zbb, zbc, zbd, zbe, zbf, zbg, zbh, zbi, zbj, zbk, zbl, zbm, zbn, zbo, zbp, zbq, zbr, zbs, zbt, zbu, zbv, zbw, zbx, zby, zbz, zbA, zbB, zbC, zbD, zbE, zbF, zbG, zbH, zbI, zbJ, zbK, zbL, zbM, zbN, zbO, zbP, Bool.bne_false, Bool.bne_true, zbQ, zbR, zbS, zbT, zbU, zbV, zbW, zbX, zbY, zbZ, zca, zcb, zcc, zcd, zce, zcf, zcg, zch, zci, zcj, zck, zcl, zcm, zcn, zco, setAll, wipeR, setV, zcp, zcq, zcr, zcs, zct, zcu, zcv, zcw, zcx, zcy, zcz, zcA, zcB, zcC, List.any_cons, List.any_nil, List.map_cons, List.map_nil, List.length_cons, List.length_nil, List.replicate, Nat.sub_self, List.cons_append, List.nil_append, List.append_nil, List.getElem?_cons_zero, List.getElem?_cons_succ, List.set_cons_zero, List.set_cons_succ, List.set_nil, zcD, zcE, zcF, zcG, zcH, zcI, zcJ, zcK, zcL, zcM, zcN, zcO, zcP, zcQ, zcR, zcS, zcT, zcU, zcV, zcW, zcX, zcY, zcZ, zda, zdb, zdc, zdd, zde, zdf, zdg, zdh, zdi, zdj, zdk, zdl, zdm, zdn, zdo, zdp, zdq, zdr, zds, zdt, zdu, zdv, zdw, zdx, zdy, zdz, zdA, zdB, zdC, zdD, zdE, zdF, zdG, bools_true]
    simp only [zaa, zab, zac, zad, zae, zaf, zag, zah, zai, zaj, zak, zal, zam, zan, zao, zap, zaq, zar, zas, zat, zau, zav, zaw, zax, zay, zaz, zaA, zaB, zaC, zaD, zaE, zaF, zaG, zaH, zaI, zaJ, zaK, zaL, zaM, zaN, zaO, zaP, zaQ, zaR, zaS, zaT, zaU, zaV, startE, full, fullE, clean, cleanE, zaW, zaX, zaY, zaZ, zba, zbb, zbc, zbd, zbe, zbf, zbg, zbh, zbi, zbj, zbk, zbl, zbm, zbn, zbo, zbp, zbq, zbr, zbs, zbt, zbu, zbv, zbw, zbx, zby, zbz, zbA, zbB, zbC, zbD, zbE, zbF, zbG, zbH, zbI, zbJ, zbK, zbL, zbM, zbN, zbO, zbP, Bool.bne_false, Bool.bne_true, zbQ, zbR, zbS, zbT, zbU, zbV, zbW, zbX, zbY, zbZ, zca, zcb, zcc, zcd, zce, zcf, zcg, zch, zci, zcj, zck, zcl, zcm, zcn, zco, setAll, wipeR, setV, zcp, zcq, zcr, zcs, zct, zcu, zcv, zcw, zcx, zcy, zcz, zcA, zcB, zcC, List.any_cons, List.any_nil, List.map_cons, List.map_nil, List.length_cons, List.length_nil, List.replicate, Nat.sub_self, List.cons_append, List.nil_append, List.append_nil, List.getElem?_cons_zero, List.getElem?_cons_succ, List.set_cons_zero, List.set_cons_succ, List.set_nil, zcD, zcE, zcF, zcG, zcH, zcI, zcJ, zcK, zcL, zcM, zcN, zcO, zcP, zcQ, zcR, zcS, zcT, zcU, zcV, zcW, zcX, zcY, zcZ, zda, zdb, zdc, zdd, zde, zdf, zdg, zdh, zdi, zdj, zdk, zdl, zdm, zdn, zdo, zdp, zdq, zdr, zds, zdt, zdu, zdv, zdw, zdx, zdy, zdz, zdA, zdB, zdC, zdD, zdE, zdF, zdG, List.all_map]
    have : (r.all (id ∘ fun _ => true)) = true := by simp
    rw [this]
    simpa [zaa, zab, zac, zad, zae, zaf, zag, zah, zai, zaj, zak, zal, zam, zan, zao, zap, zaq, zar, zas, zat, zau, zav, zaw, zax, zay, zaz, zaA, zaB, zaC, zaD, zaE, zaF, zaG, zaH, zaI, zaJ, zaK, zaL, zaM, zaN, zaO, zaP, zaQ, zaR, zaS, zaT, zaU, zaV, startE, full, fullE, clean, cleanE, zaW, zaX, zaY, zaZ, zba, zbb, zbc, zbd, zbe, zbf, zbg, zbh, zbi, zbj, zbk, zbl, zbm, zbn, zbo, zbp, zbq, zbr, zbs, zbt, zbu, zbv, zbw, zbx, zby, zbz, zbA, zbB, zbC, zbD, zbE, zbF, zbG, zbH, zbI, zbJ, zbK, zbL, zbM, zbN, zbO, zbP, Bool.bne_false, Bool.bne_true, zbQ, zbR, zbS, zbT, zbU, zbV, zbW, zbX, zbY, zbZ, zca, zcb, zcc, zcd, zce, zcf, zcg, zch, zci, zcj, zck, zcl, zcm, zcn, zco, setAll, wipeR, setV, zcp, zcq, zcr, zcs, zct, zcu, zcv, zcw, zcx, zcy, zcz, zcA, zcB, zcC, List.any_cons, List.any_nil, List.map_cons, List.map_nil, List.length_cons, List.length_nil, List.replicate, Nat.sub_self, List.cons_append, List.nil_append, List.append_nil, List.getElem?_cons_zero, List.getElem?_cons_succ, List.set_cons_zero, List.set_cons_succ, List.set_nil, zcD, zcE, zcF, zcG, zcH, zcI, zcJ, zcK, zcL, zcM, zcN, zcO, zcP, zcQ, zcR, zcS, zcT, zcU, zcV, zcW, zcX, zcY, zcZ, zda, zdb, zdc, zdd, zde, zdf, zdg, zdh, zdi, zdj, zdk, zdl, zdm, zdn, zdo, zdp, zdq, zdr, zds, zdt, zdu, zdv, zdw, zdx, zdy, zdz, zdA, zdB, zdC, zdD, zdE, zdF, zdG] using q
theorem check_sight_ok {x : String} (h : SightOk x) (q : Q .none) : m_check_sight [.str (Str.ofString x)] Q E := by
  simp only [b1_check_sight_r, m_check_sight_r, b1_is_word_r, m_is_word_r, c_SIGHTS, zaa, zab, zac, zad, zae, zaf, zag, zah, zai, zaj, zak, zal, zam, zan, zao, zap, zaq, zar, zas, zat, zau, zav, zaw, zax, zay, zaz, zaA, zaB, zaC, zaD, zaE, zaF, zaG, zaH, zaI, zaJ, zaK, zaL, zaM, zaN, zaO, zaP, zaQ, zaR, zaS, zaT, zaU, zaV, startE, full, fullE, clean, cleanE, zaW, zaX, zaY, zaZ, zba, zbb, zbc, zbd, zbe, zbf, zbg, zbh, zbi, zbj, zbk, zbl, zbm, zbn, zbo, zbp, zbq, zbr, zbs, zbt, zbu, zbv, zbw, zbx, zby, zbz, zbA, zbB, zbC, zbD, zbE, zbF, zbG, zbH, zbI, zbJ, zbK, zbL, zbM, zbN, zbO, zbP, Bool.bne_false, Bool.bne_true, zbQ, zbR, zbS, zbT, zbU, zbV, zbW, zbX, zbY, zbZ, zca, zcb, zcc, zcd, zce, zcf, zcg, zch, zci, zcj, zck, zcl, zcm, zcn, zco, setAll, wipeR, setV, zcp, zcq, zcr, zcs, zct, zcu, zcv, zcw, zcx, zcy, zcz, zcA, zcB, zcC, List.any_cons, List.any_nil, List.map_cons, List.map_nil, List.length_cons, List.length_nil, List.replicate, Nat.sub_self, List.cons_append, List.nil_append, List.append_nil, List.getElem?_cons_zero, List.getElem?_cons_succ, List.set_cons_zero, List.set_cons_succ, List.set_nil, zcD, zcE, zcF, zcG, zcH, zcI, zcJ, zcK, zcL, zcM, zcN, zcO, zcP, zcQ, zcR, zcS, zcT, zcU, zcV, zcW, zcX, zcY, zcZ, zda, zdb, zdc, zdd, zde, zdf, zdg, zdh, zdi, zdj, zdk, zdl, zdm, zdn, zdo, zdp, zdq, zdr, zds, zdt, zdu, zdv, zdw, zdx, zdy, zdz, zdA, zdB, zdC, zdD, zdE, zdF, zdG]
  rcases h with rfl | rfl | rfl <;> simpa [zaa, zab, zac, zad, zae, zaf, zag, zah, zai, zaj, zak, zal, zam, zan, zao, zap, zaq, zar, zas, zat, zau, zav, zaw, zax, zay, zaz, zaA, zaB, zaC, zaD, zaE, zaF, zaG, zaH, zaI, zaJ, zaK, zaL, zaM, zaN, zaO, zaP, zaQ, zaR, zaS, zaT, zaU, zaV, startE, full, fullE, clean, cleanE, zaW, zaX, zaY, zaZ, zba, zbb, zbc, zbd, zbe, zbf, zbg, zbh, zbi, zbj, zbk, zbl, zbm, zbn, zbo, zbp, zbq, zbr, zbs, zbt, zbu, zbv, zbw, zbx, zby, zbz, zbA, zbB, zbC, zbD, zbE, zbF, zbG, zbH, zbI, zbJ, zbK, zbL, zbM, zbN, zbO, zbP, Bool.bne_false, Bool.bne_true, zbQ, zbR, zbS, zbT, zbU, zbV, zbW, zbX, zbY, zbZ, zca, zcb, zcc, zcd, zce, zcf, zcg, zch, zci, zcj, zck, zcl, zcm, zcn, zco, setAll, wipeR, setV, zcp, zcq, zcr, zcs, zct, zcu, zcv, zcw, zcx, zcy, zcz, zcA, zcB, zcC, List.any_cons, List.any_nil, List.map_cons, List.map_nil, List.length_cons, List.length_nil, List.replicate, Nat.sub_self, List.cons_append, List.nil_append, List.append_nil, List.getElem?_cons_zero, List.getElem?_cons_succ, List.set_cons_zero, List.set_cons_succ, List.set_nil, zcD, zcE, zcF, zcG, zcH, zcI, zcJ, zcK, zcL, zcM, zcN, zcO, zcP, zcQ, zcR, zcS, zcT, zcU, zcV, zcW, zcX, zcY, zcZ, zda, zdb, zdc, zdd, zde, zdf, zdg, zdh, zdi, zdj, zdk, zdl, zdm, zdn, zdo, zdp, zdq, zdr, zds, zdt, zdu, zdv, zdw, zdx, zdy, zdz, zdA, zdB, zdC, zdD, zdE, zdF, zdG] using q
theorem order_ok {w : Way} {ks : List Int} {t : Tab} (o : Ok w ks t) (hl : ks.length ≤ 30) (q : Q (.tuple (intsD (order t)))) : m_order_in [wayD w, tabD t] Q E := by
  cases w with
  | r h c oo =>
    cases t with
    | s T => exact o.elim
    | r R =>
      have o' : OkR h oo ks R := o
      have := o'.total
      exact order_rows (by omega) q
  | s h st c g gr =>
    cases t with
    | r R => exact o.elim
    | s T =>
      have o' : OkS gr ks T := o
      obtain ⟨n0, n1⟩ := small o'.size
      exact order_slots (by omega) q
theorem seen_ok {w : Way} {ks : List Int} {t : Tab} {l : Int} {x : String} (o : Ok w ks t) (hl : ks.length ≤ 30) (hx : SightOk x) (q : Q (seeD x t l)) : m_seen_of [wayD w, tabD t, .int l, .str (Str.ofString x)] Q E := by
  unfold seeD at q
  simp only [b1_seen_of_r, b2_seen_of_r, m_seen_of_r, zaa, zab, zac, zad, zae, zaf, zag, zah, zai, zaj, zak, zal, zam, zan, zao, zap, zaq, zar, zas, zat, zau, zav, zaw, zax, zay, zaz, zaA, zaB, zaC, zaD, zaE, zaF, zaG, zaH, zaI, zaJ, zaK, zaL, zaM, zaN, zaO, zaP, zaQ, zaR, zaS, zaT, zaU, zaV, startE, full, fullE, clean, cleanE, zaW, zaX, zaY, zaZ, zba, zbb, zbc, zbd, zbe, zbf, zbg, zbh, zbi, zbj, zbk, zbl, zbm, zbn, zbo, zbp, zbq, zbr, zbs, zbt, zbu, zbv, zbw, zbx, zby, zbz, zbA, zbB, zbC, zbD, zbE, zbF, zbG, zbH, zbI, zbJ, zbK, zbL, zbM, zbN, zbO, zbP, Bool.bne_false, Bool.bne_true, zbQ, zbR, zbS, zbT, zbU, zbV, zbW, zbX, zbY, zbZ, zca, zcb, zcc, zcd, zce, zcf, zcg, zch, zci, zcj, zck, zcl, zcm, zcn, zco, setAll, wipeR, setV, zcp, zcq, zcr, zcs, zct, zcu, zcv, zcw, zcx, zcy, zcz, zcA, zcB, zcC, List.any_cons, List.any_nil, List.map_cons, List.map_nil, List.length_cons, List.length_nil, List.replicate, Nat.sub_self, List.cons_append, List.nil_append, List.append_nil, List.getElem?_cons_zero, List.getElem?_cons_succ, List.set_cons_zero, List.set_cons_succ, List.set_nil, zcD, zcE, zcF, zcG, zcH, zcI, zcJ, zcK, zcL, zcM, zcN, zcO, zcP, zcQ, zcR, zcS, zcT, zcU, zcV, zcW, zcX, zcY, zcZ, zda, zdb, zdc, zdd, zde, zdf, zdg, zdh, zdi, zdj, zdk, zdl, zdm, zdn, zdo, zdp, zdq, zdr, zds, zdt, zdu, zdv, zdw, zdx, zdy, zdz, zdA, zdB, zdC, zdD, zdE, zdF, zdG]
  rcases hx with rfl | rfl | rfl
  · simp [zaa, zab, zac, zad, zae, zaf, zag, zah, zai, zaj, zak, zal, zam, zan, zao, zap, zaq, zar, zas, zat, zau, zav, zaw, zax, zay, zaz, zaA, zaB, zaC, zaD, zaE, zaF, zaG, zaH, zaI, zaJ, zaK, zaL, zaM, zaN, zaO, zaP, zaQ, zaR, zaS, zaT, zaU, zaV, startE, full, fullE, clean, cleanE, zaW, zaX, zaY, zaZ, zba, zbb, zbc, zbd, zbe, zbf, zbg, zbh, zbi, zbj, zbk, zbl, zbm, zbn, zbo, zbp, zbq, zbr, zbs, zbt, zbu, zbv, zbw, zbx, zby, zbz, zbA, zbB, zbC, zbD, zbE, zbF, zbG, zbH, zbI, zbJ, zbK, zbL, zbM, zbN, zbO, zbP, Bool.bne_false, Bool.bne_true, zbQ, zbR, zbS, zbT, zbU, zbV, zbW, zbX, zbY, zbZ, zca, zcb, zcc, zcd, zce, zcf, zcg, zch, zci, zcj, zck, zcl, zcm, zcn, zco, setAll, wipeR, setV, zcp, zcq, zcr, zcs, zct, zcu, zcv, zcw, zcx, zcy, zcz, zcA, zcB, zcC, List.any_cons, List.any_nil, List.map_cons, List.map_nil, List.length_cons, List.length_nil, List.replicate, Nat.sub_self, List.cons_append, List.nil_append, List.append_nil, List.getElem?_cons_zero, List.getElem?_cons_succ, List.set_cons_zero, List.set_cons_succ, List.set_nil, zcD, zcE, zcF, zcG, zcH, zcI, zcJ, zcK, zcL, zcM, zcN, zcO, zcP, zcQ, zcR, zcS, zcT, zcU, zcV, zcW, zcX, zcY, zcZ, zda, zdb, zdc, zdd, zde, zdf, zdg, zdh, zdi, zdj, zdk, zdl, zdm, zdn, zdo, zdp, zdq, zdr, zds, zdt, zdu, zdv, zdw, zdx, zdy, zdz, zdA, zdB, zdC, zdD, zdE, zdF, zdG]
    refine order_ok o hl ?_
    simpa using q
  · simpa [zaa, zab, zac, zad, zae, zaf, zag, zah, zai, zaj, zak, zal, zam, zan, zao, zap, zaq, zar, zas, zat, zau, zav, zaw, zax, zay, zaz, zaA, zaB, zaC, zaD, zaE, zaF, zaG, zaH, zaI, zaJ, zaK, zaL, zaM, zaN, zaO, zaP, zaQ, zaR, zaS, zaT, zaU, zaV, startE, full, fullE, clean, cleanE, zaW, zaX, zaY, zaZ, zba, zbb, zbc, zbd, zbe, zbf, zbg, zbh, zbi, zbj, zbk, zbl, zbm, zbn, zbo, zbp, zbq, zbr, zbs, zbt, zbu, zbv, zbw, zbx, zby, zbz, zbA, zbB, zbC, zbD, zbE, zbF, zbG, zbH, zbI, zbJ, zbK, zbL, zbM, zbN, zbO, zbP, Bool.bne_false, Bool.bne_true, zbQ, zbR, zbS, zbT, zbU, zbV, zbW, zbX, zbY, zbZ, zca, zcb, zcc, zcd, zce, zcf, zcg, zch, zci, zcj, zck, zcl, zcm, zcn, zco, setAll, wipeR, setV, zcp, zcq, zcr, zcs, zct, zcu, zcv, zcw, zcx, zcy, zcz, zcA, zcB, zcC, List.any_cons, List.any_nil, List.map_cons, List.map_nil, List.length_cons, List.length_nil, List.replicate, Nat.sub_self, List.cons_append, List.nil_append, List.append_nil, List.getElem?_cons_zero, List.getElem?_cons_succ, List.set_cons_zero, List.set_cons_succ, List.set_nil, zcD, zcE, zcF, zcG, zcH, zcI, zcJ, zcK, zcL, zcM, zcN, zcO, zcP, zcQ, zcR, zcS, zcT, zcU, zcV, zcW, zcX, zcY, zcZ, zda, zdb, zdc, zdd, zde, zdf, zdg, zdh, zdi, zdj, zdk, zdl, zdm, zdn, zdo, zdp, zdq, zdr, zds, zdt, zdu, zdv, zdw, zdx, zdy, zdz, zdA, zdB, zdC, zdD, zdE, zdF, zdG] using q
  · simp [zaa, zab, zac, zad, zae, zaf, zag, zah, zai, zaj, zak, zal, zam, zan, zao, zap, zaq, zar, zas, zat, zau, zav, zaw, zax, zay, zaz, zaA, zaB, zaC, zaD, zaE, zaF, zaG, zaH, zaI, zaJ, zaK, zaL, zaM, zaN, zaO, zaP, zaQ, zaR, zaS, zaT, zaU, zaV, startE, full, fullE, clean, cleanE, zaW, zaX, zaY, zaZ, zba, zbb, zbc, zbd, zbe, zbf, zbg, zbh, zbi, zbj, zbk, zbl, zbm, zbn, zbo, zbp, zbq, zbr, zbs, zbt, zbu, zbv, zbw, zbx, zby, zbz, zbA, zbB, zbC, zbD, zbE, zbF, zbG, zbH, zbI, zbJ, zbK, zbL, zbM, zbN, zbO, zbP, Bool.bne_false, Bool.bne_true, zbQ, zbR, zbS, zbT, zbU, zbV, zbW, zbX, zbY, zbZ, zca, zcb, zcc, zcd, zce, zcf, zcg, zch, zci, zcj, zck, zcl, zcm, zcn, zco, setAll, wipeR, setV, zcp, zcq, zcr, zcs, zct, zcu, zcv, zcw, zcx, zcy, zcz, zcA, zcB, zcC, List.any_cons, List.any_nil, List.map_cons, List.map_nil, List.length_cons, List.length_nil, List.replicate, Nat.sub_self, List.cons_append, List.nil_append, List.append_nil, List.getElem?_cons_zero, List.getElem?_cons_succ, List.set_cons_zero, List.set_cons_succ, List.set_nil, zcD, zcE, zcF, zcG, zcH, zcI, zcJ, zcK, zcL, zcM, zcN, zcO, zcP, zcQ, zcR, zcS, zcT, zcU, zcV, zcW, zcX, zcY, zcZ, zda, zdb, zdc, zdd, zde, zdf, zdg, zdh, zdi, zdj, zdk, zdl, zdm, zdn, zdo, zdp, zdq, zdr, zds, zdt, zdu, zdv, zdw, zdx, zdy, zdz, zdA, zdB, zdC, zdD, zdE, zdF, zdG]
    refine order_ok o hl ?_
    simpa using q
theorem pure_rows (R : List (List Int)) : pureD.pureAll (R.map fun r => PyData.tuple (intsD r)) = true := by
  induction R with
  | nil => rfl
  | cons r R ih =>
    rw [List.map_cons, zdB, zdA, pure_ints, ih]
    rfl
theorem pure_tab (t : Tab) : pureD (tabD t) = true := by
  cases t with
  | r R => exact pure_rows R
  | s T => exact pure_ints T
theorem begun_ok {w : Way} (q : Q (tabD (begun w))) : m_begun [wayD w, .int 4] Q E := by
  cases w with
  | r h c o => exact begun_rows (.inl rfl) q
  | s h st c g gr => exact begun_slots (.inl rfl) q
abbrev toldD (x : Tab × Bool × Int) : D := .tuple [.bool x.2.1, .int x.2.2]
theorem last_at {l : List D} {x : D} (h : l.getLast? = some x) : atI l (-1) = some x := by
  have hn : l ≠ [] := fun z => by rw [z] at h; cases h
  have hl : 0 < l.length := List.length_pos_iff.mpr hn
  unfold atI ixN
  rw [if_neg (by omega)]
  have e : (-1 + (l.length : Int)).toNat = l.length - 1 := by omega
  rw [List.getLast?_eq_getElem?] at h
  rw [if_pos (by omega), e]
  exact h
theorem work_ok {w : Way} {ks : List Int} {r : RowT} (hw : w.Ok) (hl : ks.length ≤ 30) (hr : RowOk ks r) (q : Q (.tuple [.list ((begun w :: (hist w (begun w) r).map (·.1)).map tabD), .list ((hist w (begun w) r).map toldD)])) : m_work [wayD w, rowD r] Q E := by
  have h24 := hr.len
  simp only [m_work_r, b1_work_r, zaa, zab, zac, zad, zae, zaf, zag, zah, zai, zaj, zak, zal, zam, zan, zao, zap, zaq, zar, zas, zat, zau, zav, zaw, zax, zay, zaz, zaA, zaB, zaC, zaD, zaE, zaF, zaG, zaH, zaI, zaJ, zaK, zaL, zaM, zaN, zaO, zaP, zaQ, zaR, zaS, zaT, zaU, zaV, startE, full, fullE, clean, cleanE, zaW, zaX, zaY, zaZ, zba, zbb, zbc, zbd, zbe, zbf, zbg, zbh, zbi, zbj, zbk, zbl, zbm, zbn, zbo, zbp, zbq, zbr, zbs, zbt, zbu, zbv, zbw, zbx, zby, zbz, zbA, zbB, zbC, zbD, zbE, zbF, zbG, zbH, zbI, zbJ, zbK, zbL, zbM, zbN, zbO, zbP, Bool.bne_false, Bool.bne_true, zbQ, zbR, zbS, zbT, zbU, zbV, zbW, zbX, zbY, zbZ, zca, zcb, zcc, zcd, zce, zcf, zcg, zch, zci, zcj, zck, zcl, zcm, zcn, zco, setAll, wipeR, setV, zcp, zcq, zcr, zcs, zct, zcu, zcv, zcw, zcx, zcy, zcz, zcA, zcB, zcC, List.any_cons, List.any_nil, List.map_cons, List.map_nil, List.length_cons, List.length_nil, List.replicate, Nat.sub_self, List.cons_append, List.nil_append, List.append_nil, List.getElem?_cons_zero, List.getElem?_cons_succ, List.set_cons_zero, List.set_cons_succ, List.set_nil, zcD, zcE, zcF, zcG, zcH, zcI, zcJ, zcK, zcL, zcM, zcN, zcO, zcP, zcQ, zcR, zcS, zcT, zcU, zcV, zcW, zcX, zcY, zcZ, zda, zdb, zdc, zdd, zde, zdf, zdg, zdh, zdi, zdj, zdk, zdl, zdm, zdn, zdo, zdp, zdq, zdr, zds, zdt, zdu, zdv, zdw, zdx, zdy, zdz, zdA, zdB, zdC, zdD, zdE, zdF, zdG]
  refine begun_ok ?_
  simp only [zaa, zab, zac, zad, zae, zaf, zag, zah, zai, zaj, zak, zal, zam, zan, zao, zap, zaq, zar, zas, zat, zau, zav, zaw, zax, zay, zaz, zaA, zaB, zaC, zaD, zaE, zaF, zaG, zaH, zaI, zaJ, zaK, zaL, zaM, zaN, zaO, zaP, zaQ, zaR, zaS, zaT, zaU, zaV, startE, full, fullE, clean, cleanE, zaW, zaX, zaY, zaZ, zba, zbb, zbc, zbd, zbe, zbf, zbg, zbh, zbi, zbj, zbk, zbl, zbm, zbn, zbo, zbp, zbq, zbr, zbs, zbt, zbu, zbv, zbw, zbx, zby, zbz, zbA, zbB, zbC, zbD, zbE, zbF, zbG, zbH, zbI, zbJ, zbK, zbL, zbM, zbN, zbO, zbP, Bool.bne_false, Bool.bne_true, zbQ, zbR, zbS, zbT, zbU, zbV, zbW, zbX, zbY, zbZ, zca, zcb, zcc, zcd, zce, zcf, zcg, zch, zci, zcj, zck, zcl, zcm, zcn, zco, setAll, wipeR, setV, zcp, zcq, zcr, zcs, zct, zcu, zcv, zcw, zcx, zcy, zcz, zcA, zcB, zcC, List.any_cons, List.any_nil, List.map_cons, List.map_nil, List.length_cons, List.length_nil, List.replicate, Nat.sub_self, List.cons_append, List.nil_append, List.append_nil, List.getElem?_cons_zero, List.getElem?_cons_succ, List.set_cons_zero, List.set_cons_succ, List.set_nil, zcD, zcE, zcF, zcG, zcH, zcI, zcJ, zcK, zcL, zcM, zcN, zcO, zcP, zcQ, zcR, zcS, zcT, zcU, zcV, zcW, zcX, zcY, zcZ, zda, zdb, zdc, zdd, zde, zdf, zdg, zdh, zdi, zdj, zdk, zdl, zdm, zdn, zdo, zdp, zdq, zdr, zds, zdt, zdu, zdv, zdw, zdx, zdy, zdz, zdA, zdB, zdC, zdD, zdE, zdF, zdG, rowD]
  refine ⟨by decide, by decide, ?_⟩
  refine forLoop_mp pD (fun r' Γ => ∃ t A B x y z u, Γ = [some (.val (wayD w)), some (.val (.tuple (r.map pD))), x, some (.own (.lst (A.map tabD))), some (.own (.lst (B.map toldD))), y, z, u] ∧ A.getLast? = some t ∧ Ok w ks t ∧ (∀ p ∈ r', KeyOk p.2 ∧ p.2 ∈ ks) ∧ A.length + r'.length ≤ 25 ∧ B.length + r'.length ≤ 24 ∧ A ++ (hist w t r').map (·.1) = begun w :: (hist w (begun w) r).map (·.1) ∧ B ++ hist w t r' = hist w (begun w) r)
    (fun Γ ⟨t, A, B, x, y, z, u, e, _, _, _, _, _, h1, h2⟩ => ?_) r (fun p r' Γ ⟨t, A, B, x, y, z, u, e, ha, o, hk, l1, l2, h1, h2⟩ nx hnx => ?_) _ ⟨begun w, [begun w], [], none, none, none, none, rfl, rfl, Ok.begun hw ks, hr.keys, by simp; omega, by simpa using h24, rfl, rfl⟩
  · subst e
    simp only [hist, List.map_nil, List.append_nil] at h1 h2
    simp only [zaa, zab, zac, zad, zae, zaf, zag, zah, zai, zaj, zak, zal, zam, zan, zao, zap, zaq, zar, zas, zat, zau, zav, zaw, zax, zay, zaz, zaA, zaB, zaC, zaD, zaE, zaF, zaG, zaH, zaI, zaJ, zaK, zaL, zaM, zaN, zaO, zaP, zaQ, zaR, zaS, zaT, zaU, zaV, startE, full, fullE, clean, cleanE, zaW, zaX, zaY, zaZ, zba, zbb, zbc, zbd, zbe, zbf, zbg, zbh, zbi, zbj, zbk, zbl, zbm, zbn, zbo, zbp, zbq, zbr, zbs, zbt, zbu, zbv, zbw, zbx, zby, zbz, zbA, zbB, zbC, zbD, zbE, zbF, zbG, zbH, zbI, zbJ, zbK, zbL, zbM, zbN, zbO, zbP, Bool.bne_false, Bool.bne_true, zbQ, zbR, zbS, zbT, zbU, zbV, zbW, zbX, zbY, zbZ, zca, zcb, zcc, zcd, zce, zcf, zcg, zch, zci, zcj, zck, zcl, zcm, zcn, zco, setAll, wipeR, setV, zcp, zcq, zcr, zcs, zct, zcu, zcv, zcw, zcx, zcy, zcz, zcA, zcB, zcC, List.any_cons, List.any_nil, List.map_cons, List.map_nil, List.length_cons, List.length_nil, List.replicate, Nat.sub_self, List.cons_append, List.nil_append, List.append_nil, List.getElem?_cons_zero, List.getElem?_cons_succ, List.set_cons_zero, List.set_cons_succ, List.set_nil, zcD, zcE, zcF, zcG, zcH, zcI, zcJ, zcK, zcL, zcM, zcN, zcO, zcP, zcQ, zcR, zcS, zcT, zcU, zcV, zcW, zcX, zcY, zcZ, zda, zdb, zdc, zdd, zde, zdf, zdg, zdh, zdi, zdj, zdk, zdl, zdm, zdn, zdo, zdp, zdq, zdr, zds, zdt, zdu, zdv, zdw, zdx, zdy, zdz, zdA, zdB, zdC, zdD, zdE, zdF, zdG]
    rw [h1, h2]
    exact ⟨by decide, q⟩
  · subst e
    simp only [List.length_cons] at l1 l2
    have hp := hk p List.mem_cons_self
    simp only [b3_work_r, b2_work_r, zaa, zab, zac, zad, zae, zaf, zag, zah, zai, zaj, zak, zal, zam, zan, zao, zap, zaq, zar, zas, zat, zau, zav, zaw, zax, zay, zaz, zaA, zaB, zaC, zaD, zaE, zaF, zaG, zaH, zaI, zaJ, zaK, zaL, zaM, zaN, zaO, zaP, zaQ, zaR, zaS, zaT, zaU, zaV, startE, full, fullE, clean, cleanE, zaW, zaX, zaY, zaZ, zba, zbb, zbc, zbd, zbe, zbf, zbg, zbh, zbi, zbj, zbk, zbl, zbm, zbn, zbo, zbp, zbq, zbr, zbs, zbt, zbu, zbv, zbw, zbx, zby, zbz, zbA, zbB, zbC, zbD, zbE, zbF, zbG, zbH, zbI, zbJ, zbK, zbL, zbM, zbN, zbO, zbP, Bool.bne_false, Bool.bne_true, zbQ, zbR, zbS, zbT, zbU, zbV, zbW, zbX, zbY, zbZ, zca, zcb, zcc, zcd, zce, zcf, zcg, zch, zci, zcj, zck, zcl, zcm, zcn, zco, setAll, wipeR, setV, zcp, zcq, zcr, zcs, zct, zcu, zcv, zcw, zcx, zcy, zcz, zcA, zcB, zcC, List.any_cons, List.any_nil, List.map_cons, List.map_nil, List.length_cons, List.length_nil, List.replicate, Nat.sub_self, List.cons_append, List.nil_append, List.append_nil, List.getElem?_cons_zero, List.getElem?_cons_succ, List.set_cons_zero, List.set_cons_succ, List.set_nil, zcD, zcE, zcF, zcG, zcH, zcI, zcJ, zcK, zcL, zcM, zcN, zcO, zcP, zcQ, zcR, zcS, zcT, zcU, zcV, zcW, zcX, zcY, zcZ, zda, zdb, zdc, zdd, zde, zdf, zdg, zdh, zdi, zdj, zdk, zdl, zdm, zdn, zdo, zdp, zdq, zdr, zds, zdt, zdu, zdv, zdw, zdx, zdy, zdz, zdA, zdB, zdC, zdD, zdE, zdF, zdG]
    have la : (A.map tabD).getLast? = some (tabD t) := by rw [List.getLast?_map, ha]; rfl
    rw [last_at la]
    simp only [zaa, zab, zac, zad, zae, zaf, zag, zah, zai, zaj, zak, zal, zam, zan, zao, zap, zaq, zar, zas, zat, zau, zav, zaw, zax, zay, zaz, zaA, zaB, zaC, zaD, zaE, zaF, zaG, zaH, zaI, zaJ, zaK, zaL, zaM, zaN, zaO, zaP, zaQ, zaR, zaS, zaT, zaU, zaV, startE, full, fullE, clean, cleanE, zaW, zaX, zaY, zaZ, zba, zbb, zbc, zbd, zbe, zbf, zbg, zbh, zbi, zbj, zbk, zbl, zbm, zbn, zbo, zbp, zbq, zbr, zbs, zbt, zbu, zbv, zbw, zbx, zby, zbz, zbA, zbB, zbC, zbD, zbE, zbF, zbG, zbH, zbI, zbJ, zbK, zbL, zbM, zbN, zbO, zbP, Bool.bne_false, Bool.bne_true, zbQ, zbR, zbS, zbT, zbU, zbV, zbW, zbX, zbY, zbZ, zca, zcb, zcc, zcd, zce, zcf, zcg, zch, zci, zcj, zck, zcl, zcm, zcn, zco, setAll, wipeR, setV, zcp, zcq, zcr, zcs, zct, zcu, zcv, zcw, zcx, zcy, zcz, zcA, zcB, zcC, List.any_cons, List.any_nil, List.map_cons, List.map_nil, List.length_cons, List.length_nil, List.replicate, Nat.sub_self, List.cons_append, List.nil_append, List.append_nil, List.getElem?_cons_zero, List.getElem?_cons_succ, List.set_cons_zero, List.set_cons_succ, List.set_nil, zcD, zcE, zcF, zcG, zcH, zcI, zcJ, zcK, zcL, zcM, zcN, zcO, zcP, zcQ, zcR, zcS, zcT, zcU, zcV, zcW, zcX, zcY, zcZ, zda, zdb, zdc, zdd, zde, zdf, zdg, zdh, zdi, zdj, zdk, zdl, zdm, zdn, zdo, zdp, zdq, zdr, zds, zdt, zdu, zdv, zdw, zdx, zdy, zdz, zdA, zdB, zdC, zdD, zdE, zdF, zdG]
    refine done_ok hw o hl ?_
    simp only [zaa, zab, zac, zad, zae, zaf, zag, zah, zai, zaj, zak, zal, zam, zan, zao, zap, zaq, zar, zas, zat, zau, zav, zaw, zax, zay, zaz, zaA, zaB, zaC, zaD, zaE, zaF, zaG, zaH, zaI, zaJ, zaK, zaL, zaM, zaN, zaO, zaP, zaQ, zaR, zaS, zaT, zaU, zaV, startE, full, fullE, clean, cleanE, zaW, zaX, zaY, zaZ, zba, zbb, zbc, zbd, zbe, zbf, zbg, zbh, zbi, zbj, zbk, zbl, zbm, zbn, zbo, zbp, zbq, zbr, zbs, zbt, zbu, zbv, zbw, zbx, zby, zbz, zbA, zbB, zbC, zbD, zbE, zbF, zbG, zbH, zbI, zbJ, zbK, zbL, zbM, zbN, zbO, zbP, Bool.bne_false, Bool.bne_true, zbQ, zbR, zbS, zbT, zbU, zbV, zbW, zbX, zbY, zbZ, zca, zcb, zcc, zcd, zce, zcf, zcg, zch, zci, zcj, zck, zcl, zcm, zcn, zco, setAll, wipeR, setV, zcp, zcq, zcr, zcs, zct, zcu, zcv, zcw, zcx, zcy, zcz, zcA, zcB, zcC, List.any_cons, List.any_nil, List.map_cons, List.map_nil, List.length_cons, List.length_nil, List.replicate, Nat.sub_self, List.cons_append, List.nil_append, List.append_nil, List.getElem?_cons_zero, List.getElem?_cons_succ, List.set_cons_zero, List.set_cons_succ, List.set_nil, zcD, zcE, zcF, zcG, zcH, zcI, zcJ, zcK, zcL, zcM, zcN, zcO, zcP, zcQ, zcR, zcS, zcT, zcU, zcV, zcW, zcX, zcY, zcZ, zda, zdb, zdc, zdd, zde, zdf, zdg, zdh, zdi, zdj, zdk, zdl, zdm, zdn, zdo, zdp, zdq, zdr, zds, zdt, zdu, zdv, zdw, zdx, zdy, zdz, zdA, zdB, zdC, zdD, zdE, zdF, zdG, pure_tab, reduceIte, Bool.false_eq_true, decide_true, decide_false, Bool.not_true, Bool.not_false, true_and, and_true, decide_not, Bool.true_bne, Bool.false_bne, Bool.not_not]
    refine ⟨by simp, by rw [List.length_map]; omega, by simp, by rw [List.length_map]; omega, ?_⟩
    have eG : ∀ a b : List D, a = (A ++ [done w t p.1 p.2]).map tabD → b = (B ++ [(done w t p.1 p.2, (found w t p.2).1.isSome, (found w t p.2).2)]).map toldD → ∀ x y z u, [some (Ent.val (wayD w)), some (.val (.tuple (r.map pD))), x, some (.own (.lst a)), some (.own (.lst b)), y, z, u] = [some (Ent.val (wayD w)), some (.val (.tuple (r.map pD))), x, some (.own (.lst ((A ++ [done w t p.1 p.2]).map tabD))), some (.own (.lst ((B ++ [(done w t p.1 p.2, (found w t p.2).1.isSome, (found w t p.2).2)]).map toldD))), y, z, u] := by
      rintro a b rfl rfl x y z u
      rfl
    refine hnx _ ⟨done w t p.1 p.2, A ++ [done w t p.1 p.2], B ++ [(done w t p.1 p.2, (found w t p.2).1.isSome, (found w t p.2).2)], _, _, _, _, eG _ _ (by simp) (by simp) _ _ _ _, by simp, o.done hw hp.1 hp.2 hl, fun s hs => hk s (List.mem_cons_of_mem _ hs), by simp; omega, by simp; omega, ?_, ?_⟩
    · rw [← h1]
      simp [hist]
    · rw [← h2]
      simp [hist]
theorem checked_ok {w : Way} {ks : List Int} {r : RowT} (hw : w.Ok) (hl : ks.length ≤ 30) (hr : RowOk ks r) (q : Q (.tuple [.list ((begun w :: (hist w (begun w) r).map (·.1)).map tabD), .list ((hist w (begun w) r).map toldD)])) : m_checked_work [wayD w, rowD r] Q E := by
  simp only [m_checked_work_r, zaa, zab, zac, zad, zae, zaf, zag, zah, zai, zaj, zak, zal, zam, zan, zao, zap, zaq, zar, zas, zat, zau, zav, zaw, zax, zay, zaz, zaA, zaB, zaC, zaD, zaE, zaF, zaG, zaH, zaI, zaJ, zaK, zaL, zaM, zaN, zaO, zaP, zaQ, zaR, zaS, zaT, zaU, zaV, startE, full, fullE, clean, cleanE, zaW, zaX, zaY, zaZ, zba, zbb, zbc, zbd, zbe, zbf, zbg, zbh, zbi, zbj, zbk, zbl, zbm, zbn, zbo, zbp, zbq, zbr, zbs, zbt, zbu, zbv, zbw, zbx, zby, zbz, zbA, zbB, zbC, zbD, zbE, zbF, zbG, zbH, zbI, zbJ, zbK, zbL, zbM, zbN, zbO, zbP, Bool.bne_false, Bool.bne_true, zbQ, zbR, zbS, zbT, zbU, zbV, zbW, zbX, zbY, zbZ, zca, zcb, zcc, zcd, zce, zcf, zcg, zch, zci, zcj, zck, zcl, zcm, zcn, zco, setAll, wipeR, setV, zcp, zcq, zcr, zcs, zct, zcu, zcv, zcw, zcx, zcy, zcz, zcA, zcB, zcC, List.any_cons, List.any_nil, List.map_cons, List.map_nil, List.length_cons, List.length_nil, List.replicate, Nat.sub_self, List.cons_append, List.nil_append, List.append_nil, List.getElem?_cons_zero, List.getElem?_cons_succ, List.set_cons_zero, List.set_cons_succ, List.set_nil, zcD, zcE, zcF, zcG, zcH, zcI, zcJ, zcK, zcL, zcM, zcN, zcO, zcP, zcQ, zcR, zcS, zcT, zcU, zcV, zcW, zcX, zcY, zcZ, zda, zdb, zdc, zdd, zde, zdf, zdg, zdh, zdi, zdj, zdk, zdl, zdm, zdn, zdo, zdp, zdq, zdr, zds, zdt, zdu, zdv, zdw, zdx, zdy, zdz, zdA, zdB, zdC, zdD, zdE, zdF, zdG]
  exact check_way_ok hw (check_row_ok hr (work_ok hw hl hr q))
theorem zip_map2 {α β γ : Type} (l : List α) (f : α → β) (g : α → γ) : (l.map f).zip (l.map g) = l.map fun x => (f x, g x) := by
  induction l with
  | nil => rfl
  | cons a r ih => simp [ih]
theorem run_ok {w : Way} {ks : List Int} {r : RowT} {x : String} (hw : w.Ok) (hl : ks.length ≤ 30) (hr : RowOk ks r) (hx : SightOk x) (q : Q (.tuple ((hist w (begun w) r).map fun z => seeD x z.1 z.2.2))) : m_run [wayD w, rowD r, .str (Str.ofString x)] Q E := by
  have h24 := hr.len
  have hlen := hist_len w (begun w) r
  have oh := Ok.hist hw hl (Ok.begun hw ks) hr.keys
  simp only [b1_run_r, m_run_r, zaa, zab, zac, zad, zae, zaf, zag, zah, zai, zaj, zak, zal, zam, zan, zao, zap, zaq, zar, zas, zat, zau, zav, zaw, zax, zay, zaz, zaA, zaB, zaC, zaD, zaE, zaF, zaG, zaH, zaI, zaJ, zaK, zaL, zaM, zaN, zaO, zaP, zaQ, zaR, zaS, zaT, zaU, zaV, startE, full, fullE, clean, cleanE, zaW, zaX, zaY, zaZ, zba, zbb, zbc, zbd, zbe, zbf, zbg, zbh, zbi, zbj, zbk, zbl, zbm, zbn, zbo, zbp, zbq, zbr, zbs, zbt, zbu, zbv, zbw, zbx, zby, zbz, zbA, zbB, zbC, zbD, zbE, zbF, zbG, zbH, zbI, zbJ, zbK, zbL, zbM, zbN, zbO, zbP, Bool.bne_false, Bool.bne_true, zbQ, zbR, zbS, zbT, zbU, zbV, zbW, zbX, zbY, zbZ, zca, zcb, zcc, zcd, zce, zcf, zcg, zch, zci, zcj, zck, zcl, zcm, zcn, zco, setAll, wipeR, setV, zcp, zcq, zcr, zcs, zct, zcu, zcv, zcw, zcx, zcy, zcz, zcA, zcB, zcC, List.any_cons, List.any_nil, List.map_cons, List.map_nil, List.length_cons, List.length_nil, List.replicate, Nat.sub_self, List.cons_append, List.nil_append, List.append_nil, List.getElem?_cons_zero, List.getElem?_cons_succ, List.set_cons_zero, List.set_cons_succ, List.set_nil, zcD, zcE, zcF, zcG, zcH, zcI, zcJ, zcK, zcL, zcM, zcN, zcO, zcP, zcQ, zcR, zcS, zcT, zcU, zcV, zcW, zcX, zcY, zcZ, zda, zdb, zdc, zdd, zde, zdf, zdg, zdh, zdi, zdj, zdk, zdl, zdm, zdn, zdo, zdp, zdq, zdr, zds, zdt, zdu, zdv, zdw, zdx, zdy, zdz, zdA, zdB, zdC, zdD, zdE, zdF, zdG]
  refine check_way_ok hw (check_row_ok hr (check_sight_ok hx ?_))
  simp only [m_seen_along_r, b1_seen_along_r, zaa, zab, zac, zad, zae, zaf, zag, zah, zai, zaj, zak, zal, zam, zan, zao, zap, zaq, zar, zas, zat, zau, zav, zaw, zax, zay, zaz, zaA, zaB, zaC, zaD, zaE, zaF, zaG, zaH, zaI, zaJ, zaK, zaL, zaM, zaN, zaO, zaP, zaQ, zaR, zaS, zaT, zaU, zaV, startE, full, fullE, clean, cleanE, zaW, zaX, zaY, zaZ, zba, zbb, zbc, zbd, zbe, zbf, zbg, zbh, zbi, zbj, zbk, zbl, zbm, zbn, zbo, zbp, zbq, zbr, zbs, zbt, zbu, zbv, zbw, zbx, zby, zbz, zbA, zbB, zbC, zbD, zbE, zbF, zbG, zbH, zbI, zbJ, zbK, zbL, zbM, zbN, zbO, zbP, Bool.bne_false, Bool.bne_true, zbQ, zbR, zbS, zbT, zbU, zbV, zbW, zbX, zbY, zbZ, zca, zcb, zcc, zcd, zce, zcf, zcg, zch, zci, zcj, zck, zcl, zcm, zcn, zco, setAll, wipeR, setV, zcp, zcq, zcr, zcs, zct, zcu, zcv, zcw, zcx, zcy, zcz, zcA, zcB, zcC, List.any_cons, List.any_nil, List.map_cons, List.map_nil, List.length_cons, List.length_nil, List.replicate, Nat.sub_self, List.cons_append, List.nil_append, List.append_nil, List.getElem?_cons_zero, List.getElem?_cons_succ, List.set_cons_zero, List.set_cons_succ, List.set_nil, zcD, zcE, zcF, zcG, zcH, zcI, zcJ, zcK, zcL, zcM, zcN, zcO, zcP, zcQ, zcR, zcS, zcT, zcU, zcV, zcW, zcX, zcY, zcZ, zda, zdb, zdc, zdd, zde, zdf, zdg, zdh, zdi, zdj, zdk, zdl, zdm, zdn, zdo, zdp, zdq, zdr, zds, zdt, zdu, zdv, zdw, zdx, zdy, zdz, zdA, zdB, zdC, zdD, zdE, zdF, zdG]
  refine work_ok hw hl hr ?_
  simp only [zaa, zab, zac, zad, zae, zaf, zag, zah, zai, zaj, zak, zal, zam, zan, zao, zap, zaq, zar, zas, zat, zau, zav, zaw, zax, zay, zaz, zaA, zaB, zaC, zaD, zaE, zaF, zaG, zaH, zaI, zaJ, zaK, zaL, zaM, zaN, zaO, zaP, zaQ, zaR, zaS, zaT, zaU, zaV, startE, full, fullE, clean, cleanE, zaW, zaX, zaY, zaZ, zba, zbb, zbc, zbd, zbe, zbf, zbg, zbh, zbi, zbj, zbk, zbl, zbm, zbn, zbo, zbp, zbq, zbr, zbs, zbt, zbu, zbv, zbw, zbx, zby, zbz, zbA, zbB, zbC, zbD, zbE, zbF, zbG, zbH, zbI, zbJ, zbK, zbL, zbM, zbN, zbO, zbP, Bool.bne_false, Bool.bne_true, zbQ, zbR, zbS, zbT, zbU, zbV, zbW, zbX, zbY, zbZ, zca, zcb, zcc, zcd, zce, zcf, zcg, zch, zci, zcj, zck, zcl, zcm, zcn, zco, setAll, wipeR, setV, zcp, zcq, zcr, zcs, zct, zcu, zcv, zcw, zcx, zcy, zcz, zcA, zcB, zcC, List.any_cons, List.any_nil, List.map_cons, List.map_nil, List.length_cons, List.length_nil, List.replicate, Nat.sub_self, List.cons_append, List.nil_append, List.append_nil, List.getElem?_cons_zero, List.getElem?_cons_succ, List.set_cons_zero, List.set_cons_succ, List.set_nil, zcD, zcE, zcF, zcG, zcH, zcI, zcJ, zcK, zcL, zcM, zcN, zcO, zcP, zcQ, zcR, zcS, zcT, zcU, zcV, zcW, zcX, zcY, zcZ, zda, zdb, zdc, zdd, zde, zdf, zdg, zdh, zdi, zdj, zdk, zdl, zdm, zdn, zdo, zdp, zdq, zdr, zds, zdt, zdu, zdv, zdw, zdx, zdy, zdz, zdA, zdB, zdC, zdD, zdE, zdF, zdG, b2_seen_along_r]
  rw [cut_from _ (by decide)]
  simp only [Int.toNat_one, List.map_cons, List.drop_succ_cons, List.drop_zero, List.map_map]
  rw [zip_map2, List.map_map]
  refine ⟨by rw [List.length_map]; omega, ?_⟩
  generalize hist w (begun w) r = l at q oh
  refine lcLoop_mp _ (fun z => seeD x z.1 z.2.2) (fun a ha kk hk => ?_) q
  simp only [Function.comp, zaa, zab, zac, zad, zae, zaf, zag, zah, zai, zaj, zak, zal, zam, zan, zao, zap, zaq, zar, zas, zat, zau, zav, zaw, zax, zay, zaz, zaA, zaB, zaC, zaD, zaE, zaF, zaG, zaH, zaI, zaJ, zaK, zaL, zaM, zaN, zaO, zaP, zaQ, zaR, zaS, zaT, zaU, zaV, startE, full, fullE, clean, cleanE, zaW, zaX, zaY, zaZ, zba, zbb, zbc, zbd, zbe, zbf, zbg, zbh, zbi, zbj, zbk, zbl, zbm, zbn, zbo, zbp, zbq, zbr, zbs, zbt, zbu, zbv, zbw, zbx, zby, zbz, zbA, zbB, zbC, zbD, zbE, zbF, zbG, zbH, zbI, zbJ, zbK, zbL, zbM, zbN, zbO, zbP, Bool.bne_false, Bool.bne_true, zbQ, zbR, zbS, zbT, zbU, zbV, zbW, zbX, zbY, zbZ, zca, zcb, zcc, zcd, zce, zcf, zcg, zch, zci, zcj, zck, zcl, zcm, zcn, zco, setAll, wipeR, setV, zcp, zcq, zcr, zcs, zct, zcu, zcv, zcw, zcx, zcy, zcz, zcA, zcB, zcC, List.any_cons, List.any_nil, List.map_cons, List.map_nil, List.length_cons, List.length_nil, List.replicate, Nat.sub_self, List.cons_append, List.nil_append, List.append_nil, List.getElem?_cons_zero, List.getElem?_cons_succ, List.set_cons_zero, List.set_cons_succ, List.set_nil, zcD, zcE, zcF, zcG, zcH, zcI, zcJ, zcK, zcL, zcM, zcN, zcO, zcP, zcQ, zcR, zcS, zcT, zcU, zcV, zcW, zcX, zcY, zcZ, zda, zdb, zdc, zdd, zde, zdf, zdg, zdh, zdi, zdj, zdk, zdl, zdm, zdn, zdo, zdp, zdq, zdr, zds, zdt, zdu, zdv, zdw, zdx, zdy, zdz, zdA, zdB, zdC, zdD, zdE, zdF, zdG]
  simp only [zaa, zab, zac, zad, zae, zaf, zag, zah, zai, zaj, zak, zal, zam, zan, zao, zap, zaq, zar, zas, zat, zau, zav, zaw, zax, zay, zaz, zaA, zaB, zaC, zaD, zaE, zaF, zaG, zaH, zaI, zaJ, zaK, zaL, zaM, zaN, zaO, zaP, zaQ, zaR, zaS, zaT, zaU, zaV, startE, full, fullE, clean, cleanE, zaW, zaX, zaY, zaZ, zba, zbb, zbc, zbd, zbe, zbf, zbg, zbh, zbi, zbj, zbk, zbl, zbm, zbn, zbo, zbp, zbq, zbr, zbs, zbt, zbu, zbv, zbw, zbx, zby, zbz, zbA, zbB, zbC, zbD, zbE, zbF, zbG, zbH, zbI, zbJ, zbK, zbL, zbM, zbN, zbO, zbP, Bool.bne_false, Bool.bne_true, zbQ, zbR, zbS, zbT, zbU, zbV, zbW, zbX, zbY, zbZ, zca, zcb, zcc, zcd, zce, zcf, zcg, zch, zci, zcj, zck, zcl, zcm, zcn, zco, setAll, wipeR, setV, zcp, zcq, zcr, zcs, zct, zcu, zcv, zcw, zcx, zcy, zcz, zcA, zcB, zcC, List.any_cons, List.any_nil, List.map_cons, List.map_nil, List.length_cons, List.length_nil, List.replicate, Nat.sub_self, List.cons_append, List.nil_append, List.append_nil, List.getElem?_cons_zero, List.getElem?_cons_succ, List.set_cons_zero, List.set_cons_succ, List.set_nil, zcD, zcE, zcF, zcG, zcH, zcI, zcJ, zcK, zcL, zcM, zcN, zcO, zcP, zcQ, zcR, zcS, zcT, zcU, zcV, zcW, zcX, zcY, zcZ, zda, zdb, zdc, zdd, zde, zdf, zdg, zdh, zdi, zdj, zdk, zdl, zdm, zdn, zdo, zdp, zdq, zdr, zds, zdt, zdu, zdv, zdw, zdx, zdy, zdz, zdA, zdB, zdC, zdD, zdE, zdF, zdG, reduceIte, Bool.false_eq_true, decide_true, decide_false, Bool.not_true, Bool.not_false, true_and, and_true, decide_not, Bool.true_bne, Bool.false_bne, Bool.not_not]
  exact seen_ok (oh a ha) hl hx hk
theorem after_ok {w : Way} {ks : List Int} {r : RowT} (hw : w.Ok) (hl : ks.length ≤ 30) (hr : RowOk ks r) (q : Q (tabD (endT w (begun w) r))) : m_table_after [wayD w, rowD r] Q E := by
  simp only [b1_table_after_r, m_table_after_r, zaa, zab, zac, zad, zae, zaf, zag, zah, zai, zaj, zak, zal, zam, zan, zao, zap, zaq, zar, zas, zat, zau, zav, zaw, zax, zay, zaz, zaA, zaB, zaC, zaD, zaE, zaF, zaG, zaH, zaI, zaJ, zaK, zaL, zaM, zaN, zaO, zaP, zaQ, zaR, zaS, zaT, zaU, zaV, startE, full, fullE, clean, cleanE, zaW, zaX, zaY, zaZ, zba, zbb, zbc, zbd, zbe, zbf, zbg, zbh, zbi, zbj, zbk, zbl, zbm, zbn, zbo, zbp, zbq, zbr, zbs, zbt, zbu, zbv, zbw, zbx, zby, zbz, zbA, zbB, zbC, zbD, zbE, zbF, zbG, zbH, zbI, zbJ, zbK, zbL, zbM, zbN, zbO, zbP, Bool.bne_false, Bool.bne_true, zbQ, zbR, zbS, zbT, zbU, zbV, zbW, zbX, zbY, zbZ, zca, zcb, zcc, zcd, zce, zcf, zcg, zch, zci, zcj, zck, zcl, zcm, zcn, zco, setAll, wipeR, setV, zcp, zcq, zcr, zcs, zct, zcu, zcv, zcw, zcx, zcy, zcz, zcA, zcB, zcC, List.any_cons, List.any_nil, List.map_cons, List.map_nil, List.length_cons, List.length_nil, List.replicate, Nat.sub_self, List.cons_append, List.nil_append, List.append_nil, List.getElem?_cons_zero, List.getElem?_cons_succ, List.set_cons_zero, List.set_cons_succ, List.set_nil, zcD, zcE, zcF, zcG, zcH, zcI, zcJ, zcK, zcL, zcM, zcN, zcO, zcP, zcQ, zcR, zcS, zcT, zcU, zcV, zcW, zcX, zcY, zcZ, zda, zdb, zdc, zdd, zde, zdf, zdg, zdh, zdi, zdj, zdk, zdl, zdm, zdn, zdo, zdp, zdq, zdr, zds, zdt, zdu, zdv, zdw, zdx, zdy, zdz, zdA, zdB, zdC, zdD, zdE, zdF, zdG]
  refine checked_ok hw hl hr ?_
  simp only [zaa, zab, zac, zad, zae, zaf, zag, zah, zai, zaj, zak, zal, zam, zan, zao, zap, zaq, zar, zas, zat, zau, zav, zaw, zax, zay, zaz, zaA, zaB, zaC, zaD, zaE, zaF, zaG, zaH, zaI, zaJ, zaK, zaL, zaM, zaN, zaO, zaP, zaQ, zaR, zaS, zaT, zaU, zaV, startE, full, fullE, clean, cleanE, zaW, zaX, zaY, zaZ, zba, zbb, zbc, zbd, zbe, zbf, zbg, zbh, zbi, zbj, zbk, zbl, zbm, zbn, zbo, zbp, zbq, zbr, zbs, zbt, zbu, zbv, zbw, zbx, zby, zbz, zbA, zbB, zbC, zbD, zbE, zbF, zbG, zbH, zbI, zbJ, zbK, zbL, zbM, zbN, zbO, zbP, Bool.bne_false, Bool.bne_true, zbQ, zbR, zbS, zbT, zbU, zbV, zbW, zbX, zbY, zbZ, zca, zcb, zcc, zcd, zce, zcf, zcg, zch, zci, zcj, zck, zcl, zcm, zcn, zco, setAll, wipeR, setV, zcp, zcq, zcr, zcs, zct, zcu, zcv, zcw, zcx, zcy, zcz, zcA, zcB, zcC, List.any_cons, List.any_nil, List.map_cons, List.map_nil, List.length_cons, List.length_nil, List.replicate, Nat.sub_self, List.cons_append, List.nil_append, List.append_nil, List.getElem?_cons_zero, List.getElem?_cons_succ, List.set_cons_zero, List.set_cons_succ, List.set_nil, zcD, zcE, zcF, zcG, zcH, zcI, zcJ, zcK, zcL, zcM, zcN, zcO, zcP, zcQ, zcR, zcS, zcT, zcU, zcV, zcW, zcX, zcY, zcZ, zda, zdb, zdc, zdd, zde, zdf, zdg, zdh, zdi, zdj, zdk, zdl, zdm, zdn, zdo, zdp, zdq, zdr, zds, zdt, zdu, zdv, zdw, zdx, zdy, zdz, zdA, zdB, zdC, zdD, zdE, zdF, zdG]
  rw [last_at (x := tabD (endT w (begun w) r))]
  · exact q
  · rw [← List.map_cons, List.getLast?_map, endT_hist]
    rfl
theorem were_ok {w : Way} {ks : List Int} {r : RowT} (hw : w.Ok) (hl : ks.length ≤ 30) (hr : RowOk ks r) (q : Q (.tuple ((hist w (begun w) r).map fun z => .bool z.2.1))) : m_were_found [wayD w, rowD r] Q E := by
  have h24 := hr.len
  have hlen := hist_len w (begun w) r
  simp only [b1_were_found_r, m_were_found_r, zaa, zab, zac, zad, zae, zaf, zag, zah, zai, zaj, zak, zal, zam, zan, zao, zap, zaq, zar, zas, zat, zau, zav, zaw, zax, zay, zaz, zaA, zaB, zaC, zaD, zaE, zaF, zaG, zaH, zaI, zaJ, zaK, zaL, zaM, zaN, zaO, zaP, zaQ, zaR, zaS, zaT, zaU, zaV, startE, full, fullE, clean, cleanE, zaW, zaX, zaY, zaZ, zba, zbb, zbc, zbd, zbe, zbf, zbg, zbh, zbi, zbj, zbk, zbl, zbm, zbn, zbo, zbp, zbq, zbr, zbs, zbt, zbu, zbv, zbw, zbx, zby, zbz, zbA, zbB, zbC, zbD, zbE, zbF, zbG, zbH, zbI, zbJ, zbK, zbL, zbM, zbN, zbO, zbP, Bool.bne_false, Bool.bne_true, zbQ, zbR, zbS, zbT, zbU, zbV, zbW, zbX, zbY, zbZ, zca, zcb, zcc, zcd, zce, zcf, zcg, zch, zci, zcj, zck, zcl, zcm, zcn, zco, setAll, wipeR, setV, zcp, zcq, zcr, zcs, zct, zcu, zcv, zcw, zcx, zcy, zcz, zcA, zcB, zcC, List.any_cons, List.any_nil, List.map_cons, List.map_nil, List.length_cons, List.length_nil, List.replicate, Nat.sub_self, List.cons_append, List.nil_append, List.append_nil, List.getElem?_cons_zero, List.getElem?_cons_succ, List.set_cons_zero, List.set_cons_succ, List.set_nil, zcD, zcE, zcF, zcG, zcH, zcI, zcJ, zcK, zcL, zcM, zcN, zcO, zcP, zcQ, zcR, zcS, zcT, zcU, zcV, zcW, zcX, zcY, zcZ, zda, zdb, zdc, zdd, zde, zdf, zdg, zdh, zdi, zdj, zdk, zdl, zdm, zdn, zdo, zdp, zdq, zdr, zds, zdt, zdu, zdv, zdw, zdx, zdy, zdz, zdA, zdB, zdC, zdD, zdE, zdF, zdG]
  refine checked_ok hw hl hr ?_
  simp only [zaa, zab, zac, zad, zae, zaf, zag, zah, zai, zaj, zak, zal, zam, zan, zao, zap, zaq, zar, zas, zat, zau, zav, zaw, zax, zay, zaz, zaA, zaB, zaC, zaD, zaE, zaF, zaG, zaH, zaI, zaJ, zaK, zaL, zaM, zaN, zaO, zaP, zaQ, zaR, zaS, zaT, zaU, zaV, startE, full, fullE, clean, cleanE, zaW, zaX, zaY, zaZ, zba, zbb, zbc, zbd, zbe, zbf, zbg, zbh, zbi, zbj, zbk, zbl, zbm, zbn, zbo, zbp, zbq, zbr, zbs, zbt, zbu, zbv, zbw, zbx, zby, zbz, zbA, zbB, zbC, zbD, zbE, zbF, zbG, zbH, zbI, zbJ, zbK, zbL, zbM, zbN, zbO, zbP, Bool.bne_false, Bool.bne_true, zbQ, zbR, zbS, zbT, zbU, zbV, zbW, zbX, zbY, zbZ, zca, zcb, zcc, zcd, zce, zcf, zcg, zch, zci, zcj, zck, zcl, zcm, zcn, zco, setAll, wipeR, setV, zcp, zcq, zcr, zcs, zct, zcu, zcv, zcw, zcx, zcy, zcz, zcA, zcB, zcC, List.any_cons, List.any_nil, List.map_cons, List.map_nil, List.length_cons, List.length_nil, List.replicate, Nat.sub_self, List.cons_append, List.nil_append, List.append_nil, List.getElem?_cons_zero, List.getElem?_cons_succ, List.set_cons_zero, List.set_cons_succ, List.set_nil, zcD, zcE, zcF, zcG, zcH, zcI, zcJ, zcK, zcL, zcM, zcN, zcO, zcP, zcQ, zcR, zcS, zcT, zcU, zcV, zcW, zcX, zcY, zcZ, zda, zdb, zdc, zdd, zde, zdf, zdg, zdh, zdi, zdj, zdk, zdl, zdm, zdn, zdo, zdp, zdq, zdr, zds, zdt, zdu, zdv, zdw, zdx, zdy, zdz, zdA, zdB, zdC, zdD, zdE, zdF, zdG, List.length_map]
  refine ⟨by omega, lcLoop_mp toldD (fun z => .bool z.2.1) (fun a ha kk hk => ?_) q⟩
  simp only [zaa, zab, zac, zad, zae, zaf, zag, zah, zai, zaj, zak, zal, zam, zan, zao, zap, zaq, zar, zas, zat, zau, zav, zaw, zax, zay, zaz, zaA, zaB, zaC, zaD, zaE, zaF, zaG, zaH, zaI, zaJ, zaK, zaL, zaM, zaN, zaO, zaP, zaQ, zaR, zaS, zaT, zaU, zaV, startE, full, fullE, clean, cleanE, zaW, zaX, zaY, zaZ, zba, zbb, zbc, zbd, zbe, zbf, zbg, zbh, zbi, zbj, zbk, zbl, zbm, zbn, zbo, zbp, zbq, zbr, zbs, zbt, zbu, zbv, zbw, zbx, zby, zbz, zbA, zbB, zbC, zbD, zbE, zbF, zbG, zbH, zbI, zbJ, zbK, zbL, zbM, zbN, zbO, zbP, Bool.bne_false, Bool.bne_true, zbQ, zbR, zbS, zbT, zbU, zbV, zbW, zbX, zbY, zbZ, zca, zcb, zcc, zcd, zce, zcf, zcg, zch, zci, zcj, zck, zcl, zcm, zcn, zco, setAll, wipeR, setV, zcp, zcq, zcr, zcs, zct, zcu, zcv, zcw, zcx, zcy, zcz, zcA, zcB, zcC, List.any_cons, List.any_nil, List.map_cons, List.map_nil, List.length_cons, List.length_nil, List.replicate, Nat.sub_self, List.cons_append, List.nil_append, List.append_nil, List.getElem?_cons_zero, List.getElem?_cons_succ, List.set_cons_zero, List.set_cons_succ, List.set_nil, zcD, zcE, zcF, zcG, zcH, zcI, zcJ, zcK, zcL, zcM, zcN, zcO, zcP, zcQ, zcR, zcS, zcT, zcU, zcV, zcW, zcX, zcY, zcZ, zda, zdb, zdc, zdd, zde, zdf, zdg, zdh, zdi, zdj, zdk, zdl, zdm, zdn, zdo, zdp, zdq, zdr, zds, zdt, zdu, zdv, zdw, zdx, zdy, zdz, zdA, zdB, zdC, zdD, zdE, zdF, zdG, reduceIte, Bool.false_eq_true, decide_true, decide_false, Bool.not_true, Bool.not_false, true_and, and_true, decide_not, Bool.true_bne, Bool.false_bne, Bool.not_not]
  exact hk
end
end G6

namespace G6
open PySem PySem.Spec L2 DL TM
section
variable {Q : D → Prop} {E : Str → Prop}
/-! ### what is drawn -/
structure SomeOk (most : Int) (ks : List Int) : Prop where
  len : (ks.length : Int) ≤ most
  pos : 1 ≤ ks.length
  keys : ∀ k ∈ ks, KeyOk k
  nodup : ks.Nodup
  sorted : ks.Pairwise (· ≤ ·)
theorem some_free {F : List Int} (hl : F.length ≤ 31) {k : Int} (hk : KeyOk k) : ∃ j : Nat, j ≤ 31 ∧ (k + j) % 32 ∉ F := by
  obtain ⟨k0, k1⟩ := hk
  by_cases h : ∀ j ∈ List.range 32, (k + (j : Nat)) % 32 ∈ F
  · have nd : ((List.range 32).map fun j : Nat => (k + j) % 32).Nodup := nodup_map fun i hi j hj e => by omega
    have := nodup_le nd fun x hx => by
      obtain ⟨j, hj, rfl⟩ := List.mem_map.mp hx
      exact h j hj
    simp at this
    omega
  · have : ∃ j, j ∈ List.range 32 ∧ (k + (j : Nat)) % 32 ∉ F := by
      by_cases hx : ∃ j, j ∈ List.range 32 ∧ (k + (j : Nat)) % 32 ∉ F
      · exact hx
      · exact absurd (fun j hj => Decidable.byContradiction fun z => hx ⟨j, hj, z⟩) h
    obtain ⟨j, hj, e⟩ := this
    exact ⟨j, by have := List.mem_range.mp hj; omega, e⟩
theorem some_inner {F : List Int} {a b c d e : Option Ent} {kk : KS} (hF : F.length ≤ 31) (q : ∀ k, KeyOk k → k ∉ F → kk.nx [a, b, c, d, e, some (.own (.lst (intsD F))), some (.val (.int k))]) {k : Int} (hk : KeyOk k) : b6__law_some [a, b, c, d, e, some (.own (.lst (intsD F))), some (.val (.int k))] kk := by
  rw [b6__law_some_r]
  obtain ⟨j, hj, ej⟩ := some_free hF hk
  refine while_ind (fun n Γ => ∃ k, Γ = [a, b, c, d, e, some (.own (.lst (intsD F))), some (.val (.int k))] ∧ KeyOk k ∧ ∃ j : Nat, j ≤ n ∧ (k + j) % 32 ∉ F) ?_ 31 _ ⟨k, rfl, hk, j, hj, ej⟩
  rintro n Γ ⟨k, rfl, hk, j, hj, ej⟩ nx hnx
  obtain ⟨k0, k1⟩ := hk
  simp only [zaa, zab, zac, zad, zae, zaf, zag, zah, zai, zaj, zak, zal, zam, zan, zao, zap, zaq, zar, zas, zat, zau, zav, zaw, zax, zay, zaz, zaA, zaB, zaC, zaD, zaE, zaF, zaG, zaH, zaI, zaJ, zaK, zaL, zaM, zaN, zaO, zaP, zaQ, zaR, zaS, zaT, zaU, zaV, startE, full, fullE, clean, cleanE, zaW, zaX, zaY, zaZ, zba, zbb, zbc, zbd, zbe, zbf, zbg, zbh, zbi, zbj, zbk, zbl, zbm, zbn, zbo, zbp, zbq, zbr, zbs, zbt, zbu, zbv, zbw, zbx, zby, zbz, zbA, zbB, zbC, zbD, zbE, zbF, zbG, zbH, zbI, zbJ, zbK, zbL, zbM, zbN, zbO, zbP, Bool.bne_false, Bool.bne_true, zbQ, zbR, zbS, zbT, zbU, zbV, zbW, zbX, zbY, zbZ, zca, zcb, zcc, zcd, zce, zcf, zcg, zch, zci, zcj, zck, zcl, zcm, zcn, zco, setAll, wipeR, setV, zcp, zcq, zcr, zcs, zct, zcu, zcv, zcw, zcx, zcy, zcz, zcA, zcB, zcC, List.any_cons, List.any_nil, List.map_cons, List.map_nil, List.length_cons, List.length_nil, List.replicate, Nat.sub_self, List.cons_append, List.nil_append, List.append_nil, List.getElem?_cons_zero, List.getElem?_cons_succ, List.set_cons_zero, List.set_cons_succ, List.set_nil, zcD, zcE, zcF, zcG, zcH, zcI, zcJ, zcK, zcL, zcM, zcN, zcO, zcP, zcQ, zcR, zcS, zcT, zcU, zcV, zcW, zcX, zcY, zcZ, zda, zdb, zdc, zdd, zde, zdf, zdg, zdh, zdi, zdj, zdk, zdl, zdm, zdn, zdo, zdp, zdq, zdr, zds, zdt, zdu, zdv, zdw, zdx, zdy, zdz, zdA, zdB, zdC, zdD, zdE, zdF, zdG, anyI, sh_intsL, reduceIte, Bool.false_eq_true, decide_true, decide_false, Bool.not_true, Bool.not_false, true_and, and_true, decide_not, Bool.true_bne, Bool.false_bne, Bool.not_not]
  by_cases hm : k ∈ F
  · have j0 : j ≠ 0 := fun z => by
      subst z
      have : (k + ((0 : Nat) : Int)) % 32 = k := by omega
      rw [this] at ej
      exact ej hm
    simp only [hm, reduceIte, Bool.false_eq_true, decide_true, decide_false, Bool.not_true, Bool.not_false, true_and, and_true, decide_not, Bool.true_bne, Bool.false_bne, Bool.not_not, zaa, zab, zac, zad, zae, zaf, zag, zah, zai, zaj, zak, zal, zam, zan, zao, zap, zaq, zar, zas, zat, zau, zav, zaw, zax, zay, zaz, zaA, zaB, zaC, zaD, zaE, zaF, zaG, zaH, zaI, zaJ, zaK, zaL, zaM, zaN, zaO, zaP, zaQ, zaR, zaS, zaT, zaU, zaV, startE, full, fullE, clean, cleanE, zaW, zaX, zaY, zaZ, zba, zbb, zbc, zbd, zbe, zbf, zbg, zbh, zbi, zbj, zbk, zbl, zbm, zbn, zbo, zbp, zbq, zbr, zbs, zbt, zbu, zbv, zbw, zbx, zby, zbz, zbA, zbB, zbC, zbD, zbE, zbF, zbG, zbH, zbI, zbJ, zbK, zbL, zbM, zbN, zbO, zbP, Bool.bne_false, Bool.bne_true, zbQ, zbR, zbS, zbT, zbU, zbV, zbW, zbX, zbY, zbZ, zca, zcb, zcc, zcd, zce, zcf, zcg, zch, zci, zcj, zck, zcl, zcm, zcn, zco, setAll, wipeR, setV, zcp, zcq, zcr, zcs, zct, zcu, zcv, zcw, zcx, zcy, zcz, zcA, zcB, zcC, List.any_cons, List.any_nil, List.map_cons, List.map_nil, List.length_cons, List.length_nil, List.replicate, Nat.sub_self, List.cons_append, List.nil_append, List.append_nil, List.getElem?_cons_zero, List.getElem?_cons_succ, List.set_cons_zero, List.set_cons_succ, List.set_nil, zcD, zcE, zcF, zcG, zcH, zcI, zcJ, zcK, zcL, zcM, zcN, zcO, zcP, zcQ, zcR, zcS, zcT, zcU, zcV, zcW, zcX, zcY, zcZ, zda, zdb, zdc, zdd, zde, zdf, zdg, zdh, zdi, zdj, zdk, zdl, zdm, zdn, zdo, zdp, zdq, zdr, zds, zdt, zdu, zdv, zdw, zdx, zdy, zdz, zdA, zdB, zdC, zdD, zdE, zdF, zdG, b5__law_some_r]
    refine ⟨by decide, hnx (n - 1) _ (by omega) ⟨(k + 1) % 32, rfl, ⟨by omega, by omega⟩, j - 1, by omega, ?_⟩⟩
    have : ((k + 1) % 32 + ((j - 1 : Nat) : Int)) % 32 = (k + j) % 32 := by omega
    rw [this]
    exact ej
  · simp only [hm, reduceIte, Bool.false_eq_true, decide_true, decide_false, Bool.not_true, Bool.not_false, true_and, and_true, decide_not, Bool.true_bne, Bool.false_bne, Bool.not_not, zaa, zab, zac, zad, zae, zaf, zag, zah, zai, zaj, zak, zal, zam, zan, zao, zap, zaq, zar, zas, zat, zau, zav, zaw, zax, zay, zaz, zaA, zaB, zaC, zaD, zaE, zaF, zaG, zaH, zaI, zaJ, zaK, zaL, zaM, zaN, zaO, zaP, zaQ, zaR, zaS, zaT, zaU, zaV, startE, full, fullE, clean, cleanE, zaW, zaX, zaY, zaZ, zba, zbb, zbc, zbd, zbe, zbf, zbg, zbh, zbi, zbj, zbk, zbl, zbm, zbn, zbo, zbp, zbq, zbr, zbs, zbt, zbu, zbv, zbw, zbx, zby, zbz, zbA, zbB, zbC, zbD, zbE, zbF, zbG, zbH, zbI, zbJ, zbK, zbL, zbM, zbN, zbO, zbP, Bool.bne_false, Bool.bne_true, zbQ, zbR, zbS, zbT, zbU, zbV, zbW, zbX, zbY, zbZ, zca, zcb, zcc, zcd, zce, zcf, zcg, zch, zci, zcj, zck, zcl, zcm, zcn, zco, setAll, wipeR, setV, zcp, zcq, zcr, zcs, zct, zcu, zcv, zcw, zcx, zcy, zcz, zcA, zcB, zcC, List.any_cons, List.any_nil, List.map_cons, List.map_nil, List.length_cons, List.length_nil, List.replicate, Nat.sub_self, List.cons_append, List.nil_append, List.append_nil, List.getElem?_cons_zero, List.getElem?_cons_succ, List.set_cons_zero, List.set_cons_succ, List.set_nil, zcD, zcE, zcF, zcG, zcH, zcI, zcJ, zcK, zcL, zcM, zcN, zcO, zcP, zcQ, zcR, zcS, zcT, zcU, zcV, zcW, zcX, zcY, zcZ, zda, zdb, zdc, zdd, zde, zdf, zdg, zdh, zdi, zdj, zdk, zdl, zdm, zdn, zdo, zdp, zdq, zdr, zds, zdt, zdu, zdv, zdw, zdx, zdy, zdz, zdA, zdB, zdC, zdD, zdE, zdF, zdG]
    exact q k ⟨k0, k1⟩ hm
theorem some_drawn {most : Int} (hm : 0 < most) (hm2 : most ≤ 20) (q : ∀ ks, SomeOk most ks → Q (.tuple (intsD ks))) : m__law_some [sD, tD, .int most] Q E := by
  simp only [m__law_some_r, b1__law_some_r, zaa, zab, zac, zad, zae, zaf, zag, zah, zai, zaj, zak, zal, zam, zan, zao, zap, zaq, zar, zas, zat, zau, zav, zaw, zax, zay, zaz, zaA, zaB, zaC, zaD, zaE, zaF, zaG, zaH, zaI, zaJ, zaK, zaL, zaM, zaN, zaO, zaP, zaQ, zaR, zaS, zaT, zaU, zaV, startE, full, fullE, clean, cleanE, zaW, zaX, zaY, zaZ, zba, zbb, zbc, zbd, zbe, zbf, zbg, zbh, zbi, zbj, zbk, zbl, zbm, zbn, zbo, zbp, zbq, zbr, zbs, zbt, zbu, zbv, zbw, zbx, zby, zbz, zbA, zbB, zbC, zbD, zbE, zbF, zbG, zbH, zbI, zbJ, zbK, zbL, zbM, zbN, zbO, zbP, Bool.bne_false, Bool.bne_true, zbQ, zbR, zbS, zbT, zbU, zbV, zbW, zbX, zbY, zbZ, zca, zcb, zcc, zcd, zce, zcf, zcg, zch, zci, zcj, zck, zcl, zcm, zcn, zco, setAll, wipeR, setV, zcp, zcq, zcr, zcs, zct, zcu, zcv, zcw, zcx, zcy, zcz, zcA, zcB, zcC, List.any_cons, List.any_nil, List.map_cons, List.map_nil, List.length_cons, List.length_nil, List.replicate, Nat.sub_self, List.cons_append, List.nil_append, List.append_nil, List.getElem?_cons_zero, List.getElem?_cons_succ, List.set_cons_zero, List.set_cons_succ, List.set_nil, zcD, zcE, zcF, zcG, zcH, zcI, zcJ, zcK, zcL, zcM, zcN, zcO, zcP, zcQ, zcR, zcS, zcT, zcU, zcV, zcW, zcX, zcY, zcZ, zda, zdb, zdc, zdd, zde, zdf, zdg, zdh, zdi, zdj, zdk, zdl, zdm, zdn, zdo, zdp, zdq, zdr, zds, zdt, zdu, zdv, zdw, zdx, zdy, zdz, zdA, zdB, zdC, zdD, zdE, zdF, zdG]
  refine ⟨hm, by omega, fun r r0 r1 => ?_⟩
  refine ⟨by decide, by decide, fun b b0 b1 => ?_⟩
  refine ⟨by decide, ?_⟩
  rw [b8__law_some_r]
  refine while_ind (fun n Γ => ∃ F x, Γ = [some (.val sD), some (.val tD), some (.val (.int most)), some (.val (.int (1 + r))), some (.val (.int b)), some (.own (.lst (intsD F))), x] ∧ (F.length : Int) + n = 1 + r ∧ F.Nodup ∧ ∀ k ∈ F, KeyOk k) ?_ (1 + r).toNat _ ⟨[], none, rfl, by simp; omega, by simp, by simp⟩
  rintro n Γ ⟨F, x, rfl, hl, nd, hk⟩ nx hnx
  simp only [zaa, zab, zac, zad, zae, zaf, zag, zah, zai, zaj, zak, zal, zam, zan, zao, zap, zaq, zar, zas, zat, zau, zav, zaw, zax, zay, zaz, zaA, zaB, zaC, zaD, zaE, zaF, zaG, zaH, zaI, zaJ, zaK, zaL, zaM, zaN, zaO, zaP, zaQ, zaR, zaS, zaT, zaU, zaV, startE, full, fullE, clean, cleanE, zaW, zaX, zaY, zaZ, zba, zbb, zbc, zbd, zbe, zbf, zbg, zbh, zbi, zbj, zbk, zbl, zbm, zbn, zbo, zbp, zbq, zbr, zbs, zbt, zbu, zbv, zbw, zbx, zby, zbz, zbA, zbB, zbC, zbD, zbE, zbF, zbG, zbH, zbI, zbJ, zbK, zbL, zbM, zbN, zbO, zbP, Bool.bne_false, Bool.bne_true, zbQ, zbR, zbS, zbT, zbU, zbV, zbW, zbX, zbY, zbZ, zca, zcb, zcc, zcd, zce, zcf, zcg, zch, zci, zcj, zck, zcl, zcm, zcn, zco, setAll, wipeR, setV, zcp, zcq, zcr, zcs, zct, zcu, zcv, zcw, zcx, zcy, zcz, zcA, zcB, zcC, List.any_cons, List.any_nil, List.map_cons, List.map_nil, List.length_cons, List.length_nil, List.replicate, Nat.sub_self, List.cons_append, List.nil_append, List.append_nil, List.getElem?_cons_zero, List.getElem?_cons_succ, List.set_cons_zero, List.set_cons_succ, List.set_nil, zcD, zcE, zcF, zcG, zcH, zcI, zcJ, zcK, zcL, zcM, zcN, zcO, zcP, zcQ, zcR, zcS, zcT, zcU, zcV, zcW, zcX, zcY, zcZ, zda, zdb, zdc, zdd, zde, zdf, zdg, zdh, zdi, zdj, zdk, zdl, zdm, zdn, zdo, zdp, zdq, zdr, zds, zdt, zdu, zdv, zdw, zdx, zdy, zdz, zdA, zdB, zdC, zdD, zdE, zdF, zdG, intsD_len]
  by_cases h0 : (F.length : Int) < 1 + r
  · simp only [h0, reduceIte, Bool.false_eq_true, decide_true, decide_false, Bool.not_true, Bool.not_false, true_and, and_true, decide_not, Bool.true_bne, Bool.false_bne, Bool.not_not]
    simp only [b7__law_some_r, b2__law_some_r, zaa, zab, zac, zad, zae, zaf, zag, zah, zai, zaj, zak, zal, zam, zan, zao, zap, zaq, zar, zas, zat, zau, zav, zaw, zax, zay, zaz, zaA, zaB, zaC, zaD, zaE, zaF, zaG, zaH, zaI, zaJ, zaK, zaL, zaM, zaN, zaO, zaP, zaQ, zaR, zaS, zaT, zaU, zaV, startE, full, fullE, clean, cleanE, zaW, zaX, zaY, zaZ, zba, zbb, zbc, zbd, zbe, zbf, zbg, zbh, zbi, zbj, zbk, zbl, zbm, zbn, zbo, zbp, zbq, zbr, zbs, zbt, zbu, zbv, zbw, zbx, zby, zbz, zbA, zbB, zbC, zbD, zbE, zbF, zbG, zbH, zbI, zbJ, zbK, zbL, zbM, zbN, zbO, zbP, Bool.bne_false, Bool.bne_true, zbQ, zbR, zbS, zbT, zbU, zbV, zbW, zbX, zbY, zbZ, zca, zcb, zcc, zcd, zce, zcf, zcg, zch, zci, zcj, zck, zcl, zcm, zcn, zco, setAll, wipeR, setV, zcp, zcq, zcr, zcs, zct, zcu, zcv, zcw, zcx, zcy, zcz, zcA, zcB, zcC, List.any_cons, List.any_nil, List.map_cons, List.map_nil, List.length_cons, List.length_nil, List.replicate, Nat.sub_self, List.cons_append, List.nil_append, List.append_nil, List.getElem?_cons_zero, List.getElem?_cons_succ, List.set_cons_zero, List.set_cons_succ, List.set_nil, zcD, zcE, zcF, zcG, zcH, zcI, zcJ, zcK, zcL, zcM, zcN, zcO, zcP, zcQ, zcR, zcS, zcT, zcU, zcV, zcW, zcX, zcY, zcZ, zda, zdb, zdc, zdd, zde, zdf, zdg, zdh, zdi, zdj, zdk, zdl, zdm, zdn, zdo, zdp, zdq, zdr, zds, zdt, zdu, zdv, zdw, zdx, zdy, zdz, zdA, zdB, zdC, zdD, zdE, zdF, zdG]
    refine ⟨by decide, by decide, fun k k0 k1 => ?_⟩
    simp only [b4__law_some_r, zaa, zab, zac, zad, zae, zaf, zag, zah, zai, zaj, zak, zal, zam, zan, zao, zap, zaq, zar, zas, zat, zau, zav, zaw, zax, zay, zaz, zaA, zaB, zaC, zaD, zaE, zaF, zaG, zaH, zaI, zaJ, zaK, zaL, zaM, zaN, zaO, zaP, zaQ, zaR, zaS, zaT, zaU, zaV, startE, full, fullE, clean, cleanE, zaW, zaX, zaY, zaZ, zba, zbb, zbc, zbd, zbe, zbf, zbg, zbh, zbi, zbj, zbk, zbl, zbm, zbn, zbo, zbp, zbq, zbr, zbs, zbt, zbu, zbv, zbw, zbx, zby, zbz, zbA, zbB, zbC, zbD, zbE, zbF, zbG, zbH, zbI, zbJ, zbK, zbL, zbM, zbN, zbO, zbP, Bool.bne_false, Bool.bne_true, zbQ, zbR, zbS, zbT, zbU, zbV, zbW, zbX, zbY, zbZ, zca, zcb, zcc, zcd, zce, zcf, zcg, zch, zci, zcj, zck, zcl, zcm, zcn, zco, setAll, wipeR, setV, zcp, zcq, zcr, zcs, zct, zcu, zcv, zcw, zcx, zcy, zcz, zcA, zcB, zcC, List.any_cons, List.any_nil, List.map_cons, List.map_nil, List.length_cons, List.length_nil, List.replicate, Nat.sub_self, List.cons_append, List.nil_append, List.append_nil, List.getElem?_cons_zero, List.getElem?_cons_succ, List.set_cons_zero, List.set_cons_succ, List.set_nil, zcD, zcE, zcF, zcG, zcH, zcI, zcJ, zcK, zcL, zcM, zcN, zcO, zcP, zcQ, zcR, zcS, zcT, zcU, zcV, zcW, zcX, zcY, zcZ, zda, zdb, zdc, zdd, zde, zdf, zdg, zdh, zdi, zdj, zdk, zdl, zdm, zdn, zdo, zdp, zdq, zdr, zds, zdt, zdu, zdv, zdw, zdx, zdy, zdz, zdA, zdB, zdC, zdD, zdE, zdF, zdG]
    refine ⟨by decide, by decide, fun z z0 z1 => ?_⟩
    have fin : ∀ k, KeyOk k → b6__law_some [some (.val sD), some (.val tD), some (.val (.int most)), some (.val (.int (1 + r))), some (.val (.int b)), some (.own (.lst (intsD F))), some (.val (.int k))] { nx := fun Γ' => sApp 5 (eVar 6) Γ' { nx := nx, rt := Q, bk := fun Γ' => b9__law_some Γ' { nx := fun _ => Q .none, rt := Q }, ct := nx }, rt := Q, bk := fun Γ' => b9__law_some Γ' { nx := fun _ => Q .none, rt := Q }, ct := nx } := by
      intro k hk'
      refine some_inner (by omega) (fun k hk2 hn => ?_) hk'
      simp only [zaa, zab, zac, zad, zae, zaf, zag, zah, zai, zaj, zak, zal, zam, zan, zao, zap, zaq, zar, zas, zat, zau, zav, zaw, zax, zay, zaz, zaA, zaB, zaC, zaD, zaE, zaF, zaG, zaH, zaI, zaJ, zaK, zaL, zaM, zaN, zaO, zaP, zaQ, zaR, zaS, zaT, zaU, zaV, startE, full, fullE, clean, cleanE, zaW, zaX, zaY, zaZ, zba, zbb, zbc, zbd, zbe, zbf, zbg, zbh, zbi, zbj, zbk, zbl, zbm, zbn, zbo, zbp, zbq, zbr, zbs, zbt, zbu, zbv, zbw, zbx, zby, zbz, zbA, zbB, zbC, zbD, zbE, zbF, zbG, zbH, zbI, zbJ, zbK, zbL, zbM, zbN, zbO, zbP, Bool.bne_false, Bool.bne_true, zbQ, zbR, zbS, zbT, zbU, zbV, zbW, zbX, zbY, zbZ, zca, zcb, zcc, zcd, zce, zcf, zcg, zch, zci, zcj, zck, zcl, zcm, zcn, zco, setAll, wipeR, setV, zcp, zcq, zcr, zcs, zct, zcu, zcv, zcw, zcx, zcy, zcz, zcA, zcB, zcC, List.any_cons, List.any_nil, List.map_cons, List.map_nil, List.length_cons, List.length_nil, List.replicate, Nat.sub_self, List.cons_append, List.nil_append, List.append_nil, List.getElem?_cons_zero, List.getElem?_cons_succ, List.set_cons_zero, List.set_cons_succ, List.set_nil, zcD, zcE, zcF, zcG, zcH, zcI, zcJ, zcK, zcL, zcM, zcN, zcO, zcP, zcQ, zcR, zcS, zcT, zcU, zcV, zcW, zcX, zcY, zcZ, zda, zdb, zdc, zdd, zde, zdf, zdg, zdh, zdi, zdj, zdk, zdl, zdm, zdn, zdo, zdp, zdq, zdr, zds, zdt, zdu, zdv, zdw, zdx, zdy, zdz, zdA, zdB, zdC, zdD, zdE, zdF, zdG]
      refine ⟨by rw [intsD_len]; omega, hnx (n - 1) _ (by omega) ⟨F ++ [k], some (.val (.int k)), by simp [intsD], by simp; omega, ?_, fun x hx => ?_⟩⟩
      · rw [List.nodup_append]
        refine ⟨nd, by simp, fun a ha c hc e => ?_⟩
        simp at hc
        exact hn (by rw [← hc, ← e]; exact ha)
      · rcases List.mem_append.mp hx with w | w
        · exact hk x w
        · simp at w
          rw [w]
          exact hk2
    by_cases hz : 0 < z
    · simp only [hz, reduceIte, Bool.false_eq_true, decide_true, decide_false, Bool.not_true, Bool.not_false, true_and, and_true, decide_not, Bool.true_bne, Bool.false_bne, Bool.not_not, b3__law_some_r, zaa, zab, zac, zad, zae, zaf, zag, zah, zai, zaj, zak, zal, zam, zan, zao, zap, zaq, zar, zas, zat, zau, zav, zaw, zax, zay, zaz, zaA, zaB, zaC, zaD, zaE, zaF, zaG, zaH, zaI, zaJ, zaK, zaL, zaM, zaN, zaO, zaP, zaQ, zaR, zaS, zaT, zaU, zaV, startE, full, fullE, clean, cleanE, zaW, zaX, zaY, zaZ, zba, zbb, zbc, zbd, zbe, zbf, zbg, zbh, zbi, zbj, zbk, zbl, zbm, zbn, zbo, zbp, zbq, zbr, zbs, zbt, zbu, zbv, zbw, zbx, zby, zbz, zbA, zbB, zbC, zbD, zbE, zbF, zbG, zbH, zbI, zbJ, zbK, zbL, zbM, zbN, zbO, zbP, Bool.bne_false, Bool.bne_true, zbQ, zbR, zbS, zbT, zbU, zbV, zbW, zbX, zbY, zbZ, zca, zcb, zcc, zcd, zce, zcf, zcg, zch, zci, zcj, zck, zcl, zcm, zcn, zco, setAll, wipeR, setV, zcp, zcq, zcr, zcs, zct, zcu, zcv, zcw, zcx, zcy, zcz, zcA, zcB, zcC, List.any_cons, List.any_nil, List.map_cons, List.map_nil, List.length_cons, List.length_nil, List.replicate, Nat.sub_self, List.cons_append, List.nil_append, List.append_nil, List.getElem?_cons_zero, List.getElem?_cons_succ, List.set_cons_zero, List.set_cons_succ, List.set_nil, zcD, zcE, zcF, zcG, zcH, zcI, zcJ, zcK, zcL, zcM, zcN, zcO, zcP, zcQ, zcR, zcS, zcT, zcU, zcV, zcW, zcX, zcY, zcZ, zda, zdb, zdc, zdd, zde, zdf, zdg, zdh, zdi, zdj, zdk, zdl, zdm, zdn, zdo, zdp, zdq, zdr, zds, zdt, zdu, zdv, zdw, zdx, zdy, zdz, zdA, zdB, zdC, zdD, zdE, zdF, zdG]
      refine ⟨⟨by decide, by decide⟩, cm (by omega), fin _ ⟨by omega, by omega⟩⟩
    · simp only [hz, reduceIte, Bool.false_eq_true, decide_true, decide_false, Bool.not_true, Bool.not_false, true_and, and_true, decide_not, Bool.true_bne, Bool.false_bne, Bool.not_not, zaa, zab, zac, zad, zae, zaf, zag, zah, zai, zaj, zak, zal, zam, zan, zao, zap, zaq, zar, zas, zat, zau, zav, zaw, zax, zay, zaz, zaA, zaB, zaC, zaD, zaE, zaF, zaG, zaH, zaI, zaJ, zaK, zaL, zaM, zaN, zaO, zaP, zaQ, zaR, zaS, zaT, zaU, zaV, startE, full, fullE, clean, cleanE, zaW, zaX, zaY, zaZ, zba, zbb, zbc, zbd, zbe, zbf, zbg, zbh, zbi, zbj, zbk, zbl, zbm, zbn, zbo, zbp, zbq, zbr, zbs, zbt, zbu, zbv, zbw, zbx, zby, zbz, zbA, zbB, zbC, zbD, zbE, zbF, zbG, zbH, zbI, zbJ, zbK, zbL, zbM, zbN, zbO, zbP, Bool.bne_false, Bool.bne_true, zbQ, zbR, zbS, zbT, zbU, zbV, zbW, zbX, zbY, zbZ, zca, zcb, zcc, zcd, zce, zcf, zcg, zch, zci, zcj, zck, zcl, zcm, zcn, zco, setAll, wipeR, setV, zcp, zcq, zcr, zcs, zct, zcu, zcv, zcw, zcx, zcy, zcz, zcA, zcB, zcC, List.any_cons, List.any_nil, List.map_cons, List.map_nil, List.length_cons, List.length_nil, List.replicate, Nat.sub_self, List.cons_append, List.nil_append, List.append_nil, List.getElem?_cons_zero, List.getElem?_cons_succ, List.set_cons_zero, List.set_cons_succ, List.set_nil, zcD, zcE, zcF, zcG, zcH, zcI, zcJ, zcK, zcL, zcM, zcN, zcO, zcP, zcQ, zcR, zcS, zcT, zcU, zcV, zcW, zcX, zcY, zcZ, zda, zdb, zdc, zdd, zde, zdf, zdg, zdh, zdi, zdj, zdk, zdl, zdm, zdn, zdo, zdp, zdq, zdr, zds, zdt, zdu, zdv, zdw, zdx, zdy, zdz, zdA, zdB, zdC, zdD, zdE, zdF, zdG]
      exact fin k ⟨k0, by omega⟩
  · simp only [h0, reduceIte, Bool.false_eq_true, decide_true, decide_false, Bool.not_true, Bool.not_false, true_and, and_true, decide_not, Bool.true_bne, Bool.false_bne, Bool.not_not, zaa, zab, zac, zad, zae, zaf, zag, zah, zai, zaj, zak, zal, zam, zan, zao, zap, zaq, zar, zas, zat, zau, zav, zaw, zax, zay, zaz, zaA, zaB, zaC, zaD, zaE, zaF, zaG, zaH, zaI, zaJ, zaK, zaL, zaM, zaN, zaO, zaP, zaQ, zaR, zaS, zaT, zaU, zaV, startE, full, fullE, clean, cleanE, zaW, zaX, zaY, zaZ, zba, zbb, zbc, zbd, zbe, zbf, zbg, zbh, zbi, zbj, zbk, zbl, zbm, zbn, zbo, zbp, zbq, zbr, zbs, zbt, zbu, zbv, zbw, zbx, zby, zbz, zbA, zbB, zbC, zbD, zbE, zbF, zbG, zbH, zbI, zbJ, zbK, zbL, zbM, zbN, zbO, zbP, Bool.bne_false, Bool.bne_true, zbQ, zbR, zbS, zbT, zbU, zbV, zbW, zbX, zbY, zbZ, zca, zcb, zcc, zcd, zce, zcf, zcg, zch, zci, zcj, zck, zcl, zcm, zcn, zco, setAll, wipeR, setV, zcp, zcq, zcr, zcs, zct, zcu, zcv, zcw, zcx, zcy, zcz, zcA, zcB, zcC, List.any_cons, List.any_nil, List.map_cons, List.map_nil, List.length_cons, List.length_nil, List.replicate, Nat.sub_self, List.cons_append, List.nil_append, List.append_nil, List.getElem?_cons_zero, List.getElem?_cons_succ, List.set_cons_zero, List.set_cons_succ, List.set_nil, zcD, zcE, zcF, zcG, zcH, zcI, zcJ, zcK, zcL, zcM, zcN, zcO, zcP, zcQ, zcR, zcS, zcT, zcU, zcV, zcW, zcX, zcY, zcZ, zda, zdb, zdc, zdd, zde, zdf, zdg, zdh, zdi, zdj, zdk, zdl, zdm, zdn, zdo, zdp, zdq, zdr, zds, zdt, zdu, zdv, zdw, zdx, zdy, zdz, zdA, zdB, zdC, zdD, zdE, zdF, zdG, b9__law_some_r]
    refine ⟨srt_ints F, ?_⟩
    rw [sortL_ints]
    have hp := List.mergeSort_perm F (fun a b => decide (a ≤ b))
    refine q _ ⟨by rw [hp.length_eq]; omega, by rw [hp.length_eq]; omega, fun k hk' => hk k (hp.mem_iff.mp hk'), hp.symm.nodup nd, ?_⟩
    have := List.pairwise_mergeSort (le := fun a b : Int => decide (a ≤ b)) (fun a b c h1 h2 => by simp at *; omega) (fun a b => by simp; omega) F
    exact this.imp fun h => by simpa using h
theorem pickKind {i : Int} {Q : D → Prop} (h0 : 0 ≤ i) (h1 : i < 6) (h : ∀ kd : Deed3, Q (.str (Str.ofString (kindS kd)))) : orStuck (atI [.str (Str.ofString "put"), .str (Str.ofString "put"), .str (Str.ofString "put"), .str (Str.ofString "take"), .str (Str.ofString "take"), .str (Str.ofString "ask")] i) Q := by
  refine pickW ["put", "put", "put", "take", "take", "ask"] h0 (by simpa using h1) fun w hw => ?_
  simp at hw
  rcases hw with rfl | rfl | rfl
  · exact h .put
  · exact h .take
  · exact h .ask
theorem deeds_drawn {most : Int} {ks : List Int} (hm : 0 ≤ most) (hm2 : most ≤ 100) (hk : 1 ≤ ks.length) (hk2 : ks.length ≤ 100) (q : ∀ r : RowT, (r.length : Int) ≤ most → (∀ p ∈ r, p.2 ∈ ks) → Q (rowD r)) : m__law_deeds [sD, tD, .tuple (intsD ks), .int most] Q E := by
  simp only [m__law_deeds_r, b3__law_deeds_r, zaa, zab, zac, zad, zae, zaf, zag, zah, zai, zaj, zak, zal, zam, zan, zao, zap, zaq, zar, zas, zat, zau, zav, zaw, zax, zay, zaz, zaA, zaB, zaC, zaD, zaE, zaF, zaG, zaH, zaI, zaJ, zaK, zaL, zaM, zaN, zaO, zaP, zaQ, zaR, zaS, zaT, zaU, zaV, startE, full, fullE, clean, cleanE, zaW, zaX, zaY, zaZ, zba, zbb, zbc, zbd, zbe, zbf, zbg, zbh, zbi, zbj, zbk, zbl, zbm, zbn, zbo, zbp, zbq, zbr, zbs, zbt, zbu, zbv, zbw, zbx, zby, zbz, zbA, zbB, zbC, zbD, zbE, zbF, zbG, zbH, zbI, zbJ, zbK, zbL, zbM, zbN, zbO, zbP, Bool.bne_false, Bool.bne_true, zbQ, zbR, zbS, zbT, zbU, zbV, zbW, zbX, zbY, zbZ, zca, zcb, zcc, zcd, zce, zcf, zcg, zch, zci, zcj, zck, zcl, zcm, zcn, zco, setAll, wipeR, setV, zcp, zcq, zcr, zcs, zct, zcu, zcv, zcw, zcx, zcy, zcz, zcA, zcB, zcC, List.any_cons, List.any_nil, List.map_cons, List.map_nil, List.length_cons, List.length_nil, List.replicate, Nat.sub_self, List.cons_append, List.nil_append, List.append_nil, List.getElem?_cons_zero, List.getElem?_cons_succ, List.set_cons_zero, List.set_cons_succ, List.set_nil, zcD, zcE, zcF, zcG, zcH, zcI, zcJ, zcK, zcL, zcM, zcN, zcO, zcP, zcQ, zcR, zcS, zcT, zcU, zcV, zcW, zcX, zcY, zcZ, zda, zdb, zdc, zdd, zde, zdf, zdg, zdh, zdi, zdj, zdk, zdl, zdm, zdn, zdo, zdp, zdq, zdr, zds, zdt, zdu, zdv, zdw, zdx, zdy, zdz, zdA, zdB, zdC, zdD, zdE, zdF, zdG]
  refine ⟨by decide, by omega, by omega, fun n n0 n1 => ?_⟩
  refine ⟨by omega, by omega, ?_⟩
  rw [upTo_ints]
  refine forLoop_mp PyData.int (fun l Γ => ∃ (r : RowT) (x y : Option Ent), Γ = [some (.val sD), some (.val tD), some (.val (.tuple (intsD ks))), some (.val (.int most)), some (.own (.lst (r.map pD))), x, y] ∧ (r.length : Int) + l.length = n ∧ ∀ p ∈ r, p.2 ∈ ks) (fun Γ ⟨r, x, y, e, hl, hr⟩ => ?_) _ (fun a l Γ ⟨r, x, y, e, hl, hr⟩ nx hnx => ?_) _ ⟨[], none, none, rfl, by simp; omega, by simp⟩
  · subst e
    simp only [zaa, zab, zac, zad, zae, zaf, zag, zah, zai, zaj, zak, zal, zam, zan, zao, zap, zaq, zar, zas, zat, zau, zav, zaw, zax, zay, zaz, zaA, zaB, zaC, zaD, zaE, zaF, zaG, zaH, zaI, zaJ, zaK, zaL, zaM, zaN, zaO, zaP, zaQ, zaR, zaS, zaT, zaU, zaV, startE, full, fullE, clean, cleanE, zaW, zaX, zaY, zaZ, zba, zbb, zbc, zbd, zbe, zbf, zbg, zbh, zbi, zbj, zbk, zbl, zbm, zbn, zbo, zbp, zbq, zbr, zbs, zbt, zbu, zbv, zbw, zbx, zby, zbz, zbA, zbB, zbC, zbD, zbE, zbF, zbG, zbH, zbI, zbJ, zbK, zbL, zbM, zbN, zbO, zbP, Bool.bne_false, Bool.bne_true, zbQ, zbR, zbS, zbT, zbU, zbV, zbW, zbX, zbY, zbZ, zca, zcb, zcc, zcd, zce, zcf, zcg, zch, zci, zcj, zck, zcl, zcm, zcn, zco, setAll, wipeR, setV, zcp, zcq, zcr, zcs, zct, zcu, zcv, zcw, zcx, zcy, zcz, zcA, zcB, zcC, List.any_cons, List.any_nil, List.map_cons, List.map_nil, List.length_cons, List.length_nil, List.replicate, Nat.sub_self, List.cons_append, List.nil_append, List.append_nil, List.getElem?_cons_zero, List.getElem?_cons_succ, List.set_cons_zero, List.set_cons_succ, List.set_nil, zcD, zcE, zcF, zcG, zcH, zcI, zcJ, zcK, zcL, zcM, zcN, zcO, zcP, zcQ, zcR, zcS, zcT, zcU, zcV, zcW, zcX, zcY, zcZ, zda, zdb, zdc, zdd, zde, zdf, zdg, zdh, zdi, zdj, zdk, zdl, zdm, zdn, zdo, zdp, zdq, zdr, zds, zdt, zdu, zdv, zdw, zdx, zdy, zdz, zdA, zdB, zdC, zdD, zdE, zdF, zdG]
    exact q r (by simp at hl; omega) hr
  · subst e
    simp only [List.length_cons] at hl
    simp only [b1__law_deeds_r, zaa, zab, zac, zad, zae, zaf, zag, zah, zai, zaj, zak, zal, zam, zan, zao, zap, zaq, zar, zas, zat, zau, zav, zaw, zax, zay, zaz, zaA, zaB, zaC, zaD, zaE, zaF, zaG, zaH, zaI, zaJ, zaK, zaL, zaM, zaN, zaO, zaP, zaQ, zaR, zaS, zaT, zaU, zaV, startE, full, fullE, clean, cleanE, zaW, zaX, zaY, zaZ, zba, zbb, zbc, zbd, zbe, zbf, zbg, zbh, zbi, zbj, zbk, zbl, zbm, zbn, zbo, zbp, zbq, zbr, zbs, zbt, zbu, zbv, zbw, zbx, zby, zbz, zbA, zbB, zbC, zbD, zbE, zbF, zbG, zbH, zbI, zbJ, zbK, zbL, zbM, zbN, zbO, zbP, Bool.bne_false, Bool.bne_true, zbQ, zbR, zbS, zbT, zbU, zbV, zbW, zbX, zbY, zbZ, zca, zcb, zcc, zcd, zce, zcf, zcg, zch, zci, zcj, zck, zcl, zcm, zcn, zco, setAll, wipeR, setV, zcp, zcq, zcr, zcs, zct, zcu, zcv, zcw, zcx, zcy, zcz, zcA, zcB, zcC, List.any_cons, List.any_nil, List.map_cons, List.map_nil, List.length_cons, List.length_nil, List.replicate, Nat.sub_self, List.cons_append, List.nil_append, List.append_nil, List.getElem?_cons_zero, List.getElem?_cons_succ, List.set_cons_zero, List.set_cons_succ, List.set_nil, zcD, zcE, zcF, zcG, zcH, zcI, zcJ, zcK, zcL, zcM, zcN, zcO, zcP, zcQ, zcR, zcS, zcT, zcU, zcV, zcW, zcX, zcY, zcZ, zda, zdb, zdc, zdd, zde, zdf, zdg, zdh, zdi, zdj, zdk, zdl, zdm, zdn, zdo, zdp, zdq, zdr, zds, zdt, zdu, zdv, zdw, zdx, zdy, zdz, zdA, zdB, zdC, zdD, zdE, zdF, zdG]
    refine ⟨by decide, by decide, by decide, fun i i0 i1 => ?_⟩
    refine pickKind i0 i1 fun kd => ?_
    simp only [b2__law_deeds_r, zaa, zab, zac, zad, zae, zaf, zag, zah, zai, zaj, zak, zal, zam, zan, zao, zap, zaq, zar, zas, zat, zau, zav, zaw, zax, zay, zaz, zaA, zaB, zaC, zaD, zaE, zaF, zaG, zaH, zaI, zaJ, zaK, zaL, zaM, zaN, zaO, zaP, zaQ, zaR, zaS, zaT, zaU, zaV, startE, full, fullE, clean, cleanE, zaW, zaX, zaY, zaZ, zba, zbb, zbc, zbd, zbe, zbf, zbg, zbh, zbi, zbj, zbk, zbl, zbm, zbn, zbo, zbp, zbq, zbr, zbs, zbt, zbu, zbv, zbw, zbx, zby, zbz, zbA, zbB, zbC, zbD, zbE, zbF, zbG, zbH, zbI, zbJ, zbK, zbL, zbM, zbN, zbO, zbP, Bool.bne_false, Bool.bne_true, zbQ, zbR, zbS, zbT, zbU, zbV, zbW, zbX, zbY, zbZ, zca, zcb, zcc, zcd, zce, zcf, zcg, zch, zci, zcj, zck, zcl, zcm, zcn, zco, setAll, wipeR, setV, zcp, zcq, zcr, zcs, zct, zcu, zcv, zcw, zcx, zcy, zcz, zcA, zcB, zcC, List.any_cons, List.any_nil, List.map_cons, List.map_nil, List.length_cons, List.length_nil, List.replicate, Nat.sub_self, List.cons_append, List.nil_append, List.append_nil, List.getElem?_cons_zero, List.getElem?_cons_succ, List.set_cons_zero, List.set_cons_succ, List.set_nil, zcD, zcE, zcF, zcG, zcH, zcI, zcJ, zcK, zcL, zcM, zcN, zcO, zcP, zcQ, zcR, zcS, zcT, zcU, zcV, zcW, zcX, zcY, zcZ, zda, zdb, zdc, zdd, zde, zdf, zdg, zdh, zdi, zdj, zdk, zdl, zdm, zdn, zdo, zdp, zdq, zdr, zds, zdt, zdu, zdv, zdw, zdx, zdy, zdz, zdA, zdB, zdC, zdD, zdE, zdF, zdG, intsD_len]
    refine ⟨by omega, by omega, fun j j0 j1 => ?_⟩
    rw [tget j0 j1]
    simp only [zaa, zab, zac, zad, zae, zaf, zag, zah, zai, zaj, zak, zal, zam, zan, zao, zap, zaq, zar, zas, zat, zau, zav, zaw, zax, zay, zaz, zaA, zaB, zaC, zaD, zaE, zaF, zaG, zaH, zaI, zaJ, zaK, zaL, zaM, zaN, zaO, zaP, zaQ, zaR, zaS, zaT, zaU, zaV, startE, full, fullE, clean, cleanE, zaW, zaX, zaY, zaZ, zba, zbb, zbc, zbd, zbe, zbf, zbg, zbh, zbi, zbj, zbk, zbl, zbm, zbn, zbo, zbp, zbq, zbr, zbs, zbt, zbu, zbv, zbw, zbx, zby, zbz, zbA, zbB, zbC, zbD, zbE, zbF, zbG, zbH, zbI, zbJ, zbK, zbL, zbM, zbN, zbO, zbP, Bool.bne_false, Bool.bne_true, zbQ, zbR, zbS, zbT, zbU, zbV, zbW, zbX, zbY, zbZ, zca, zcb, zcc, zcd, zce, zcf, zcg, zch, zci, zcj, zck, zcl, zcm, zcn, zco, setAll, wipeR, setV, zcp, zcq, zcr, zcs, zct, zcu, zcv, zcw, zcx, zcy, zcz, zcA, zcB, zcC, List.any_cons, List.any_nil, List.map_cons, List.map_nil, List.length_cons, List.length_nil, List.replicate, Nat.sub_self, List.cons_append, List.nil_append, List.append_nil, List.getElem?_cons_zero, List.getElem?_cons_succ, List.set_cons_zero, List.set_cons_succ, List.set_nil, zcD, zcE, zcF, zcG, zcH, zcI, zcJ, zcK, zcL, zcM, zcN, zcO, zcP, zcQ, zcR, zcS, zcT, zcU, zcV, zcW, zcX, zcY, zcZ, zda, zdb, zdc, zdd, zde, zdf, zdg, zdh, zdi, zdj, zdk, zdl, zdm, zdn, zdo, zdp, zdq, zdr, zds, zdt, zdu, zdv, zdw, zdx, zdy, zdz, zdA, zdB, zdC, zdD, zdE, zdF, zdG]
    refine ⟨by decide, by rw [List.length_map]; omega, ?_⟩
    refine hnx _ ⟨r ++ [(kd, ga ks j)], some (.val (.int a)), some (.val (.str (Str.ofString (kindS kd)))), by simp, by simp; omega, fun p hp => ?_⟩
    rcases List.mem_append.mp hp with w | w
    · exact hr p w
    · simp at w
      rw [w]
      exact ga_mem j0 j1
end
end G6

namespace G6
open PySem PySem.Spec L2 DL TM
/-! ### shapes of what is compared -/
def Flat (n : Nat) (d : D) : Prop := d.canLay0 = true ∧ d.depth ≤ n
theorem Flat.sh {n : Nat} {d : D} (h : Flat n d) (hn : n ≤ 64 := by decide) : SeqAt.shaped d = true := by
  unfold SeqAt.shaped
  have := h.2
  simp [h.1]
  omega
theorem Flat.mono {m n : Nat} {d : D} (h : Flat m d) (hn : m ≤ n := by decide) : Flat n d := ⟨h.1, Nat.le_trans h.2 hn⟩
theorem flat_i (i : Int) : Flat 0 (.int i) := ⟨by simp [PyData.canLay0], by simp [PyData.depth]⟩
theorem flat_b (b : Bool) : Flat 0 (.bool b) := ⟨by simp [PyData.canLay0], by simp [PyData.depth]⟩
theorem flat_t {n : Nat} {ds : List D} (h : ∀ d ∈ ds, Flat n d) : Flat (n + 1) (.tuple ds) := by
  obtain ⟨h1, h2⟩ := sh_seq (n := n) h
  refine ⟨by simpa [PyData.canLay0] using h1, ?_⟩
  simp only [PyData.depth]
  omega
theorem flat_l {n : Nat} {ds : List D} (h : ∀ d ∈ ds, Flat n d) : Flat (n + 1) (.list ds) := by
  obtain ⟨h1, h2⟩ := sh_seq (n := n) h
  refine ⟨by simpa [PyData.canLay0] using h1, ?_⟩
  simp only [PyData.depth]
  omega
theorem flat_ints (ns : List Int) : Flat 1 (.tuple (intsD ns)) := flat_t fun d hd => by
  obtain ⟨i, _, rfl⟩ := List.mem_map.mp hd
  exact flat_i i
theorem flat_tab (t : Tab) : Flat 2 (tabD t) := by
  cases t with
  | r R =>
    refine flat_t fun d hd => ?_
    obtain ⟨r, _, rfl⟩ := List.mem_map.mp hd
    exact flat_ints r
  | s T => exact (flat_ints T).mono
theorem flat_see (x : String) (t : Tab) (l : Int) : Flat 2 (seeD x t l) := by
  unfold seeD
  split
  · exact (flat_i l).mono
  · split
    · exact (flat_ints _).mono
    · refine flat_t fun d hd => ?_
      simp at hd
      rcases hd with rfl | rfl
      · exact (flat_i l).mono
      · exact flat_ints _
theorem eq_self {d : D} {n : Nat} {Q : D → Prop} {E : Str → Prop} (h : Flat n d) (q : Q (.bool false)) (hn : n ≤ 64 := by decide) : eqD true d d Q E := by
  rw [zaW]
  have e : PyData.eqv d d = true := SeqAt.eqv_refl d h.1
  exact ⟨h.sh hn, h.sh hn, by simpa [e] using q⟩
theorem eq_same {d e : D} {n : Nat} {Q : D → Prop} {E : Str → Prop} (he : d = e) (h : Flat n d) (q : Q (.bool false)) (hn : n ≤ 64 := by decide) : eqD true d e Q E := by
  subst he
  exact eq_self h q hn
/-- the same, asked for being unlike: what follows -/
theorem eq_no {d e : D} {n : Nat} {A B : Prop} {i : Decidable ((!PyData.eqv d e) = true)} (h : Flat n d) (q : B) (he : e = d := by rfl) (hn : n ≤ 64 := by decide) : SeqAt.shaped d = true ∧ SeqAt.shaped e = true ∧ @ite Prop ((!PyData.eqv d e) = true) i A B := by
  subst he
  have z : PyData.eqv e e = true := SeqAt.eqv_refl e h.1
  exact ⟨h.sh hn, h.sh hn, by simpa [z] using q⟩
theorem eq_nos {d e : D} {S1 S2 A B : Prop} {i : Decidable ((!PyData.eqv d e) = true)} (s1 : S1) (s2 : S2) (z : PyData.eqv d e = true) (q : B) : S1 ∧ S2 ∧ @ite Prop ((!PyData.eqv d e) = true) i A B := ⟨s1, s2, by simpa [z] using q⟩
theorem eqv_of {d e : D} {n : Nat} (h : Flat n d) (he : e = d) : PyData.eqv d e = true := by
  subst he
  exact SeqAt.eqv_refl e h.1
/-- two that are equal -/
theorem eq_yes {d : D} {n : Nat} {Q : D → Prop} {E : Str → Prop} (h : Flat n d) (q : Q (.bool true)) (hn : n ≤ 64 := by decide) : eqD false d d Q E := by
  rw [zaW]
  have e : PyData.eqv d d = true := SeqAt.eqv_refl d h.1
  exact ⟨h.sh hn, h.sh hn, by simpa [e] using q⟩
theorem cutT {α : Type} (f : α → D) (l : List α) {a : Int} (h : 0 ≤ a) : cutL (l.map f) none (some a) = (l.take a.toNat).map f := by
  rw [cut_to _ h, List.map_take]
theorem cutF {α : Type} (f : α → D) (l : List α) {a : Int} (h : 0 ≤ a) : cutL (l.map f) (some a) none = (l.drop a.toNat).map f := by
  rw [cut_from _ h, List.map_drop]
end G6

namespace G6
open PySem PySem.Spec L2 DL TM
section
theorem flat_looks (l : List (Tab × Bool × Int)) : Flat 3 (.tuple (l.map fun z => seeD "looks" z.1 z.2.2)) := flat_t fun d hd => by
  obtain ⟨z, _, rfl⟩ := List.mem_map.mp hd
  exact flat_see _ _ _
theorem flat_bools (l : List (Tab × Bool × Int)) : Flat 1 (.tuple (l.map fun z => .bool z.2.1)) := flat_t fun d hd => by
  obtain ⟨z, _, rfl⟩ := List.mem_map.mp hd
  exact flat_b _
abbrev Inv12 (Γ : DL.Env) : Prop := ∃ a b c d e f g h i j, Γ = [some (.val sD), some (.val tD), a, b, c, d, e, f, g, h, i, j]
theorem rest_ok {Q : D → Prop} {nx bk ct : DL.Env → Prop} (hnx : ∀ Γ, Inv12 Γ → nx Γ) {h st g gr : String} (h1 : (Way.s h st "late" g gr).Ok) (h2 : (Way.s h st "empty" g gr).Ok) {ks : List Int} (hl : ks.length ≤ 30) {r : RowT} (rok : RowOk ks r) (hm : ∀ p ∈ r, 0 ≤ p.2 ∧ (g ≠ "mark" ∨ p.1 ≠ .take)) {a b c d e f j : Option Ent} :
    b10_law [some (.val sD), some (.val tD), a, b, c, some (.val (wayD (.s h st "late" g gr))), some (.val (wayD (.s h st "empty" g gr))), d, e, some (.val (rowD r)), f, j]
      { nx := fun Γ' => b11_law Γ' { nx := nx, rt := Q, bk := bk, ct := ct }, rt := Q, bk := bk, ct := ct } := by
  obtain ⟨e1, e2⟩ := hist_same (h := h) (st := st) (g := g) (gr := gr) r (List.replicate 4 (-1)) (.rep 4) hm
  simp only [b10_law_r, zaa, zab, zac, zad, zae, zaf, zag, zah, zai, zaj, zak, zal, zam, zan, zao, zap, zaq, zar, zas, zat, zau, zav, zaw, zax, zay, zaz, zaA, zaB, zaC, zaD, zaE, zaF, zaG, zaH, zaI, zaJ, zaK, zaL, zaM, zaN, zaO, zaP, zaQ, zaR, zaS, zaT, zaU, zaV, startE, full, fullE, clean, cleanE, zaW, zaX, zaY, zaZ, zba, zbb, zbc, zbd, zbe, zbf, zbg, zbh, zbi, zbj, zbk, zbl, zbm, zbn, zbo, zbp, zbq, zbr, zbs, zbt, zbu, zbv, zbw, zbx, zby, zbz, zbA, zbB, zbC, zbD, zbE, zbF, zbG, zbH, zbI, zbJ, zbK, zbL, zbM, zbN, zbO, zbP, Bool.bne_false, Bool.bne_true, zbQ, zbR, zbS, zbT, zbU, zbV, zbW, zbX, zbY, zbZ, zca, zcb, zcc, zcd, zce, zcf, zcg, zch, zci, zcj, zck, zcl, zcm, zcn, zco, setAll, wipeR, setV, zcp, zcq, zcr, zcs, zct, zcu, zcv, zcw, zcx, zcy, zcz, zcA, zcB, zcC, List.any_cons, List.any_nil, List.map_cons, List.map_nil, List.length_cons, List.length_nil, List.replicate, Nat.sub_self, List.cons_append, List.nil_append, List.append_nil, List.getElem?_cons_zero, List.getElem?_cons_succ, List.set_cons_zero, List.set_cons_succ, List.set_nil, zcD, zcE, zcF, zcG, zcH, zcI, zcJ, zcK, zcL, zcM, zcN, zcO, zcP, zcQ, zcR, zcS, zcT, zcU, zcV, zcW, zcX, zcY, zcZ, zda, zdb, zdc, zdd, zde, zdf, zdg, zdh, zdi, zdj, zdk, zdl, zdm, zdn, zdo, zdp, zdq, zdr, zds, zdt, zdu, zdv, zdw, zdx, zdy, zdz, zdA, zdB, zdC, zdD, zdE, zdF, zdG]
  refine after_ok h1 hl rok ?_
  refine after_ok h2 hl rok ?_
  refine eq_no (flat_tab _) ?_ (congrArg tabD e2.symm)
  simp only [b11_law_r, zaa, zab, zac, zad, zae, zaf, zag, zah, zai, zaj, zak, zal, zam, zan, zao, zap, zaq, zar, zas, zat, zau, zav, zaw, zax, zay, zaz, zaA, zaB, zaC, zaD, zaE, zaF, zaG, zaH, zaI, zaJ, zaK, zaL, zaM, zaN, zaO, zaP, zaQ, zaR, zaS, zaT, zaU, zaV, startE, full, fullE, clean, cleanE, zaW, zaX, zaY, zaZ, zba, zbb, zbc, zbd, zbe, zbf, zbg, zbh, zbi, zbj, zbk, zbl, zbm, zbn, zbo, zbp, zbq, zbr, zbs, zbt, zbu, zbv, zbw, zbx, zby, zbz, zbA, zbB, zbC, zbD, zbE, zbF, zbG, zbH, zbI, zbJ, zbK, zbL, zbM, zbN, zbO, zbP, Bool.bne_false, Bool.bne_true, zbQ, zbR, zbS, zbT, zbU, zbV, zbW, zbX, zbY, zbZ, zca, zcb, zcc, zcd, zce, zcf, zcg, zch, zci, zcj, zck, zcl, zcm, zcn, zco, setAll, wipeR, setV, zcp, zcq, zcr, zcs, zct, zcu, zcv, zcw, zcx, zcy, zcz, zcA, zcB, zcC, List.any_cons, List.any_nil, List.map_cons, List.map_nil, List.length_cons, List.length_nil, List.replicate, Nat.sub_self, List.cons_append, List.nil_append, List.append_nil, List.getElem?_cons_zero, List.getElem?_cons_succ, List.set_cons_zero, List.set_cons_succ, List.set_nil, zcD, zcE, zcF, zcG, zcH, zcI, zcJ, zcK, zcL, zcM, zcN, zcO, zcP, zcQ, zcR, zcS, zcT, zcU, zcV, zcW, zcX, zcY, zcZ, zda, zdb, zdc, zdd, zde, zdf, zdg, zdh, zdi, zdj, zdk, zdl, zdm, zdn, zdo, zdp, zdq, zdr, zds, zdt, zdu, zdv, zdw, zdx, zdy, zdz, zdA, zdB, zdC, zdD, zdE, zdF, zdG]
  refine run_ok (x := "looks") h1 hl rok (.inr (.inl rfl)) ?_
  refine run_ok (x := "looks") h2 hl rok (.inr (.inl rfl)) ?_
  refine eq_no (flat_looks _) ?_ (by rw [show begun (.s h st "late" g gr) = .s (List.replicate 4 (-1)) from rfl, show begun (.s h st "empty" g gr) = .s (List.replicate 4 (-1)) from rfl, e1])
  exact hnx _ ⟨_, _, _, _, _, _, _, _, _, _, rfl⟩
theorem body_ok {Q : D → Prop} {nx bk ct : DL.Env → Prop} (hnx : ∀ Γ, Inv12 Γ → nx Γ) {h st g gr : String} (h1 : (Way.s h st "late" g gr).Ok) (h2 : (Way.s h st "empty" g gr).Ok) {ks : List Int} (hks : SomeOk 5 ks) {r : RowT} (hr : (r.length : Int) ≤ 20) (hrk : ∀ p ∈ r, p.2 ∈ ks) {a b c d i : Option Ent} :
    b5_law [some (.val sD), some (.val tD), a, some (.val (.str (Str.ofString g))), some (.val (.str (Str.ofString h))), b, c, d, some (.val (.str (Str.ofString st))), some (.val (rowD r)), some (.val (.str (Str.ofString gr))), i]
      { nx := fun Γ' => b6_law Γ' { nx := fun Γ' => b7_law Γ' { nx := fun Γ' => b9_law Γ' { nx := fun Γ' => b10_law Γ' { nx := fun Γ' => b11_law Γ' { nx := nx, rt := Q, bk := bk, ct := ct }, rt := Q, bk := bk, ct := ct }, rt := Q, bk := bk, ct := ct }, rt := Q, bk := bk, ct := ct }, rt := Q, bk := bk, ct := ct }, rt := Q, bk := bk, ct := ct } := by
  have hl : ks.length ≤ 30 := by have := hks.len; omega
  have hk : ∀ p ∈ r, KeyOk p.2 ∧ p.2 ∈ ks := fun p hp => ⟨hks.keys _ (hrk p hp), hrk p hp⟩
  have rok : RowOk ks r := ⟨hk, by omega⟩
  simp only [b5_law_r, zaa, zab, zac, zad, zae, zaf, zag, zah, zai, zaj, zak, zal, zam, zan, zao, zap, zaq, zar, zas, zat, zau, zav, zaw, zax, zay, zaz, zaA, zaB, zaC, zaD, zaE, zaF, zaG, zaH, zaI, zaJ, zaK, zaL, zaM, zaN, zaO, zaP, zaQ, zaR, zaS, zaT, zaU, zaV, startE, full, fullE, clean, cleanE, zaW, zaX, zaY, zaZ, zba, zbb, zbc, zbd, zbe, zbf, zbg, zbh, zbi, zbj, zbk, zbl, zbm, zbn, zbo, zbp, zbq, zbr, zbs, zbt, zbu, zbv, zbw, zbx, zby, zbz, zbA, zbB, zbC, zbD, zbE, zbF, zbG, zbH, zbI, zbJ, zbK, zbL, zbM, zbN, zbO, zbP, Bool.bne_false, Bool.bne_true, zbQ, zbR, zbS, zbT, zbU, zbV, zbW, zbX, zbY, zbZ, zca, zcb, zcc, zcd, zce, zcf, zcg, zch, zci, zcj, zck, zcl, zcm, zcn, zco, setAll, wipeR, setV, zcp, zcq, zcr, zcs, zct, zcu, zcv, zcw, zcx, zcy, zcz, zcA, zcB, zcC, List.any_cons, List.any_nil, List.map_cons, List.map_nil, List.length_cons, List.length_nil, List.replicate, Nat.sub_self, List.cons_append, List.nil_append, List.append_nil, List.getElem?_cons_zero, List.getElem?_cons_succ, List.set_cons_zero, List.set_cons_succ, List.set_nil, zcD, zcE, zcF, zcG, zcH, zcI, zcJ, zcK, zcL, zcM, zcN, zcO, zcP, zcQ, zcR, zcS, zcT, zcU, zcV, zcW, zcX, zcY, zcZ, zda, zdb, zdc, zdd, zde, zdf, zdg, zdh, zdi, zdj, zdk, zdl, zdm, zdn, zdo, zdp, zdq, zdr, zds, zdt, zdu, zdv, zdw, zdx, zdy, zdz, zdA, zdB, zdC, zdD, zdE, zdF, zdG]
  refine ⟨by decide, ?_⟩
  simp only [b6_law_r, zaa, zab, zac, zad, zae, zaf, zag, zah, zai, zaj, zak, zal, zam, zan, zao, zap, zaq, zar, zas, zat, zau, zav, zaw, zax, zay, zaz, zaA, zaB, zaC, zaD, zaE, zaF, zaG, zaH, zaI, zaJ, zaK, zaL, zaM, zaN, zaO, zaP, zaQ, zaR, zaS, zaT, zaU, zaV, startE, full, fullE, clean, cleanE, zaW, zaX, zaY, zaZ, zba, zbb, zbc, zbd, zbe, zbf, zbg, zbh, zbi, zbj, zbk, zbl, zbm, zbn, zbo, zbp, zbq, zbr, zbs, zbt, zbu, zbv, zbw, zbx, zby, zbz, zbA, zbB, zbC, zbD, zbE, zbF, zbG, zbH, zbI, zbJ, zbK, zbL, zbM, zbN, zbO, zbP, Bool.bne_false, Bool.bne_true, zbQ, zbR, zbS, zbT, zbU, zbV, zbW, zbX, zbY, zbZ, zca, zcb, zcc, zcd, zce, zcf, zcg, zch, zci, zcj, zck, zcl, zcm, zcn, zco, setAll, wipeR, setV, zcp, zcq, zcr, zcs, zct, zcu, zcv, zcw, zcx, zcy, zcz, zcA, zcB, zcC, List.any_cons, List.any_nil, List.map_cons, List.map_nil, List.length_cons, List.length_nil, List.replicate, Nat.sub_self, List.cons_append, List.nil_append, List.append_nil, List.getElem?_cons_zero, List.getElem?_cons_succ, List.set_cons_zero, List.set_cons_succ, List.set_nil, zcD, zcE, zcF, zcG, zcH, zcI, zcJ, zcK, zcL, zcM, zcN, zcO, zcP, zcQ, zcR, zcS, zcT, zcU, zcV, zcW, zcX, zcY, zcZ, zda, zdb, zdc, zdd, zde, zdf, zdg, zdh, zdi, zdj, zdk, zdl, zdm, zdn, zdo, zdp, zdq, zdr, zds, zdt, zdu, zdv, zdw, zdx, zdy, zdz, zdA, zdB, zdC, zdD, zdE, zdF, zdG]
  refine ⟨by decide, ?_⟩
  have same : (hist (.s h st "late" g gr) (begun (.s h st "late" g gr)) r).map (fun z => PyData.bool z.2.1) = (hist (.s h st "empty" g gr) (begun (.s h st "empty" g gr)) r).map fun z => PyData.bool z.2.1 := by
    by_cases e : g = "mark"
    · subst e
      have := mark_hist h1 h2 hl r (List.replicate 4 (-1)) (List.replicate 4 (-1)) (.empty h st 4) (OkS.begun h1.2.2.2.2.1) (.empty h st 4) (OkS.begun h1.2.2.2.2.1) (fun x _ => Iff.rfl) hk
      have := congrArg (List.map PyData.bool) this
      rw [List.map_map, List.map_map] at this
      exact this
    · obtain ⟨e1, _⟩ := hist_same (h := h) (st := st) (g := g) (gr := gr) r (List.replicate 4 (-1)) (.rep 4) fun p hp => ⟨(hk p hp).1.1, .inl e⟩
      exact congrArg _ e1
  simp only [b7_law_r, zaa, zab, zac, zad, zae, zaf, zag, zah, zai, zaj, zak, zal, zam, zan, zao, zap, zaq, zar, zas, zat, zau, zav, zaw, zax, zay, zaz, zaA, zaB, zaC, zaD, zaE, zaF, zaG, zaH, zaI, zaJ, zaK, zaL, zaM, zaN, zaO, zaP, zaQ, zaR, zaS, zaT, zaU, zaV, startE, full, fullE, clean, cleanE, zaW, zaX, zaY, zaZ, zba, zbb, zbc, zbd, zbe, zbf, zbg, zbh, zbi, zbj, zbk, zbl, zbm, zbn, zbo, zbp, zbq, zbr, zbs, zbt, zbu, zbv, zbw, zbx, zby, zbz, zbA, zbB, zbC, zbD, zbE, zbF, zbG, zbH, zbI, zbJ, zbK, zbL, zbM, zbN, zbO, zbP, Bool.bne_false, Bool.bne_true, zbQ, zbR, zbS, zbT, zbU, zbV, zbW, zbX, zbY, zbZ, zca, zcb, zcc, zcd, zce, zcf, zcg, zch, zci, zcj, zck, zcl, zcm, zcn, zco, setAll, wipeR, setV, zcp, zcq, zcr, zcs, zct, zcu, zcv, zcw, zcx, zcy, zcz, zcA, zcB, zcC, List.any_cons, List.any_nil, List.map_cons, List.map_nil, List.length_cons, List.length_nil, List.replicate, Nat.sub_self, List.cons_append, List.nil_append, List.append_nil, List.getElem?_cons_zero, List.getElem?_cons_succ, List.set_cons_zero, List.set_cons_succ, List.set_nil, zcD, zcE, zcF, zcG, zcH, zcI, zcJ, zcK, zcL, zcM, zcN, zcO, zcP, zcQ, zcR, zcS, zcT, zcU, zcV, zcW, zcX, zcY, zcZ, zda, zdb, zdc, zdd, zde, zdf, zdg, zdh, zdi, zdj, zdk, zdl, zdm, zdn, zdo, zdp, zdq, zdr, zds, zdt, zdu, zdv, zdw, zdx, zdy, zdz, zdA, zdB, zdC, zdD, zdE, zdF, zdG]
  refine were_ok h1 hl rok ?_
  refine were_ok h2 hl rok ?_
  refine eq_no (flat_bools _) ?_ (by rw [same])
  try simp only [zaa, zab, zac, zad, zae, zaf, zag, zah, zai, zaj, zak, zal, zam, zan, zao, zap, zaq, zar, zas, zat, zau, zav, zaw, zax, zay, zaz, zaA, zaB, zaC, zaD, zaE, zaF, zaG, zaH, zaI, zaJ, zaK, zaL, zaM, zaN, zaO, zaP, zaQ, zaR, zaS, zaT, zaU, zaV, startE, full, fullE, clean, cleanE, zaW, zaX, zaY, zaZ, zba, zbb, zbc, zbd, zbe, zbf, zbg, zbh, zbi, zbj, zbk, zbl, zbm, zbn, zbo, zbp, zbq, zbr, zbs, zbt, zbu, zbv, zbw, zbx, zby, zbz, zbA, zbB, zbC, zbD, zbE, zbF, zbG, zbH, zbI, zbJ, zbK, zbL, zbM, zbN, zbO, zbP, Bool.bne_false, Bool.bne_true, zbQ, zbR, zbS, zbT, zbU, zbV, zbW, zbX, zbY, zbZ, zca, zcb, zcc, zcd, zce, zcf, zcg, zch, zci, zcj, zck, zcl, zcm, zcn, zco, setAll, wipeR, setV, zcp, zcq, zcr, zcs, zct, zcu, zcv, zcw, zcx, zcy, zcz, zcA, zcB, zcC, List.any_cons, List.any_nil, List.map_cons, List.map_nil, List.length_cons, List.length_nil, List.replicate, Nat.sub_self, List.cons_append, List.nil_append, List.append_nil, List.getElem?_cons_zero, List.getElem?_cons_succ, List.set_cons_zero, List.set_cons_succ, List.set_nil, zcD, zcE, zcF, zcG, zcH, zcI, zcJ, zcK, zcL, zcM, zcN, zcO, zcP, zcQ, zcR, zcS, zcT, zcU, zcV, zcW, zcX, zcY, zcZ, zda, zdb, zdc, zdd, zde, zdf, zdg, zdh, zdi, zdj, zdk, zdl, zdm, zdn, zdo, zdp, zdq, zdr, zds, zdt, zdu, zdv, zdw, zdx, zdy, zdz, zdA, zdB, zdC, zdD, zdE, zdF, zdG, reduceIte, Bool.false_eq_true, decide_true, decide_false, Bool.not_true, Bool.not_false, true_and, and_true, decide_not, Bool.true_bne, Bool.false_bne, Bool.not_not]
  simp only [b9_law_r, zaa, zab, zac, zad, zae, zaf, zag, zah, zai, zaj, zak, zal, zam, zan, zao, zap, zaq, zar, zas, zat, zau, zav, zaw, zax, zay, zaz, zaA, zaB, zaC, zaD, zaE, zaF, zaG, zaH, zaI, zaJ, zaK, zaL, zaM, zaN, zaO, zaP, zaQ, zaR, zaS, zaT, zaU, zaV, startE, full, fullE, clean, cleanE, zaW, zaX, zaY, zaZ, zba, zbb, zbc, zbd, zbe, zbf, zbg, zbh, zbi, zbj, zbk, zbl, zbm, zbn, zbo, zbp, zbq, zbr, zbs, zbt, zbu, zbv, zbw, zbx, zby, zbz, zbA, zbB, zbC, zbD, zbE, zbF, zbG, zbH, zbI, zbJ, zbK, zbL, zbM, zbN, zbO, zbP, Bool.bne_false, Bool.bne_true, zbQ, zbR, zbS, zbT, zbU, zbV, zbW, zbX, zbY, zbZ, zca, zcb, zcc, zcd, zce, zcf, zcg, zch, zci, zcj, zck, zcl, zcm, zcn, zco, setAll, wipeR, setV, zcp, zcq, zcr, zcs, zct, zcu, zcv, zcw, zcx, zcy, zcz, zcA, zcB, zcC, List.any_cons, List.any_nil, List.map_cons, List.map_nil, List.length_cons, List.length_nil, List.replicate, Nat.sub_self, List.cons_append, List.nil_append, List.append_nil, List.getElem?_cons_zero, List.getElem?_cons_succ, List.set_cons_zero, List.set_cons_succ, List.set_nil, zcD, zcE, zcF, zcG, zcH, zcI, zcJ, zcK, zcL, zcM, zcN, zcO, zcP, zcQ, zcR, zcS, zcT, zcU, zcV, zcW, zcX, zcY, zcZ, zda, zdb, zdc, zdd, zde, zdf, zdg, zdh, zdi, zdj, zdk, zdl, zdm, zdn, zdo, zdp, zdq, zdr, zds, zdt, zdu, zdv, zdw, zdx, zdy, zdz, zdA, zdB, zdC, zdD, zdE, zdF, zdG]
  by_cases e : g = "mark"
  · simp only [decide_eq_true e, reduceIte, Bool.false_eq_true, decide_true, decide_false, Bool.not_true, Bool.not_false, true_and, and_true, decide_not, Bool.true_bne, Bool.false_bne, Bool.not_not]
    simp only [b8_law_r, zaa, zab, zac, zad, zae, zaf, zag, zah, zai, zaj, zak, zal, zam, zan, zao, zap, zaq, zar, zas, zat, zau, zav, zaw, zax, zay, zaz, zaA, zaB, zaC, zaD, zaE, zaF, zaG, zaH, zaI, zaJ, zaK, zaL, zaM, zaN, zaO, zaP, zaQ, zaR, zaS, zaT, zaU, zaV, startE, full, fullE, clean, cleanE, zaW, zaX, zaY, zaZ, zba, zbb, zbc, zbd, zbe, zbf, zbg, zbh, zbi, zbj, zbk, zbl, zbm, zbn, zbo, zbp, zbq, zbr, zbs, zbt, zbu, zbv, zbw, zbx, zby, zbz, zbA, zbB, zbC, zbD, zbE, zbF, zbG, zbH, zbI, zbJ, zbK, zbL, zbM, zbN, zbO, zbP, Bool.bne_false, Bool.bne_true, zbQ, zbR, zbS, zbT, zbU, zbV, zbW, zbX, zbY, zbZ, zca, zcb, zcc, zcd, zce, zcf, zcg, zch, zci, zcj, zck, zcl, zcm, zcn, zco, setAll, wipeR, setV, zcp, zcq, zcr, zcs, zct, zcu, zcv, zcw, zcx, zcy, zcz, zcA, zcB, zcC, List.any_cons, List.any_nil, List.map_cons, List.map_nil, List.length_cons, List.length_nil, List.replicate, Nat.sub_self, List.cons_append, List.nil_append, List.append_nil, List.getElem?_cons_zero, List.getElem?_cons_succ, List.set_cons_zero, List.set_cons_succ, List.set_nil, zcD, zcE, zcF, zcG, zcH, zcI, zcJ, zcK, zcL, zcM, zcN, zcO, zcP, zcQ, zcR, zcS, zcT, zcU, zcV, zcW, zcX, zcY, zcZ, zda, zdb, zdc, zdd, zde, zdf, zdg, zdh, zdi, zdj, zdk, zdl, zdm, zdn, zdo, zdp, zdq, zdr, zds, zdt, zdu, zdv, zdw, zdx, zdy, zdz, zdA, zdB, zdC, zdD, zdE, zdF, zdG, rowD]
    have hf : RowOk ks (r.filter fun p => decide (p.1 ≠ .take)) := ⟨fun p hp => hk p (List.mem_filter.mp hp).1, Nat.le_trans (List.length_filter_le _ _) rok.len⟩
    refine ⟨by simp; omega, lcLoop_fm pD (fun p => decide (p.1 ≠ .take)) pD (fun p hp k hk' => ?_) ?_⟩
    · simp only [zaa, zab, zac, zad, zae, zaf, zag, zah, zai, zaj, zak, zal, zam, zan, zao, zap, zaq, zar, zas, zat, zau, zav, zaw, zax, zay, zaz, zaA, zaB, zaC, zaD, zaE, zaF, zaG, zaH, zaI, zaJ, zaK, zaL, zaM, zaN, zaO, zaP, zaQ, zaR, zaS, zaT, zaU, zaV, startE, full, fullE, clean, cleanE, zaW, zaX, zaY, zaZ, zba, zbb, zbc, zbd, zbe, zbf, zbg, zbh, zbi, zbj, zbk, zbl, zbm, zbn, zbo, zbp, zbq, zbr, zbs, zbt, zbu, zbv, zbw, zbx, zby, zbz, zbA, zbB, zbC, zbD, zbE, zbF, zbG, zbH, zbI, zbJ, zbK, zbL, zbM, zbN, zbO, zbP, Bool.bne_false, Bool.bne_true, zbQ, zbR, zbS, zbT, zbU, zbV, zbW, zbX, zbY, zbZ, zca, zcb, zcc, zcd, zce, zcf, zcg, zch, zci, zcj, zck, zcl, zcm, zcn, zco, setAll, wipeR, setV, zcp, zcq, zcr, zcs, zct, zcu, zcv, zcw, zcx, zcy, zcz, zcA, zcB, zcC, List.any_cons, List.any_nil, List.map_cons, List.map_nil, List.length_cons, List.length_nil, List.replicate, Nat.sub_self, List.cons_append, List.nil_append, List.append_nil, List.getElem?_cons_zero, List.getElem?_cons_succ, List.set_cons_zero, List.set_cons_succ, List.set_nil, zcD, zcE, zcF, zcG, zcH, zcI, zcJ, zcK, zcL, zcM, zcN, zcO, zcP, zcQ, zcR, zcS, zcT, zcU, zcV, zcW, zcX, zcY, zcZ, zda, zdb, zdc, zdd, zde, zdf, zdg, zdh, zdi, zdj, zdk, zdl, zdm, zdn, zdo, zdp, zdq, zdr, zds, zdt, zdu, zdv, zdw, zdx, zdy, zdz, zdA, zdB, zdC, zdD, zdE, zdF, zdG]
      obtain ⟨kd, kk⟩ := p
      cases kd with
      | ask => simpa [kindS] using hk'
      | put => simpa [kindS] using hk'
      | take => simpa [kindS] using hk'
    · try simp only [zaa, zab, zac, zad, zae, zaf, zag, zah, zai, zaj, zak, zal, zam, zan, zao, zap, zaq, zar, zas, zat, zau, zav, zaw, zax, zay, zaz, zaA, zaB, zaC, zaD, zaE, zaF, zaG, zaH, zaI, zaJ, zaK, zaL, zaM, zaN, zaO, zaP, zaQ, zaR, zaS, zaT, zaU, zaV, startE, full, fullE, clean, cleanE, zaW, zaX, zaY, zaZ, zba, zbb, zbc, zbd, zbe, zbf, zbg, zbh, zbi, zbj, zbk, zbl, zbm, zbn, zbo, zbp, zbq, zbr, zbs, zbt, zbu, zbv, zbw, zbx, zby, zbz, zbA, zbB, zbC, zbD, zbE, zbF, zbG, zbH, zbI, zbJ, zbK, zbL, zbM, zbN, zbO, zbP, Bool.bne_false, Bool.bne_true, zbQ, zbR, zbS, zbT, zbU, zbV, zbW, zbX, zbY, zbZ, zca, zcb, zcc, zcd, zce, zcf, zcg, zch, zci, zcj, zck, zcl, zcm, zcn, zco, setAll, wipeR, setV, zcp, zcq, zcr, zcs, zct, zcu, zcv, zcw, zcx, zcy, zcz, zcA, zcB, zcC, List.any_cons, List.any_nil, List.map_cons, List.map_nil, List.length_cons, List.length_nil, List.replicate, Nat.sub_self, List.cons_append, List.nil_append, List.append_nil, List.getElem?_cons_zero, List.getElem?_cons_succ, List.set_cons_zero, List.set_cons_succ, List.set_nil, zcD, zcE, zcF, zcG, zcH, zcI, zcJ, zcK, zcL, zcM, zcN, zcO, zcP, zcQ, zcR, zcS, zcT, zcU, zcV, zcW, zcX, zcY, zcZ, zda, zdb, zdc, zdd, zde, zdf, zdg, zdh, zdi, zdj, zdk, zdl, zdm, zdn, zdo, zdp, zdq, zdr, zds, zdt, zdu, zdv, zdw, zdx, zdy, zdz, zdA, zdB, zdC, zdD, zdE, zdF, zdG]
      exact rest_ok hnx h1 h2 hl hf fun p hp => ⟨(hf.keys p hp).1.1, .inr (by simpa using (List.mem_filter.mp hp).2)⟩
  · simp only [decide_eq_false e, reduceIte, Bool.false_eq_true, decide_true, decide_false, Bool.not_true, Bool.not_false, true_and, and_true, decide_not, Bool.true_bne, Bool.false_bne, Bool.not_not, zaa, zab, zac, zad, zae, zaf, zag, zah, zai, zaj, zak, zal, zam, zan, zao, zap, zaq, zar, zas, zat, zau, zav, zaw, zax, zay, zaz, zaA, zaB, zaC, zaD, zaE, zaF, zaG, zaH, zaI, zaJ, zaK, zaL, zaM, zaN, zaO, zaP, zaQ, zaR, zaS, zaT, zaU, zaV, startE, full, fullE, clean, cleanE, zaW, zaX, zaY, zaZ, zba, zbb, zbc, zbd, zbe, zbf, zbg, zbh, zbi, zbj, zbk, zbl, zbm, zbn, zbo, zbp, zbq, zbr, zbs, zbt, zbu, zbv, zbw, zbx, zby, zbz, zbA, zbB, zbC, zbD, zbE, zbF, zbG, zbH, zbI, zbJ, zbK, zbL, zbM, zbN, zbO, zbP, Bool.bne_false, Bool.bne_true, zbQ, zbR, zbS, zbT, zbU, zbV, zbW, zbX, zbY, zbZ, zca, zcb, zcc, zcd, zce, zcf, zcg, zch, zci, zcj, zck, zcl, zcm, zcn, zco, setAll, wipeR, setV, zcp, zcq, zcr, zcs, zct, zcu, zcv, zcw, zcx, zcy, zcz, zcA, zcB, zcC, List.any_cons, List.any_nil, List.map_cons, List.map_nil, List.length_cons, List.length_nil, List.replicate, Nat.sub_self, List.cons_append, List.nil_append, List.append_nil, List.getElem?_cons_zero, List.getElem?_cons_succ, List.set_cons_zero, List.set_cons_succ, List.set_nil, zcD, zcE, zcF, zcG, zcH, zcI, zcJ, zcK, zcL, zcM, zcN, zcO, zcP, zcQ, zcR, zcS, zcT, zcU, zcV, zcW, zcX, zcY, zcZ, zda, zdb, zdc, zdd, zde, zdf, zdg, zdh, zdi, zdj, zdk, zdl, zdm, zdn, zdo, zdp, zdq, zdr, zds, zdt, zdu, zdv, zdw, zdx, zdy, zdz, zdA, zdB, zdC, zdD, zdE, zdF, zdG]
    exact rest_ok hnx h1 h2 hl rok fun p hp => ⟨(hk p hp).1.1, .inl e⟩
theorem law_ok : m_law [sD] (fun d => d = .bool true) (fun _ => False) := by
  simp only [m_law_r, b13_law_r, zaa, zab, zac, zad, zae, zaf, zag, zah, zai, zaj, zak, zal, zam, zan, zao, zap, zaq, zar, zas, zat, zau, zav, zaw, zax, zay, zaz, zaA, zaB, zaC, zaD, zaE, zaF, zaG, zaH, zaI, zaJ, zaK, zaL, zaM, zaN, zaO, zaP, zaQ, zaR, zaS, zaT, zaU, zaV, startE, full, fullE, clean, cleanE, zaW, zaX, zaY, zaZ, zba, zbb, zbc, zbd, zbe, zbf, zbg, zbh, zbi, zbj, zbk, zbl, zbm, zbn, zbo, zbp, zbq, zbr, zbs, zbt, zbu, zbv, zbw, zbx, zby, zbz, zbA, zbB, zbC, zbD, zbE, zbF, zbG, zbH, zbI, zbJ, zbK, zbL, zbM, zbN, zbO, zbP, Bool.bne_false, Bool.bne_true, zbQ, zbR, zbS, zbT, zbU, zbV, zbW, zbX, zbY, zbZ, zca, zcb, zcc, zcd, zce, zcf, zcg, zch, zci, zcj, zck, zcl, zcm, zcn, zco, setAll, wipeR, setV, zcp, zcq, zcr, zcs, zct, zcu, zcv, zcw, zcx, zcy, zcz, zcA, zcB, zcC, List.any_cons, List.any_nil, List.map_cons, List.map_nil, List.length_cons, List.length_nil, List.replicate, Nat.sub_self, List.cons_append, List.nil_append, List.append_nil, List.getElem?_cons_zero, List.getElem?_cons_succ, List.set_cons_zero, List.set_cons_succ, List.set_nil, zcD, zcE, zcF, zcG, zcH, zcI, zcJ, zcK, zcL, zcM, zcN, zcO, zcP, zcQ, zcR, zcS, zcT, zcU, zcV, zcW, zcX, zcY, zcZ, zda, zdb, zdc, zdd, zde, zdf, zdg, zdh, zdi, zdj, zdk, zdl, zdm, zdn, zdo, zdp, zdq, zdr, zds, zdt, zdu, zdv, zdw, zdx, zdy, zdz, zdA, zdB, zdC, zdD, zdE, zdF, zdG]
  refine ⟨by decide, by decide, ?_⟩
  refine forLoop_inv Inv12 (fun Γ _ => ?_) _ (fun x _ Γ hΓ nx hnx => ?_) _ ⟨_, _, _, _, _, _, _, _, _, _, rfl⟩
  · try simp only [zaa, zab, zac, zad, zae, zaf, zag, zah, zai, zaj, zak, zal, zam, zan, zao, zap, zaq, zar, zas, zat, zau, zav, zaw, zax, zay, zaz, zaA, zaB, zaC, zaD, zaE, zaF, zaG, zaH, zaI, zaJ, zaK, zaL, zaM, zaN, zaO, zaP, zaQ, zaR, zaS, zaT, zaU, zaV, startE, full, fullE, clean, cleanE, zaW, zaX, zaY, zaZ, zba, zbb, zbc, zbd, zbe, zbf, zbg, zbh, zbi, zbj, zbk, zbl, zbm, zbn, zbo, zbp, zbq, zbr, zbs, zbt, zbu, zbv, zbw, zbx, zby, zbz, zbA, zbB, zbC, zbD, zbE, zbF, zbG, zbH, zbI, zbJ, zbK, zbL, zbM, zbN, zbO, zbP, Bool.bne_false, Bool.bne_true, zbQ, zbR, zbS, zbT, zbU, zbV, zbW, zbX, zbY, zbZ, zca, zcb, zcc, zcd, zce, zcf, zcg, zch, zci, zcj, zck, zcl, zcm, zcn, zco, setAll, wipeR, setV, zcp, zcq, zcr, zcs, zct, zcu, zcv, zcw, zcx, zcy, zcz, zcA, zcB, zcC, List.any_cons, List.any_nil, List.map_cons, List.map_nil, List.length_cons, List.length_nil, List.replicate, Nat.sub_self, List.cons_append, List.nil_append, List.append_nil, List.getElem?_cons_zero, List.getElem?_cons_succ, List.set_cons_zero, List.set_cons_succ, List.set_nil, zcD, zcE, zcF, zcG, zcH, zcI, zcJ, zcK, zcL, zcM, zcN, zcO, zcP, zcQ, zcR, zcS, zcT, zcU, zcV, zcW, zcX, zcY, zcZ, zda, zdb, zdc, zdd, zde, zdf, zdg, zdh, zdi, zdj, zdk, zdl, zdm, zdn, zdo, zdp, zdq, zdr, zds, zdt, zdu, zdv, zdw, zdx, zdy, zdz, zdA, zdB, zdC, zdD, zdE, zdF, zdG]
  · obtain ⟨a, b, c, d, e, f, g, h, i, j, rfl⟩ := hΓ
    simp only [b12_law_r, b1_law_r, zaa, zab, zac, zad, zae, zaf, zag, zah, zai, zaj, zak, zal, zam, zan, zao, zap, zaq, zar, zas, zat, zau, zav, zaw, zax, zay, zaz, zaA, zaB, zaC, zaD, zaE, zaF, zaG, zaH, zaI, zaJ, zaK, zaL, zaM, zaN, zaO, zaP, zaQ, zaR, zaS, zaT, zaU, zaV, startE, full, fullE, clean, cleanE, zaW, zaX, zaY, zaZ, zba, zbb, zbc, zbd, zbe, zbf, zbg, zbh, zbi, zbj, zbk, zbl, zbm, zbn, zbo, zbp, zbq, zbr, zbs, zbt, zbu, zbv, zbw, zbx, zby, zbz, zbA, zbB, zbC, zbD, zbE, zbF, zbG, zbH, zbI, zbJ, zbK, zbL, zbM, zbN, zbO, zbP, Bool.bne_false, Bool.bne_true, zbQ, zbR, zbS, zbT, zbU, zbV, zbW, zbX, zbY, zbZ, zca, zcb, zcc, zcd, zce, zcf, zcg, zch, zci, zcj, zck, zcl, zcm, zcn, zco, setAll, wipeR, setV, zcp, zcq, zcr, zcs, zct, zcu, zcv, zcw, zcx, zcy, zcz, zcA, zcB, zcC, List.any_cons, List.any_nil, List.map_cons, List.map_nil, List.length_cons, List.length_nil, List.replicate, Nat.sub_self, List.cons_append, List.nil_append, List.append_nil, List.getElem?_cons_zero, List.getElem?_cons_succ, List.set_cons_zero, List.set_cons_succ, List.set_nil, zcD, zcE, zcF, zcG, zcH, zcI, zcJ, zcK, zcL, zcM, zcN, zcO, zcP, zcQ, zcR, zcS, zcT, zcU, zcV, zcW, zcX, zcY, zcZ, zda, zdb, zdc, zdd, zde, zdf, zdg, zdh, zdi, zdj, zdk, zdl, zdm, zdn, zdo, zdp, zdq, zdr, zds, zdt, zdu, zdv, zdw, zdx, zdy, zdz, zdA, zdB, zdC, zdD, zdE, zdF, zdG]
    refine some_drawn (by decide) (by decide) fun ks hks => ?_
    try simp only [zaa, zab, zac, zad, zae, zaf, zag, zah, zai, zaj, zak, zal, zam, zan, zao, zap, zaq, zar, zas, zat, zau, zav, zaw, zax, zay, zaz, zaA, zaB, zaC, zaD, zaE, zaF, zaG, zaH, zaI, zaJ, zaK, zaL, zaM, zaN, zaO, zaP, zaQ, zaR, zaS, zaT, zaU, zaV, startE, full, fullE, clean, cleanE, zaW, zaX, zaY, zaZ, zba, zbb, zbc, zbd, zbe, zbf, zbg, zbh, zbi, zbj, zbk, zbl, zbm, zbn, zbo, zbp, zbq, zbr, zbs, zbt, zbu, zbv, zbw, zbx, zby, zbz, zbA, zbB, zbC, zbD, zbE, zbF, zbG, zbH, zbI, zbJ, zbK, zbL, zbM, zbN, zbO, zbP, Bool.bne_false, Bool.bne_true, zbQ, zbR, zbS, zbT, zbU, zbV, zbW, zbX, zbY, zbZ, zca, zcb, zcc, zcd, zce, zcf, zcg, zch, zci, zcj, zck, zcl, zcm, zcn, zco, setAll, wipeR, setV, zcp, zcq, zcr, zcs, zct, zcu, zcv, zcw, zcx, zcy, zcz, zcA, zcB, zcC, List.any_cons, List.any_nil, List.map_cons, List.map_nil, List.length_cons, List.length_nil, List.replicate, Nat.sub_self, List.cons_append, List.nil_append, List.append_nil, List.getElem?_cons_zero, List.getElem?_cons_succ, List.set_cons_zero, List.set_cons_succ, List.set_nil, zcD, zcE, zcF, zcG, zcH, zcI, zcJ, zcK, zcL, zcM, zcN, zcO, zcP, zcQ, zcR, zcS, zcT, zcU, zcV, zcW, zcX, zcY, zcZ, zda, zdb, zdc, zdd, zde, zdf, zdg, zdh, zdi, zdj, zdk, zdl, zdm, zdn, zdo, zdp, zdq, zdr, zds, zdt, zdu, zdv, zdw, zdx, zdy, zdz, zdA, zdB, zdC, zdD, zdE, zdF, zdG]
    refine ⟨by decide, by decide, by decide, fun z z0 z1 => ?_⟩
    refine pickW ["up", "down", "wide", "own"] z0 (by simpa using z1) fun st hst => ?_
    have hst' : st = "up" ∨ st = "down" ∨ st = "wide" ∨ st = "own" := by simpa using hst
    simp only [b2_law_r, zaa, zab, zac, zad, zae, zaf, zag, zah, zai, zaj, zak, zal, zam, zan, zao, zap, zaq, zar, zas, zat, zau, zav, zaw, zax, zay, zaz, zaA, zaB, zaC, zaD, zaE, zaF, zaG, zaH, zaI, zaJ, zaK, zaL, zaM, zaN, zaO, zaP, zaQ, zaR, zaS, zaT, zaU, zaV, startE, full, fullE, clean, cleanE, zaW, zaX, zaY, zaZ, zba, zbb, zbc, zbd, zbe, zbf, zbg, zbh, zbi, zbj, zbk, zbl, zbm, zbn, zbo, zbp, zbq, zbr, zbs, zbt, zbu, zbv, zbw, zbx, zby, zbz, zbA, zbB, zbC, zbD, zbE, zbF, zbG, zbH, zbI, zbJ, zbK, zbL, zbM, zbN, zbO, zbP, Bool.bne_false, Bool.bne_true, zbQ, zbR, zbS, zbT, zbU, zbV, zbW, zbX, zbY, zbZ, zca, zcb, zcc, zcd, zce, zcf, zcg, zch, zci, zcj, zck, zcl, zcm, zcn, zco, setAll, wipeR, setV, zcp, zcq, zcr, zcs, zct, zcu, zcv, zcw, zcx, zcy, zcz, zcA, zcB, zcC, List.any_cons, List.any_nil, List.map_cons, List.map_nil, List.length_cons, List.length_nil, List.replicate, Nat.sub_self, List.cons_append, List.nil_append, List.append_nil, List.getElem?_cons_zero, List.getElem?_cons_succ, List.set_cons_zero, List.set_cons_succ, List.set_nil, zcD, zcE, zcF, zcG, zcH, zcI, zcJ, zcK, zcL, zcM, zcN, zcO, zcP, zcQ, zcR, zcS, zcT, zcU, zcV, zcW, zcX, zcY, zcZ, zda, zdb, zdc, zdd, zde, zdf, zdg, zdh, zdi, zdj, zdk, zdl, zdm, zdn, zdo, zdp, zdq, zdr, zds, zdt, zdu, zdv, zdw, zdx, zdy, zdz, zdA, zdB, zdC, zdD, zdE, zdF, zdG]
    have fin : ∀ g, (g = "mark" ∨ g = "hole" ∨ g = "again" ∨ g = "pull") → ((st = "up" ∨ st = "down") ∨ g ≠ "pull") → b3_law [some (.val sD), some (.val tD), some (.val x), some (.val (.str (Str.ofString g))), c, d, e, some (.val (.tuple (intsD ks))), some (.val (.str (Str.ofString st))), h, i, j]
        { nx := fun Γ' => b4_law Γ' { nx := fun Γ' => b5_law Γ' { nx := fun Γ' => b6_law Γ' { nx := fun Γ' => b7_law Γ' { nx := fun Γ' => b9_law Γ' { nx := fun Γ' => b10_law Γ' { nx := fun Γ' => b11_law Γ' { nx := nx, rt := fun d => d = .bool true, bk := fun _ => True, ct := nx }, rt := fun d => d = .bool true, bk := fun _ => True, ct := nx }, rt := fun d => d = .bool true, bk := fun _ => True, ct := nx }, rt := fun d => d = .bool true, bk := fun _ => True, ct := nx }, rt := fun d => d = .bool true, bk := fun _ => True, ct := nx }, rt := fun d => d = .bool true, bk := fun _ => True, ct := nx }, rt := fun d => d = .bool true, bk := fun _ => True, ct := nx }, rt := fun d => d = .bool true, bk := fun _ => True, ct := nx } := by
      intro g hg hp
      simp only [b3_law_r, zaa, zab, zac, zad, zae, zaf, zag, zah, zai, zaj, zak, zal, zam, zan, zao, zap, zaq, zar, zas, zat, zau, zav, zaw, zax, zay, zaz, zaA, zaB, zaC, zaD, zaE, zaF, zaG, zaH, zaI, zaJ, zaK, zaL, zaM, zaN, zaO, zaP, zaQ, zaR, zaS, zaT, zaU, zaV, startE, full, fullE, clean, cleanE, zaW, zaX, zaY, zaZ, zba, zbb, zbc, zbd, zbe, zbf, zbg, zbh, zbi, zbj, zbk, zbl, zbm, zbn, zbo, zbp, zbq, zbr, zbs, zbt, zbu, zbv, zbw, zbx, zby, zbz, zbA, zbB, zbC, zbD, zbE, zbF, zbG, zbH, zbI, zbJ, zbK, zbL, zbM, zbN, zbO, zbP, Bool.bne_false, Bool.bne_true, zbQ, zbR, zbS, zbT, zbU, zbV, zbW, zbX, zbY, zbZ, zca, zcb, zcc, zcd, zce, zcf, zcg, zch, zci, zcj, zck, zcl, zcm, zcn, zco, setAll, wipeR, setV, zcp, zcq, zcr, zcs, zct, zcu, zcv, zcw, zcx, zcy, zcz, zcA, zcB, zcC, List.any_cons, List.any_nil, List.map_cons, List.map_nil, List.length_cons, List.length_nil, List.replicate, Nat.sub_self, List.cons_append, List.nil_append, List.append_nil, List.getElem?_cons_zero, List.getElem?_cons_succ, List.set_cons_zero, List.set_cons_succ, List.set_nil, zcD, zcE, zcF, zcG, zcH, zcI, zcJ, zcK, zcL, zcM, zcN, zcO, zcP, zcQ, zcR, zcS, zcT, zcU, zcV, zcW, zcX, zcY, zcZ, zda, zdb, zdc, zdd, zde, zdf, zdg, zdh, zdi, zdj, zdk, zdl, zdm, zdn, zdo, zdp, zdq, zdr, zds, zdt, zdu, zdv, zdw, zdx, zdy, zdz, zdA, zdB, zdC, zdD, zdE, zdF, zdG]
      refine deeds_drawn (by decide) (by decide) hks.pos (by have := hks.len; omega) fun r hr hrk => ?_
      try simp only [zaa, zab, zac, zad, zae, zaf, zag, zah, zai, zaj, zak, zal, zam, zan, zao, zap, zaq, zar, zas, zat, zau, zav, zaw, zax, zay, zaz, zaA, zaB, zaC, zaD, zaE, zaF, zaG, zaH, zaI, zaJ, zaK, zaL, zaM, zaN, zaO, zaP, zaQ, zaR, zaS, zaT, zaU, zaV, startE, full, fullE, clean, cleanE, zaW, zaX, zaY, zaZ, zba, zbb, zbc, zbd, zbe, zbf, zbg, zbh, zbi, zbj, zbk, zbl, zbm, zbn, zbo, zbp, zbq, zbr, zbs, zbt, zbu, zbv, zbw, zbx, zby, zbz, zbA, zbB, zbC, zbD, zbE, zbF, zbG, zbH, zbI, zbJ, zbK, zbL, zbM, zbN, zbO, zbP, Bool.bne_false, Bool.bne_true, zbQ, zbR, zbS, zbT, zbU, zbV, zbW, zbX, zbY, zbZ, zca, zcb, zcc, zcd, zce, zcf, zcg, zch, zci, zcj, zck, zcl, zcm, zcn, zco, setAll, wipeR, setV, zcp, zcq, zcr, zcs, zct, zcu, zcv, zcw, zcx, zcy, zcz, zcA, zcB, zcC, List.any_cons, List.any_nil, List.map_cons, List.map_nil, List.length_cons, List.length_nil, List.replicate, Nat.sub_self, List.cons_append, List.nil_append, List.append_nil, List.getElem?_cons_zero, List.getElem?_cons_succ, List.set_cons_zero, List.set_cons_succ, List.set_nil, zcD, zcE, zcF, zcG, zcH, zcI, zcJ, zcK, zcL, zcM, zcN, zcO, zcP, zcQ, zcR, zcS, zcT, zcU, zcV, zcW, zcX, zcY, zcZ, zda, zdb, zdc, zdd, zde, zdf, zdg, zdh, zdi, zdj, zdk, zdl, zdm, zdn, zdo, zdp, zdq, zdr, zds, zdt, zdu, zdv, zdw, zdx, zdy, zdz, zdA, zdB, zdC, zdD, zdE, zdF, zdG]
      refine ⟨by decide, by decide, by decide, fun y y0 y1 => ?_⟩
      refine pickW ["half", "three", "full"] y0 (by simpa using y1) fun gr hgr => ?_
      have hgr' : gr = "half" ∨ gr = "three" ∨ gr = "full" := by simpa using hgr
      simp only [b4_law_r, zaa, zab, zac, zad, zae, zaf, zag, zah, zai, zaj, zak, zal, zam, zan, zao, zap, zaq, zar, zas, zat, zau, zav, zaw, zax, zay, zaz, zaA, zaB, zaC, zaD, zaE, zaF, zaG, zaH, zaI, zaJ, zaK, zaL, zaM, zaN, zaO, zaP, zaQ, zaR, zaS, zaT, zaU, zaV, startE, full, fullE, clean, cleanE, zaW, zaX, zaY, zaZ, zba, zbb, zbc, zbd, zbe, zbf, zbg, zbh, zbi, zbj, zbk, zbl, zbm, zbn, zbo, zbp, zbq, zbr, zbs, zbt, zbu, zbv, zbw, zbx, zby, zbz, zbA, zbB, zbC, zbD, zbE, zbF, zbG, zbH, zbI, zbJ, zbK, zbL, zbM, zbN, zbO, zbP, Bool.bne_false, Bool.bne_true, zbQ, zbR, zbS, zbT, zbU, zbV, zbW, zbX, zbY, zbZ, zca, zcb, zcc, zcd, zce, zcf, zcg, zch, zci, zcj, zck, zcl, zcm, zcn, zco, setAll, wipeR, setV, zcp, zcq, zcr, zcs, zct, zcu, zcv, zcw, zcx, zcy, zcz, zcA, zcB, zcC, List.any_cons, List.any_nil, List.map_cons, List.map_nil, List.length_cons, List.length_nil, List.replicate, Nat.sub_self, List.cons_append, List.nil_append, List.append_nil, List.getElem?_cons_zero, List.getElem?_cons_succ, List.set_cons_zero, List.set_cons_succ, List.set_nil, zcD, zcE, zcF, zcG, zcH, zcI, zcJ, zcK, zcL, zcM, zcN, zcO, zcP, zcQ, zcR, zcS, zcT, zcU, zcV, zcW, zcX, zcY, zcZ, zda, zdb, zdc, zdd, zde, zdf, zdg, zdh, zdi, zdj, zdk, zdl, zdm, zdn, zdo, zdp, zdq, zdr, zds, zdt, zdu, zdv, zdw, zdx, zdy, zdz, zdA, zdB, zdC, zdD, zdE, zdF, zdG]
      refine ⟨by decide, by decide, by decide, fun v v0 v1 => ?_⟩
      refine pickW ["low", "fold"] v0 (by simpa using v1) fun hm hhm => ?_
      have hhm' : hm = "low" ∨ hm = "fold" := by simpa using hhm
      have ok : ∀ c, (c = "late" ∨ c = "empty") → (Way.s hm st c g gr).Ok := fun c hc => ⟨hhm', hst', by rcases hc with z | z <;> simp [z], hg, hgr', hp.elim .inl fun z => .inr ⟨hc, z⟩⟩
      exact body_ok hnx (ok "late" (.inl rfl)) (ok "empty" (.inr rfl)) hks hr hrk
    by_cases e1 : st = "up" ∨ st = "down"
    · have e2 : (decide ("up" = st) || (decide ("down" = st) || false)) = true := by rcases e1 with rfl | rfl <;> simp
      simp only [e2, reduceIte, Bool.false_eq_true, decide_true, decide_false, Bool.not_true, Bool.not_false, true_and, and_true, decide_not, Bool.true_bne, Bool.false_bne, Bool.not_not, zaa, zab, zac, zad, zae, zaf, zag, zah, zai, zaj, zak, zal, zam, zan, zao, zap, zaq, zar, zas, zat, zau, zav, zaw, zax, zay, zaz, zaA, zaB, zaC, zaD, zaE, zaF, zaG, zaH, zaI, zaJ, zaK, zaL, zaM, zaN, zaO, zaP, zaQ, zaR, zaS, zaT, zaU, zaV, startE, full, fullE, clean, cleanE, zaW, zaX, zaY, zaZ, zba, zbb, zbc, zbd, zbe, zbf, zbg, zbh, zbi, zbj, zbk, zbl, zbm, zbn, zbo, zbp, zbq, zbr, zbs, zbt, zbu, zbv, zbw, zbx, zby, zbz, zbA, zbB, zbC, zbD, zbE, zbF, zbG, zbH, zbI, zbJ, zbK, zbL, zbM, zbN, zbO, zbP, Bool.bne_false, Bool.bne_true, zbQ, zbR, zbS, zbT, zbU, zbV, zbW, zbX, zbY, zbZ, zca, zcb, zcc, zcd, zce, zcf, zcg, zch, zci, zcj, zck, zcl, zcm, zcn, zco, setAll, wipeR, setV, zcp, zcq, zcr, zcs, zct, zcu, zcv, zcw, zcx, zcy, zcz, zcA, zcB, zcC, List.any_cons, List.any_nil, List.map_cons, List.map_nil, List.length_cons, List.length_nil, List.replicate, Nat.sub_self, List.cons_append, List.nil_append, List.append_nil, List.getElem?_cons_zero, List.getElem?_cons_succ, List.set_cons_zero, List.set_cons_succ, List.set_nil, zcD, zcE, zcF, zcG, zcH, zcI, zcJ, zcK, zcL, zcM, zcN, zcO, zcP, zcQ, zcR, zcS, zcT, zcU, zcV, zcW, zcX, zcY, zcZ, zda, zdb, zdc, zdd, zde, zdf, zdg, zdh, zdi, zdj, zdk, zdl, zdm, zdn, zdo, zdp, zdq, zdr, zds, zdt, zdu, zdv, zdw, zdx, zdy, zdz, zdA, zdB, zdC, zdD, zdE, zdF, zdG]
      refine ⟨by decide, by decide, by decide, by decide, fun y y0 y1 => ?_⟩
      refine pickW ["mark", "hole", "again", "pull"] y0 (by simpa using y1) fun g hg => ?_
      exact fin g (by simpa using hg) (.inl e1)
    · have e2 : (decide ("up" = st) || (decide ("down" = st) || false)) = false := by
        have n1 : ¬ "up" = st := fun z => e1 (.inl z.symm)
        have n2 : ¬ "down" = st := fun z => e1 (.inr z.symm)
        simp [n1, n2]
      simp only [e2, reduceIte, Bool.false_eq_true, decide_true, decide_false, Bool.not_true, Bool.not_false, true_and, and_true, decide_not, Bool.true_bne, Bool.false_bne, Bool.not_not, zaa, zab, zac, zad, zae, zaf, zag, zah, zai, zaj, zak, zal, zam, zan, zao, zap, zaq, zar, zas, zat, zau, zav, zaw, zax, zay, zaz, zaA, zaB, zaC, zaD, zaE, zaF, zaG, zaH, zaI, zaJ, zaK, zaL, zaM, zaN, zaO, zaP, zaQ, zaR, zaS, zaT, zaU, zaV, startE, full, fullE, clean, cleanE, zaW, zaX, zaY, zaZ, zba, zbb, zbc, zbd, zbe, zbf, zbg, zbh, zbi, zbj, zbk, zbl, zbm, zbn, zbo, zbp, zbq, zbr, zbs, zbt, zbu, zbv, zbw, zbx, zby, zbz, zbA, zbB, zbC, zbD, zbE, zbF, zbG, zbH, zbI, zbJ, zbK, zbL, zbM, zbN, zbO, zbP, Bool.bne_false, Bool.bne_true, zbQ, zbR, zbS, zbT, zbU, zbV, zbW, zbX, zbY, zbZ, zca, zcb, zcc, zcd, zce, zcf, zcg, zch, zci, zcj, zck, zcl, zcm, zcn, zco, setAll, wipeR, setV, zcp, zcq, zcr, zcs, zct, zcu, zcv, zcw, zcx, zcy, zcz, zcA, zcB, zcC, List.any_cons, List.any_nil, List.map_cons, List.map_nil, List.length_cons, List.length_nil, List.replicate, Nat.sub_self, List.cons_append, List.nil_append, List.append_nil, List.getElem?_cons_zero, List.getElem?_cons_succ, List.set_cons_zero, List.set_cons_succ, List.set_nil, zcD, zcE, zcF, zcG, zcH, zcI, zcJ, zcK, zcL, zcM, zcN, zcO, zcP, zcQ, zcR, zcS, zcT, zcU, zcV, zcW, zcX, zcY, zcZ, zda, zdb, zdc, zdd, zde, zdf, zdg, zdh, zdi, zdj, zdk, zdl, zdm, zdn, zdo, zdp, zdq, zdr, zds, zdt, zdu, zdv, zdw, zdx, zdy, zdz, zdA, zdB, zdC, zdD, zdE, zdF, zdG]
      refine ⟨by decide, by decide, by decide, by decide, fun y y0 y1 => ?_⟩
      refine pickWn ["mark", "hole", "again", "pull"] 3 y0 y1 (by decide) fun g hg => ?_
      have hg' : g = "mark" ∨ g = "hole" ∨ g = "again" := by simpa using hg
      exact fin g (by rcases hg' with z | z | z <;> simp [z]) (.inr (by rcases hg' with z | z | z <;> simp [z]))
end
end G6

namespace G6
open PySem PySem.Spec L2 DL
def top (i : Nat) : Stmt := PySem.Challenge.pw_slotorders_k11_whole_late_and_empty.main.body.getD i (.Pass ⟨0, 0, 0, 0⟩)
abbrev s_is_between : Stmt := top 11
abbrev s_is_word : Stmt := top 12
abbrev s_home_of : Stmt := top 25
abbrev s_bound_of : Stmt := top 27
abbrev s_begun : Stmt := top 31
abbrev s_keys_in : Stmt := top 32
abbrev s_each_once : Stmt := top 34
abbrev s_with_slot : Stmt := top 36
abbrev s__law_draw : Stmt := top 54
abbrev s__law_begun : Stmt := top 55
abbrev s_is_slot_way : Stmt := top 13
abbrev s_is_key : Stmt := top 16
abbrev s_check_sight : Stmt := top 23
abbrev s_walk_of : Stmt := top 26
abbrev s_order_in : Stmt := top 33
abbrev s_distance : Stmt := top 37
abbrev s_used_in : Stmt := top 40
abbrev s__law_some : Stmt := top 56
abbrev s__law_deeds : Stmt := top 57
abbrev s_is_way : Stmt := top 14
abbrev s_is_deed : Stmt := top 20
abbrev s_found_at : Stmt := top 35
abbrev s_placed : Stmt := top 38
abbrev s_pulled : Stmt := top 42
abbrev s_seen_of : Stmt := top 45
abbrev s_check_way : Stmt := top 15
abbrev s_is_row : Stmt := top 21
abbrev s_laid_anew : Stmt := top 39
abbrev s_check_row : Stmt := top 22
abbrev s_grown : Stmt := top 41
abbrev s_removed : Stmt := top 43
abbrev s_done : Stmt := top 44
abbrev s_work : Stmt := top 47
abbrev s_seen_along : Stmt := top 48
abbrev s_checked_work : Stmt := top 50
abbrev s_run : Stmt := top 49
abbrev s_table_after : Stmt := top 51
abbrev s_were_found : Stmt := top 52
abbrev s_law : Stmt := top 58
structure Tx (K : PySem.W.Frag) (mg : Str → Option Value) : Prop where
  b_all : mg "all" = none
  b_bool : mg "bool" = none
  b_int : mg "int" = none
  b_isinstance : mg "isinstance" = none
  b_len : mg "len" = none
  b_range : mg "range" = none
  b_sorted : mg "sorted" = none
  b_str : mg "str" = none
  b_tuple : mg "tuple" = none
  b_zip : mg "zip" = none
  c_EMPTY : ∃ t, mg "EMPTY" = some (.int (-1) t)
  c_GONE : ∃ t, mg "GONE" = some (.int (-2) t)
  c_HOMES : ∃ u : Addr, mg "HOMES" = some (.ref u) ∧ ∀ (O : Ob) (H : Hp) (P : Addr → Prop), Dv O K H P (.ref u) c_HOMES
  c_STEPS : ∃ u : Addr, mg "STEPS" = some (.ref u) ∧ ∀ (O : Ob) (H : Hp) (P : Addr → Prop), Dv O K H P (.ref u) c_STEPS
  c_COMES : ∃ u : Addr, mg "COMES" = some (.ref u) ∧ ∀ (O : Ob) (H : Hp) (P : Addr → Prop), Dv O K H P (.ref u) c_COMES
  c_GONES : ∃ u : Addr, mg "GONES" = some (.ref u) ∧ ∀ (O : Ob) (H : Hp) (P : Addr → Prop), Dv O K H P (.ref u) c_GONES
  c_GROWS : ∃ u : Addr, mg "GROWS" = some (.ref u) ∧ ∀ (O : Ob) (H : Hp) (P : Addr → Prop), Dv O K H P (.ref u) c_GROWS
  c_KINDS : ∃ u : Addr, mg "KINDS" = some (.ref u) ∧ ∀ (O : Ob) (H : Hp) (P : Addr → Prop), Dv O K H P (.ref u) c_KINDS
  c_SIGHTS : ∃ u : Addr, mg "SIGHTS" = some (.ref u) ∧ ∀ (O : Ob) (H : Hp) (P : Addr → Prop), Dv O K H P (.ref u) c_SIGHTS
  f_is_between : FnT K mg "is_between" s_is_between
  f_is_word : FnT K mg "is_word" s_is_word
  f_home_of : FnT K mg "home_of" s_home_of
  f_bound_of : FnT K mg "bound_of" s_bound_of
  f_begun : FnT K mg "begun" s_begun
  f_keys_in : FnT K mg "keys_in" s_keys_in
  f_each_once : FnT K mg "each_once" s_each_once
  f_with_slot : FnT K mg "with_slot" s_with_slot
  f__law_draw : FnT K mg "_law_draw" s__law_draw
  f__law_begun : FnT K mg "_law_begun" s__law_begun
  f_is_slot_way : FnT K mg "is_slot_way" s_is_slot_way
  f_is_key : FnT K mg "is_key" s_is_key
  f_check_sight : FnT K mg "check_sight" s_check_sight
  f_walk_of : FnT K mg "walk_of" s_walk_of
  f_order_in : FnT K mg "order_in" s_order_in
  f_distance : FnT K mg "distance" s_distance
  f_used_in : FnT K mg "used_in" s_used_in
  f__law_some : FnT K mg "_law_some" s__law_some
  f__law_deeds : FnT K mg "_law_deeds" s__law_deeds
  f_is_way : FnT K mg "is_way" s_is_way
  f_is_deed : FnT K mg "is_deed" s_is_deed
  f_found_at : FnT K mg "found_at" s_found_at
  f_placed : FnT K mg "placed" s_placed
  f_pulled : FnT K mg "pulled" s_pulled
  f_seen_of : FnT K mg "seen_of" s_seen_of
  f_check_way : FnT K mg "check_way" s_check_way
  f_is_row : FnT K mg "is_row" s_is_row
  f_laid_anew : FnT K mg "laid_anew" s_laid_anew
  f_check_row : FnT K mg "check_row" s_check_row
  f_grown : FnT K mg "grown" s_grown
  f_removed : FnT K mg "removed" s_removed
  f_done : FnT K mg "done" s_done
  f_work : FnT K mg "work" s_work
  f_seen_along : FnT K mg "seen_along" s_seen_along
  f_checked_work : FnT K mg "checked_work" s_checked_work
  f_run : FnT K mg "run" s_run
  f_table_after : FnT K mg "table_after" s_table_after
  f_were_found : FnT K mg "were_found" s_were_found
  f_law : FnT K mg "law" s_law
section
variable {P : Program} {w : World} {K : PySem.W.Frag} {mg : Str → Option Value} {base : Heap}
theorem sc_is_between : FnScope ["value", "low", "high"] ["value", "low", "high"] (defScope s_is_between) := ⟨rfl, rfl, rfl, by decide +kernel, rfl, by decide +kernel, by decide +kernel⟩
theorem cal_is_between (T : Tx K mg) : Cal (obT P w) P w K mg base "is_between" 1 ["value", "low", "high"] m_is_between := by
  refine cal_of (k := 0) T.f_is_between sc_is_between (fun _ _ _ _ _ _ us hl => match us, hl with | [_, _, _], _ => rfl) (fun f cdv A outer s H E hr => ?_)
  exact (dss_one (ds_ret (de_and (de_isi (x := "x") (T := "int") (n := "int") (de_var 0) (by rfl) T.b_isinstance (by rfl) T.b_int (by decide +kernel)) (de_and (de_not (de_isi (x := "x") (T := "bool") (n := "bool") (de_var 0) (by rfl) T.b_isinstance (by rfl) T.b_bool (by decide +kernel))) (de_one (de_chain op_le op_le opd_le opd_le (de_var 1) (de_var 0) (de_var 2)))))))
theorem sc_is_word : FnScope ["value", "words"] ["value", "words"] (defScope s_is_word) := ⟨rfl, rfl, rfl, by decide +kernel, rfl, by decide +kernel, by decide +kernel⟩
theorem cal_is_word (T : Tx K mg) : Cal (obT P w) P w K mg base "is_word" 1 ["value", "words"] m_is_word := by
  refine cal_of (k := 0) T.f_is_word sc_is_word (fun _ _ _ _ _ _ us hl => match us, hl with | [_, _], _ => rfl) (fun f cdv A outer s H E hr => ?_)
  exact (dss_one (ds_ret (de_and (de_isi (x := "x") (T := "str") (n := "str") (de_var 0) (by rfl) T.b_isinstance (by rfl) T.b_str (by decide +kernel)) (de_one (de_cmp (op_inA (u65 hr)) opd_in (de_var 0) (de_var 1) rfl)))))
theorem sc_home_of : FnScope ["way", "key", "size"] ["way", "key", "size"] (defScope s_home_of) := ⟨rfl, rfl, rfl, by decide +kernel, rfl, by decide +kernel, by decide +kernel⟩
theorem cal_home_of (T : Tx K mg) : Cal (obT P w) P w K mg base "home_of" 1 ["way", "key", "size"] m_home_of := by
  refine cal_of (k := 0) T.f_home_of sc_home_of (fun _ _ _ _ _ _ us hl => match us, hl with | [_, _, _], _ => rfl) (fun f cdv A outer s H E hr => ?_)
  exact (dss_one (ds_ret (de_op op_mod opd_mod (de_if (dt_cmp (op_eqD hr.units) opd_eq (de_idx (de_var 0) de_int (fun _ _ => rfl)) de_str (nomark _)) (de_var 1) (de_op op_addD opd_add (de_var 1) (de_op op_fdiv opd_fdiv (de_var 1) de_int))) (de_var 2))))
theorem sc_bound_of : FnScope ["way", "size"] ["way", "size"] (defScope s_bound_of) := ⟨rfl, rfl, rfl, by decide +kernel, rfl, by decide +kernel, by decide +kernel⟩
theorem cal_bound_of (T : Tx K mg) : Cal (obT P w) P w K mg base "bound_of" 1 ["way", "size"] m_bound_of := by
  refine cal_of (k := 0) T.f_bound_of sc_bound_of (fun _ _ _ _ _ _ us hl => match us, hl with | [_, _], _ => rfl) (fun f cdv A outer s H E hr => ?_)
  exact (dss_cons (ds_if (dt_cmp (op_eqD hr.units) opd_eq (de_idx (de_var 0) de_int (fun _ _ => rfl)) de_str (nomark _)) (dss_one (ds_ret (de_if (dt_cmp (op_eqD hr.units) opd_eq (de_idx (de_var 0) de_int (fun _ _ => rfl)) de_str (nomark _)) (de_var 1) (de_op op_mulD opd_mul de_int (de_var 1))))) dss_nil)
      (dss_one (ds_ret (de_dget (obT_no _ _) (u65 hr) (DD.de (dd_disp (dps_cons de_str (de_op op_fdiv opd_fdiv (de_var 1) de_int) (dps_cons de_str (de_op op_fdiv opd_fdiv (de_op op_mulD opd_mul (de_var 1) de_int) de_int) (dps_cons de_str (de_op op_sub opd_sub (de_var 1) de_int) dps_nil))))) (de_idx (de_var 0) de_int (fun _ _ => rfl)) (fun _ _ => rfl)))))
theorem sc_begun : FnScope ["way", "size"] ["way", "size"] (defScope s_begun) := ⟨rfl, rfl, rfl, by decide +kernel, rfl, by decide +kernel, by decide +kernel⟩
theorem cal_begun (T : Tx K mg) : Cal (obT P w) P w K mg base "begun" 1 ["way", "size"] m_begun := by
  refine cal_of (k := 0) T.f_begun sc_begun (fun _ _ _ _ _ _ us hl => match us, hl with | [_, _], _ => rfl) (fun f cdv A outer s H E hr => ?_)
  exact (dss_one (ds_ret (de_if (dt_cmp (op_eqD hr.units) opd_eq (de_idx (de_var 0) de_int (fun _ _ => rfl)) de_str (nomark _)) (de_op op_mulD opd_mul (de_tup (da_cons (de_tup da_nil) da_nil)) (de_var 1)) (de_op op_mulD opd_mul (de_tup (da_cons (de_globI (by rfl) T.c_EMPTY) da_nil)) (de_var 1)))))
theorem sc_keys_in : FnScope ["way", "table", "key", "row"] ["way", "table"] (defScope s_keys_in) := ⟨rfl, rfl, rfl, by decide +kernel, rfl, by decide +kernel, by decide +kernel⟩
theorem cal_keys_in (T : Tx K mg) : Cal (obT P w) P w K mg base "keys_in" 1 ["way", "table"] m_keys_in := by
  refine cal_of (k := 0) T.f_keys_in sc_keys_in (fun _ _ _ _ _ _ us hl => match us, hl with | [_, _], _ => rfl) (fun f cdv A outer s H E hr => ?_)
  exact (dss_cons (ds_if (dt_cmp (op_eqD hr.units) opd_eq (de_idx (de_var 0) de_int (fun _ _ => rfl)) de_str (nomark _)) (dss_one (ds_ret (DF.de (DLc.df (lc2 (own := [("row", 3), ("key", 2)]) (vs1 := [2]) rfl sc_keys_in.nd (di_seq (de_var 1)) (blkOk_by (by kernel_rfl)) (by decide) (fun _ _ _ _ _ => (dg_name 3 sc_keys_in.nd)) (fun _ _ _ _ _ => dts_nil) (fun _ _ _ _ _ => (di_seq (de_var 3))) (fun _ _ _ _ _ => (dg_name 2 sc_keys_in.nd)) (fun _ _ _ _ _ => dts_nil) (fun _ _ _ _ _ => (de_var 2)) (by decide) (by decide)))))) dss_nil)
      (dss_one (ds_ret (DF.de (DLc.df (lc1 (own := [("key", 2)]) rfl sc_keys_in.nd (di_seq (de_var 1)) (blkOk_by (by kernel_rfl)) (fun _ _ _ _ _ => (dg_name 2 sc_keys_in.nd)) (fun _ _ _ _ _ => (dts_one (dt_cmp op_ge opd_ge (de_var 2) de_int (nomark _)))) (fun _ _ _ _ _ => (de_var 2)) (by decide)))))))
theorem sc_each_once : FnScope ["keys", "found", "key"] ["keys"] (defScope s_each_once) := ⟨rfl, rfl, rfl, by decide +kernel, rfl, by decide +kernel, by decide +kernel⟩
theorem cal_each_once (T : Tx K mg) : Cal (obT P w) P w K mg base "each_once" 1 ["keys"] m_each_once := by
  refine cal_of (k := 0) T.f_each_once sc_each_once (fun _ _ _ _ _ _ us hl => match us, hl with | [_], _ => rfl) (fun f cdv A outer s H E hr => ?_)
  exact (dss_cons (ds_setF 1 sc_each_once.nd (df_lst da_nil))
      (dss_cons (ds_for PassesOwn.never rfl (di_seq (de_var 0)) (dg_name 2 sc_each_once.nd) (dss_one (ds_if (dt_cmp (op_notInA (u65 hr)) opd_notIn (de_var 2) (de_var 1) rfl) (dss_one (ds_app 1 (de_var 2))) dss_nil)))
      (dss_one (ds_ret (de_var 1)))))
theorem sc_with_slot : FnScope ["table", "slot", "thing"] ["table", "slot", "thing"] (defScope s_with_slot) := ⟨rfl, rfl, rfl, by decide +kernel, rfl, by decide +kernel, by decide +kernel⟩
theorem cal_with_slot (T : Tx K mg) : Cal (obT P w) P w K mg base "with_slot" 1 ["table", "slot", "thing"] m_with_slot := by
  refine cal_of (k := 0) T.f_with_slot sc_with_slot (fun _ _ _ _ _ _ us hl => match us, hl with | [_, _, _], _ => rfl) (fun f cdv A outer s H E hr => ?_)
  exact (dss_one (ds_ret (de_op op_addD opd_add (de_op op_addD opd_add (de_slice (de_var 0) do_none (do_some (de_var 1))) (de_tup (da_cons (de_var 2) da_nil))) (de_slice (de_var 0) (do_some (de_op op_addD opd_add (de_var 1) de_int)) do_none))))
theorem sc__law_draw : FnScope ["script", "town", "many", "at", "rest", "number"] ["script", "town", "many"] (defScope s__law_draw) := ⟨rfl, rfl, rfl, by decide +kernel, rfl, by decide +kernel, by decide +kernel⟩
theorem cal__law_draw (T : Tx K mg) : Cal (obT P w) P w K mg base "_law_draw" 1 ["script", "town", "many"] m__law_draw := by
  refine DL.cal_draw T.f__law_draw sc__law_draw (fun _ _ _ _ _ _ us hl => match us, hl with | [_, _, _], _ => rfl) (fun f cdv A outer s H E hr => ?_)
  have hu1 := u65 hr
  have hu : (cxOf CX0 P w K mg base ["script", "town", "many", "at", "rest", "number"] "_law_draw" (defScope s__law_draw) f cdv A outer s H E).nox.A.units + 1 < cLine := by
    show (A.deeper _).units + 1 < cLine
    omega
  exact pss_cons (ps_dput hu (pv 1) pe_str (pe_op op_add (pe_dget hu (pv 1) pe_str (fun _ _ => rfl)) pe_int) rfl)
    (pss_cons (ps_set (i := 3) sc__law_draw.nd rfl (Or.inl rfl) (pe_ifExp (pt_truth (pv 0) (fun _ => rfl)) (pe_op op_mod (pe_dget hu (pv 1) pe_str (fun _ _ => rfl)) (pe_callB call_len rfl T.b_len boot_len (pa_cons (pv 0) pa_nil))) pe_int))
    (pss_cons (ps_set (i := 4) sc__law_draw.nd rfl (Or.inl rfl) (pe_dget2 hu (pe_dget hu (pv 1) pe_str (fun _ _ => rfl)) (pv 3) (pe_ifExp (pt_truth (pv 0) (fun _ => rfl)) (pe_ix ix_list (pv 0) (pv 3) (fun _ _ => rfl)) pe_int) ⟨rfl, rfl, rfl, rfl⟩))
    (pss_cons (ps_if (pt_cmpR op_ge (pv 4) (pe_op op_pow pe_int pe_int) (nomark _)) (pss_cons (ps_dput hu (pe_dget hu (pv 1) pe_str (fun _ _ => rfl)) (pv 3) (pe_op op_fdiv (pv 4) (pv 2)) rfl) (pss_one (ps_ret (pe_op op_mod (pv 4) (pv 2))))) pss_nil)
    (pss_cons (ps_set (i := 5) sc__law_draw.nd rfl (Or.inl rfl) (pe_op op_mod (pe_op op_add (pv 4) (pe_op op_mul pe_int (pe_dget hu (pv 1) pe_str (fun _ _ => rfl)))) pe_int))
    (pss_cons (ps_set (i := 5) sc__law_draw.nd rfl (Or.inl rfl) (pe_op op_mod (pe_op op_pow (pv 5) pe_int) pe_int))
    (pss_one (ps_ret (pe_op op_mod (pe_op op_fdiv (pe_op op_mod (pe_op op_add (pe_op op_mul (pe_op op_fdiv (pv 5) pe_int) pe_int) (pv 5)) pe_int) pe_int) (pv 2)))))))))
theorem sc__law_begun : FnScope [] [] (defScope s__law_begun) := ⟨rfl, rfl, rfl, by decide +kernel, rfl, by decide +kernel, by decide +kernel⟩
theorem cal__law_begun (T : Tx K mg) : Cal (obT P w) P w K mg base "_law_begun" 1 [] m__law_begun := by
  refine DL.cal_begun T.f__law_begun sc__law_begun (fun _ _ _ _ _ _ us hl => match us, hl with | [], _ => rfl) (fun f cdv A outer s H E hr => ?_)
  exact pss_one (ps_ret (pe_disp (pps_cons pe_str pe_int (pps_cons pe_str pe_dnewK pps_nil)) rfl rfl (fun z => nomatch z) (by decide)))
theorem sc_is_slot_way : FnScope ["value"] ["value"] (defScope s_is_slot_way) := ⟨rfl, rfl, rfl, by decide +kernel, rfl, by decide +kernel, by decide +kernel⟩
theorem cal_is_slot_way (T : Tx K mg) : Cal (obT P w) P w K mg base "is_slot_way" 2 ["value"] m_is_slot_way := by
  have C_is_word := cal_is_word (P := P) (w := w) (base := base) T
  refine cal_of (k := 1) T.f_is_slot_way sc_is_slot_way (fun _ _ _ _ _ _ us hl => match us, hl with | [_], _ => rfl) (fun f cdv A outer s H E hr => ?_)
  exact (dss_cons (ds_if (DW.dt (dw_or (dt_cmp (op_neD hr.units) opd_ne (de_callB call_len cbd_len (by rfl) T.b_len (by decide +kernel) (da_cons (de_var 0) da_nil)) de_int (nomark _)) (dw_or (dt_not (dt_val (de_fn C_is_word hr (da_cons (de_idx (de_var 0) de_int (fun _ _ => rfl)) (da_cons (de_globE (by rfl) T.c_HOMES) da_nil))))) (dw_or1 (dt_not (dt_val (de_fn C_is_word hr (da_cons (de_idx (de_var 0) de_int (fun _ _ => rfl)) (da_cons (de_globE (by rfl) T.c_STEPS) da_nil))))))))) (dss_one (ds_ret de_bl)) dss_nil)
      (dss_cons (ds_if (DW.dt (dw_or (dt_not (dt_val (de_fn C_is_word hr (da_cons (de_idx (de_var 0) de_int (fun _ _ => rfl)) (da_cons (de_globE (by rfl) T.c_COMES) da_nil))))) (dw_or (dt_not (dt_val (de_fn C_is_word hr (da_cons (de_idx (de_var 0) de_int (fun _ _ => rfl)) (da_cons (de_globE (by rfl) T.c_GONES) da_nil))))) (dw_or1 (dt_not (dt_val (de_fn C_is_word hr (da_cons (de_idx (de_var 0) de_int (fun _ _ => rfl)) (da_cons (de_globE (by rfl) T.c_GROWS) da_nil))))))))) (dss_one (ds_ret de_bl)) dss_nil)
      (dss_one (ds_ret (de_or (de_cmp (op_inA (u65 hr)) opd_in (de_idx (de_var 0) de_int (fun _ _ => rfl)) (de_tup (da_cons de_str (da_cons de_str da_nil))) rfl) (de_one (de_and (de_cmp (op_inA (u65 hr)) opd_in (de_idx (de_var 0) de_int (fun _ _ => rfl)) (de_tup (da_cons de_str (da_cons de_str da_nil))) rfl) (de_one (de_cmp (op_neD hr.units) opd_ne (de_idx (de_var 0) de_int (fun _ _ => rfl)) de_str (nomark _))))))))))
theorem sc_is_key : FnScope ["value"] ["value"] (defScope s_is_key) := ⟨rfl, rfl, rfl, by decide +kernel, rfl, by decide +kernel, by decide +kernel⟩
theorem cal_is_key (T : Tx K mg) : Cal (obT P w) P w K mg base "is_key" 2 ["value"] m_is_key := by
  have C_is_between := cal_is_between (P := P) (w := w) (base := base) T
  refine cal_of (k := 1) T.f_is_key sc_is_key (fun _ _ _ _ _ _ us hl => match us, hl with | [_], _ => rfl) (fun f cdv A outer s H E hr => ?_)
  exact (dss_one (ds_ret (de_fn C_is_between hr (da_cons (de_var 0) (da_cons de_int (da_cons de_int da_nil))))))
theorem sc_check_sight : FnScope ["sight"] ["sight"] (defScope s_check_sight) := ⟨rfl, rfl, rfl, by decide +kernel, rfl, by decide +kernel, by decide +kernel⟩
theorem cal_check_sight (T : Tx K mg) : Cal (obT P w) P w K mg base "check_sight" 2 ["sight"] m_check_sight := by
  have C_is_word := cal_is_word (P := P) (w := w) (base := base) T
  refine cal_of (k := 1) T.f_check_sight sc_check_sight (fun _ _ _ _ _ _ us hl => match us, hl with | [_], _ => rfl) (fun f cdv A outer s H E hr => ?_)
  exact (dss_one (ds_if (dt_not (dt_val (de_fn C_is_word hr (da_cons (de_var 0) (da_cons (de_globE (by rfl) T.c_SIGHTS) da_nil))))) (dss_one ds_never) dss_nil))
theorem sc_walk_of : FnScope ["way", "key", "size", "start", "at"] ["way", "key", "size"] (defScope s_walk_of) := ⟨rfl, rfl, rfl, by decide +kernel, rfl, by decide +kernel, by decide +kernel⟩
theorem cal_walk_of (T : Tx K mg) : Cal (obT P w) P w K mg base "walk_of" 2 ["way", "key", "size"] m_walk_of := by
  have C_home_of := cal_home_of (P := P) (w := w) (base := base) T
  refine cal_of (k := 1) T.f_walk_of sc_walk_of (fun _ _ _ _ _ _ us hl => match us, hl with | [_, _, _], _ => rfl) (fun f cdv A outer s H E hr => ?_)
  exact (dss_cons (ds_set 3 sc_walk_of.nd (de_fn C_home_of hr (da_cons (de_var 0) (da_cons (de_var 1) (da_cons (de_var 2) da_nil)))))
      (dss_cons (ds_if (dt_cmp (op_eqD hr.units) opd_eq (de_idx (de_var 0) de_int (fun _ _ => rfl)) de_str (nomark _)) (dss_one (ds_ret (de_tup (da_cons (de_var 3) da_nil)))) dss_nil)
      (dss_cons (ds_if (dt_cmp (op_eqD hr.units) opd_eq (de_idx (de_var 0) de_int (fun _ _ => rfl)) de_str (nomark _)) (dss_one (ds_ret (de_callTy call_tupF cbd_tuple (by rfl) T.b_tuple (by decide +kernel) (da_cons (DF.de (DLc.df (lc1 (own := [("at", 4)]) rfl sc_walk_of.nd (di_range1 (by rfl) T.b_range (da_cons (de_var 2) da_nil)) (blkOk_by (by kernel_rfl)) (fun _ _ _ _ _ => (dg_name 4 sc_walk_of.nd)) (fun _ _ _ _ _ => dts_nil) (fun _ _ _ _ _ => (de_op op_mod opd_mod (de_op op_addD opd_add (de_var 3) (de_var 4)) (de_var 2))) (by decide)))) da_nil)))) dss_nil)
      (dss_cons (ds_if (dt_cmp (op_eqD hr.units) opd_eq (de_idx (de_var 0) de_int (fun _ _ => rfl)) de_str (nomark _)) (dss_one (ds_ret (de_callTy call_tupF cbd_tuple (by rfl) T.b_tuple (by decide +kernel) (da_cons (DF.de (DLc.df (lc1 (own := [("at", 4)]) rfl sc_walk_of.nd (di_range1 (by rfl) T.b_range (da_cons (de_var 2) da_nil)) (blkOk_by (by kernel_rfl)) (fun _ _ _ _ _ => (dg_name 4 sc_walk_of.nd)) (fun _ _ _ _ _ => dts_nil) (fun _ _ _ _ _ => (de_op op_mod opd_mod (de_op op_sub opd_sub (de_var 3) (de_var 4)) (de_var 2))) (by decide)))) da_nil)))) dss_nil)
      (dss_cons (ds_if (dt_cmp (op_eqD hr.units) opd_eq (de_idx (de_var 0) de_int (fun _ _ => rfl)) de_str (nomark _)) (dss_one (ds_ret (de_callTy call_tupF cbd_tuple (by rfl) T.b_tuple (by decide +kernel) (da_cons (DF.de (DLc.df (lc1 (own := [("at", 4)]) rfl sc_walk_of.nd (di_range1 (by rfl) T.b_range (da_cons (de_var 2) da_nil)) (blkOk_by (by kernel_rfl)) (fun _ _ _ _ _ => (dg_name 4 sc_walk_of.nd)) (fun _ _ _ _ _ => dts_nil) (fun _ _ _ _ _ => (de_op op_mod opd_mod (de_op op_addD opd_add (de_var 3) (de_op op_fdiv opd_fdiv (de_op op_mulD opd_mul (de_var 4) (de_op op_addD opd_add (de_var 4) de_int)) de_int)) (de_var 2))) (by decide)))) da_nil)))) dss_nil)
      (dss_one (ds_ret (de_callTy call_tupF cbd_tuple (by rfl) T.b_tuple (by decide +kernel) (da_cons (DF.de (DLc.df (lc1 (own := [("at", 4)]) rfl sc_walk_of.nd (di_range1 (by rfl) T.b_range (da_cons (de_var 2) da_nil)) (blkOk_by (by kernel_rfl)) (fun _ _ _ _ _ => (dg_name 4 sc_walk_of.nd)) (fun _ _ _ _ _ => dts_nil) (fun _ _ _ _ _ => (de_op op_mod opd_mod (de_op op_addD opd_add (de_var 3) (de_op op_mulD opd_mul (de_var 4) (de_op op_addD opd_add de_int (de_op op_mulD opd_mul de_int (de_op op_mod opd_mod (de_op op_fdiv opd_fdiv (de_var 1) de_int) de_int))))) (de_var 2))) (by decide)))) da_nil)))))))))
theorem sc_order_in : FnScope ["way", "table"] ["way", "table"] (defScope s_order_in) := ⟨rfl, rfl, rfl, by decide +kernel, rfl, by decide +kernel, by decide +kernel⟩
theorem cal_order_in (T : Tx K mg) : Cal (obT P w) P w K mg base "order_in" 2 ["way", "table"] m_order_in := by
  have C_keys_in := cal_keys_in (P := P) (w := w) (base := base) T
  refine cal_of (k := 1) T.f_order_in sc_order_in (fun _ _ _ _ _ _ us hl => match us, hl with | [_, _], _ => rfl) (fun f cdv A outer s H E hr => ?_)
  exact (dss_one (ds_ret (de_callTy call_tupF cbd_tuple (by rfl) T.b_tuple (by decide +kernel) (da_cons (de_fn C_keys_in hr (da_cons (de_var 0) (da_cons (de_var 1) da_nil))) da_nil))))
theorem sc_distance : FnScope ["way", "key", "slot", "size", "start"] ["way", "key", "slot", "size"] (defScope s_distance) := ⟨rfl, rfl, rfl, by decide +kernel, rfl, by decide +kernel, by decide +kernel⟩
theorem cal_distance (T : Tx K mg) : Cal (obT P w) P w K mg base "distance" 2 ["way", "key", "slot", "size"] m_distance := by
  have C_home_of := cal_home_of (P := P) (w := w) (base := base) T
  refine cal_of (k := 1) T.f_distance sc_distance (fun _ _ _ _ _ _ us hl => match us, hl with | [_, _, _, _], _ => rfl) (fun f cdv A outer s H E hr => ?_)
  exact (dss_cons (ds_set 4 sc_distance.nd (de_fn C_home_of hr (da_cons (de_var 0) (da_cons (de_var 1) (da_cons (de_var 3) da_nil)))))
      (dss_one (ds_ret (de_if (dt_cmp (op_eqD hr.units) opd_eq (de_idx (de_var 0) de_int (fun _ _ => rfl)) de_str (nomark _)) (de_op op_mod opd_mod (de_op op_sub opd_sub (de_var 2) (de_var 4)) (de_var 3)) (de_op op_mod opd_mod (de_op op_sub opd_sub (de_var 4) (de_var 2)) (de_var 3))))))
theorem sc_used_in : FnScope ["way", "table", "thing"] ["way", "table"] (defScope s_used_in) := ⟨rfl, rfl, rfl, by decide +kernel, rfl, by decide +kernel, by decide +kernel⟩
theorem cal_used_in (T : Tx K mg) : Cal (obT P w) P w K mg base "used_in" 2 ["way", "table"] m_used_in := by
  have C_keys_in := cal_keys_in (P := P) (w := w) (base := base) T
  refine cal_of (k := 1) T.f_used_in sc_used_in (fun _ _ _ _ _ _ us hl => match us, hl with | [_, _], _ => rfl) (fun f cdv A outer s H E hr => ?_)
  exact (dss_cons (ds_if (dt_cmp (op_eqD hr.units) opd_eq (de_idx (de_var 0) de_int (fun _ _ => rfl)) de_str (nomark _)) (dss_one (ds_ret (de_callB call_len cbd_len (by rfl) T.b_len (by decide +kernel) (da_cons (de_fn C_keys_in hr (da_cons (de_var 0) (da_cons (de_var 1) da_nil))) da_nil)))) dss_nil)
      (dss_one (ds_ret (de_callB call_len cbd_len (by rfl) T.b_len (by decide +kernel) (da_cons (DF.de (DLc.df (lc1 (own := [("thing", 2)]) rfl sc_used_in.nd (di_seq (de_var 1)) (blkOk_by (by kernel_rfl)) (fun _ _ _ _ _ => (dg_name 2 sc_used_in.nd)) (fun _ _ _ _ _ => (dts_one (dt_cmp (op_neD hr.units) opd_ne (de_var 2) (de_globI (by rfl) T.c_EMPTY) (nomark _)))) (fun _ _ _ _ _ => (de_var 2)) (by decide)))) da_nil)))))
theorem sc__law_some : FnScope ["script", "town", "most", "many", "base", "found", "key"] ["script", "town", "most"] (defScope s__law_some) := ⟨rfl, rfl, rfl, by decide +kernel, rfl, by decide +kernel, by decide +kernel⟩
theorem cal__law_some (T : Tx K mg) : Cal (obT P w) P w K mg base "_law_some" 2 ["script", "town", "most"] m__law_some := by
  have C__law_draw := cal__law_draw (P := P) (w := w) (base := base) T
  refine cal_of (k := 1) T.f__law_some sc__law_some (fun _ _ _ _ _ _ us hl => match us, hl with | [_, _, _], _ => rfl) (fun f cdv A outer s H E hr => ?_)
  exact (dss_cons (ds_par3F (i := 3) (j := 4) (m := 5) rfl sc__law_some.nd (de_op op_addD opd_add de_int (de_fn C__law_draw hr (da_cons (de_var 0) (da_cons (de_var 1) (da_cons (de_var 2) da_nil))))) (de_fn C__law_draw hr (da_cons (de_var 0) (da_cons (de_var 1) (da_cons de_int da_nil)))) (df_lst da_nil) (by rfl))
      (dss_cons (ds_while PassesOwn.never (dt_cmp op_lt opd_lt (de_callB call_len cbd_len (by rfl) T.b_len (by decide +kernel) (da_cons (de_var 5) da_nil)) (de_var 3) (nomark _)) (dss_cons (ds_set 6 sc__law_some.nd (de_fn C__law_draw hr (da_cons (de_var 0) (da_cons (de_var 1) (da_cons de_int da_nil)))))
      (dss_cons (ds_if (dt_cmp op_gt opd_gt (de_fn C__law_draw hr (da_cons (de_var 0) (da_cons (de_var 1) (da_cons de_int da_nil)))) de_int (nomark _)) (dss_one (ds_set 6 sc__law_some.nd (de_op op_addD opd_add (de_var 4) (de_op op_mulD opd_mul (de_op op_fdiv opd_fdiv (de_var 6) de_int) de_int)))) dss_nil)
      (dss_cons (ds_while PassesOwn.never (dt_cmp (op_inA (u65 hr)) opd_in (de_var 6) (de_var 5) rfl) (dss_one (ds_set 6 sc__law_some.nd (de_op op_mod opd_mod (de_op op_addD opd_add (de_var 6) de_int) de_int))))
      (dss_one (ds_app 5 (de_var 6)))))))
      (dss_one (ds_ret (de_callTy call_tupF cbd_tuple (by rfl) T.b_tuple (by decide +kernel) (da_cons (DF.de (df_callB (cr_sortA (u65 hr)) cbf_sort (by rfl) T.b_sorted (by decide +kernel) (da_cons (de_var 5) da_nil))) da_nil))))))
theorem sc__law_deeds : FnScope ["script", "town", "keys", "most", "found", "k", "kind"] ["script", "town", "keys", "most"] (defScope s__law_deeds) := ⟨rfl, rfl, rfl, by decide +kernel, rfl, by decide +kernel, by decide +kernel⟩
theorem cal__law_deeds (T : Tx K mg) : Cal (obT P w) P w K mg base "_law_deeds" 2 ["script", "town", "keys", "most"] m__law_deeds := by
  have C__law_draw := cal__law_draw (P := P) (w := w) (base := base) T
  refine cal_of (k := 1) T.f__law_deeds sc__law_deeds (fun _ _ _ _ _ _ us hl => match us, hl with | [_, _, _, _], _ => rfl) (fun f cdv A outer s H E hr => ?_)
  exact (dss_cons (ds_setF 4 sc__law_deeds.nd (df_lst da_nil))
      (dss_cons (ds_for PassesOwn.never rfl (di_range1 (by rfl) T.b_range (da_cons (de_fn C__law_draw hr (da_cons (de_var 0) (da_cons (de_var 1) (da_cons (de_op op_addD opd_add (de_var 3) de_int) da_nil)))) da_nil)) (dg_name 5 sc__law_deeds.nd) (dss_cons (ds_set 6 sc__law_deeds.nd (de_idx (de_tup (da_cons de_str (da_cons de_str (da_cons de_str (da_cons de_str (da_cons de_str (da_cons de_str da_nil))))))) (de_fn C__law_draw hr (da_cons (de_var 0) (da_cons (de_var 1) (da_cons de_int da_nil)))) (fun _ _ => rfl)))
      (dss_one (ds_app 4 (de_tup (da_cons (de_var 6) (da_cons (de_idx (de_var 2) (de_fn C__law_draw hr (da_cons (de_var 0) (da_cons (de_var 1) (da_cons (de_callB call_len cbd_len (by rfl) T.b_len (by decide +kernel) (da_cons (de_var 2) da_nil)) da_nil)))) (fun _ _ => rfl)) da_nil)))))))
      (dss_one (ds_ret (de_callTy call_tupF cbd_tuple (by rfl) T.b_tuple (by decide +kernel) (da_cons (de_var 4) da_nil))))))
theorem sc_is_way : FnScope ["value"] ["value"] (defScope s_is_way) := ⟨rfl, rfl, rfl, by decide +kernel, rfl, by decide +kernel, by decide +kernel⟩
theorem cal_is_way (T : Tx K mg) : Cal (obT P w) P w K mg base "is_way" 3 ["value"] m_is_way := by
  have C_is_slot_way := cal_is_slot_way (P := P) (w := w) (base := base) T
  have C_is_word := cal_is_word (P := P) (w := w) (base := base) T
  refine cal_of (k := 2) T.f_is_way sc_is_way (fun _ _ _ _ _ _ us hl => match us, hl with | [_], _ => rfl) (fun f cdv A outer s H E hr => ?_)
  exact (dss_cons (ds_if (DW.dt (dw_or (dt_not (dt_val (de_isi (x := "x") (T := "tuple") (n := "tuple") (de_var 0) (by rfl) T.b_isinstance (by rfl) T.b_tuple (by decide +kernel)))) (dw_or (dt_cmp (op_eqD hr.units) opd_eq (de_var 0) (de_tup da_nil) (nomark _)) (dw_or1 (dt_not (dt_val (de_fn C_is_word hr (da_cons (de_idx (de_var 0) de_int (fun _ _ => rfl)) (da_cons (de_tup (da_cons de_str (da_cons de_str da_nil))) da_nil))))))))) (dss_one (ds_ret de_bl)) dss_nil)
      (dss_cons (ds_if (dt_cmp (op_eqD hr.units) opd_eq (de_idx (de_var 0) de_int (fun _ _ => rfl)) de_str (nomark _)) (dss_one (ds_ret (de_fn C_is_slot_way hr (da_cons (de_var 0) da_nil)))) dss_nil)
      (dss_cons (ds_if (DW.dt (dw_or (dt_cmp (op_neD hr.units) opd_ne (de_callB call_len cbd_len (by rfl) T.b_len (by decide +kernel) (da_cons (de_var 0) da_nil)) de_int (nomark _)) (dw_or1 (dt_not (dt_val (de_fn C_is_word hr (da_cons (de_idx (de_var 0) de_int (fun _ _ => rfl)) (da_cons (de_globE (by rfl) T.c_HOMES) da_nil)))))))) (dss_one (ds_ret de_bl)) dss_nil)
      (dss_one (ds_ret (de_and (de_fn C_is_word hr (da_cons (de_idx (de_var 0) de_int (fun _ _ => rfl)) (da_cons (de_tup (da_cons de_str (da_cons de_str da_nil))) da_nil))) (de_one (de_fn C_is_word hr (da_cons (de_idx (de_var 0) de_int (fun _ _ => rfl)) (da_cons (de_tup (da_cons de_str (da_cons de_str da_nil))) da_nil))))))))))
theorem sc_is_deed : FnScope ["value"] ["value"] (defScope s_is_deed) := ⟨rfl, rfl, rfl, by decide +kernel, rfl, by decide +kernel, by decide +kernel⟩
theorem cal_is_deed (T : Tx K mg) : Cal (obT P w) P w K mg base "is_deed" 3 ["value"] m_is_deed := by
  have C_is_key := cal_is_key (P := P) (w := w) (base := base) T
  have C_is_word := cal_is_word (P := P) (w := w) (base := base) T
  refine cal_of (k := 2) T.f_is_deed sc_is_deed (fun _ _ _ _ _ _ us hl => match us, hl with | [_], _ => rfl) (fun f cdv A outer s H E hr => ?_)
  exact (dss_one (ds_ret (de_and (de_isi (x := "x") (T := "tuple") (n := "tuple") (de_var 0) (by rfl) T.b_isinstance (by rfl) T.b_tuple (by decide +kernel)) (de_and (de_cmp (op_eqD hr.units) opd_eq (de_callB call_len cbd_len (by rfl) T.b_len (by decide +kernel) (da_cons (de_var 0) da_nil)) de_int (nomark _)) (de_and (de_fn C_is_word hr (da_cons (de_idx (de_var 0) de_int (fun _ _ => rfl)) (da_cons (de_globE (by rfl) T.c_KINDS) da_nil))) (de_one (de_fn C_is_key hr (da_cons (de_idx (de_var 0) de_int (fun _ _ => rfl)) da_nil))))))))
theorem sc_found_at : FnScope ["way", "table", "key", "looks", "slot", "row"] ["way", "table", "key"] (defScope s_found_at) := ⟨rfl, rfl, rfl, by decide +kernel, rfl, by decide +kernel, by decide +kernel⟩
theorem cal_found_at (T : Tx K mg) : Cal (obT P w) P w K mg base "found_at" 3 ["way", "table", "key"] m_found_at := by
  have C_home_of := cal_home_of (P := P) (w := w) (base := base) T
  have C_walk_of := cal_walk_of (P := P) (w := w) (base := base) T
  refine cal_of (k := 2) T.f_found_at sc_found_at (fun _ _ _ _ _ _ us hl => match us, hl with | [_, _, _], _ => rfl) (fun f cdv A outer s H E hr => ?_)
  exact (dss_cons (ds_if (dt_cmp (op_eqD hr.units) opd_eq (de_idx (de_var 0) de_int (fun _ _ => rfl)) de_str (nomark _)) (dss_cons (ds_set 5 sc_found_at.nd (de_idx (de_var 1) (de_fn C_home_of hr (da_cons (de_var 0) (da_cons (de_var 2) (da_cons (de_callB call_len cbd_len (by rfl) T.b_len (by decide +kernel) (da_cons (de_var 1) da_nil)) da_nil)))) (fun _ _ => rfl)))
      (dss_cons (ds_if (dt_cmp (op_inA (u65 hr)) opd_in (de_var 2) (de_var 5) rfl) (dss_one (ds_ret (de_tup (da_cons (de_fn C_home_of hr (da_cons (de_var 0) (da_cons (de_var 2) (da_cons (de_callB call_len cbd_len (by rfl) T.b_len (by decide +kernel) (da_cons (de_var 1) da_nil)) da_nil)))) (da_cons (de_op op_addD opd_add (de_index (u65 hr) (de_var 5) (de_var 2)) de_int) da_nil))))) dss_nil)
      (dss_one (ds_ret (de_tup (da_cons de_non (da_cons (de_callB call_len cbd_len (by rfl) T.b_len (by decide +kernel) (da_cons (de_var 5) da_nil)) da_nil))))))) dss_nil)
      (dss_cons (ds_set 3 sc_found_at.nd de_int)
      (dss_cons (ds_for PassesOwn.never rfl (di_seq (de_fn C_walk_of hr (da_cons (de_var 0) (da_cons (de_var 2) (da_cons (de_callB call_len cbd_len (by rfl) T.b_len (by decide +kernel) (da_cons (de_var 1) da_nil)) da_nil))))) (dg_name 4 sc_found_at.nd) (dss_cons (ds_aug 3 sc_found_at.nd de_int ip_add)
      (dss_cons (ds_if (dt_cmp (op_eqD hr.units) opd_eq (de_idx (de_var 1) (de_var 4) (fun _ _ => rfl)) (de_globI (by rfl) T.c_EMPTY) (nomark _)) (dss_one (ds_ret (de_tup (da_cons de_non (da_cons (de_var 3) da_nil))))) dss_nil)
      (dss_one (ds_if (dt_cmp (op_eqD hr.units) opd_eq (de_idx (de_var 1) (de_var 4) (fun _ _ => rfl)) (de_var 2) (nomark _)) (dss_one (ds_ret (de_tup (da_cons (de_var 4) (da_cons (de_var 3) da_nil))))) dss_nil)))))
      (dss_one (ds_ret (de_tup (da_cons de_non (da_cons (de_var 3) da_nil))))))))
theorem sc_placed : FnScope ["way", "table", "key", "size", "slot", "row", "free", "mover", "here"] ["way", "table", "key"] (defScope s_placed) := ⟨rfl, rfl, rfl, by decide +kernel, rfl, by decide +kernel, by decide +kernel⟩
theorem cal_placed (T : Tx K mg) : Cal (obT P w) P w K mg base "placed" 3 ["way", "table", "key"] m_placed := by
  have C_distance := cal_distance (P := P) (w := w) (base := base) T
  have C_home_of := cal_home_of (P := P) (w := w) (base := base) T
  have C_walk_of := cal_walk_of (P := P) (w := w) (base := base) T
  have C_with_slot := cal_with_slot (P := P) (w := w) (base := base) T
  refine cal_of (k := 2) T.f_placed sc_placed (fun _ _ _ _ _ _ us hl => match us, hl with | [_, _, _], _ => rfl) (fun f cdv A outer s H E hr => ?_)
  exact (dss_cons (ds_set 3 sc_placed.nd (de_callB call_len cbd_len (by rfl) T.b_len (by decide +kernel) (da_cons (de_var 1) da_nil)))
      (dss_cons (ds_if (dt_cmp (op_eqD hr.units) opd_eq (de_idx (de_var 0) de_int (fun _ _ => rfl)) de_str (nomark _)) (dss_cons (ds_set 4 sc_placed.nd (de_fn C_home_of hr (da_cons (de_var 0) (da_cons (de_var 2) (da_cons (de_var 3) da_nil)))))
      (dss_cons (ds_set 5 sc_placed.nd (de_idx (de_var 1) (de_var 4) (fun _ _ => rfl)))
      (dss_one (ds_ret (de_fn C_with_slot hr (da_cons (de_var 1) (da_cons (de_var 4) (da_cons (de_if (dt_cmp (op_eqD hr.units) opd_eq (de_idx (de_var 0) de_int (fun _ _ => rfl)) de_str (nomark _)) (de_op op_addD opd_add (de_tup (da_cons (de_var 2) da_nil)) (de_var 5)) (de_op op_addD opd_add (de_var 5) (de_tup (da_cons (de_var 2) da_nil)))) da_nil)))))))) dss_nil)
      (dss_cons (ds_if (dt_cmp (op_inA (u65 hr)) opd_in (de_idx (de_var 0) de_int (fun _ _ => rfl)) (de_tup (da_cons de_str (da_cons de_str da_nil))) rfl) (dss_cons (ds_set 6 sc_placed.nd (de_if (dt_cmp (op_eqD hr.units) opd_eq (de_idx (de_var 0) de_int (fun _ _ => rfl)) de_str (nomark _)) (de_tup (da_cons (de_globI (by rfl) T.c_EMPTY) (da_cons (de_globI (by rfl) T.c_GONE) da_nil))) (de_tup (da_cons (de_globI (by rfl) T.c_EMPTY) da_nil))))
      (dss_one (ds_ret (de_fn C_with_slot hr (da_cons (de_var 1) (da_cons (de_idx (DF.de (DLc.df (lc1 (own := [("slot", 4)]) rfl sc_placed.nd (di_seq (de_fn C_walk_of hr (da_cons (de_var 0) (da_cons (de_var 2) (da_cons (de_var 3) da_nil))))) (blkOk_by (by kernel_rfl)) (fun _ _ _ _ _ => (dg_name 4 sc_placed.nd)) (fun _ _ _ _ _ => (dts_one (dt_cmp (op_inA (u65 hr)) opd_in (de_idx (de_var 1) (de_var 4) (fun _ _ => rfl)) (de_var 6) rfl))) (fun _ _ _ _ _ => (de_var 4)) (by decide)))) de_int (fun _ _ => rfl)) (da_cons (de_var 2) da_nil))))))) dss_nil)
      (dss_cons (ds_par (i := 4) (j := 7) rfl sc_placed.nd (da_cons (de_fn C_home_of hr (da_cons (de_var 0) (da_cons (de_var 2) (da_cons (de_var 3) da_nil)))) (da_cons (de_var 2) da_nil)) (by rfl))
      (dss_cons (ds_while PassesOwn.never (dt_cmp op_ge opd_ge (de_idx (de_var 1) (de_var 4) (fun _ _ => rfl)) de_int (nomark _)) (dss_cons (ds_set 8 sc_placed.nd (de_idx (de_var 1) (de_var 4) (fun _ _ => rfl)))
      (dss_cons (ds_if (DW.dt (dw_or (dt_cmp (op_eqD hr.units) opd_eq (de_idx (de_var 0) de_int (fun _ _ => rfl)) de_str (nomark _)) (dw_or1 (dt_cmp op_lt opd_lt (de_fn C_distance hr (da_cons (de_var 0) (da_cons (de_var 8) (da_cons (de_var 4) (da_cons (de_var 3) da_nil))))) (de_fn C_distance hr (da_cons (de_var 0) (da_cons (de_var 7) (da_cons (de_var 4) (da_cons (de_var 3) da_nil))))) (nomark _))))) (dss_one (ds_tgt (de_tup (da_cons (de_fn C_with_slot hr (da_cons (de_var 1) (da_cons (de_var 4) (da_cons (de_var 7) da_nil)))) (da_cons (de_var 8) da_nil))) (dg_tup rfl (dgs_cons (dg_name 1 sc_placed.nd) (dgs_cons (dg_name 7 sc_placed.nd) dgs_nil))))) dss_nil)
      (dss_one (ds_set 4 sc_placed.nd (de_if (dt_cmp (op_eqD hr.units) opd_eq (de_idx (de_var 0) de_int (fun _ _ => rfl)) de_str (nomark _)) (de_op op_mod opd_mod (de_op op_addD opd_add (de_var 4) de_int) (de_var 3)) (de_op op_mod opd_mod (de_op op_sub opd_sub (de_var 4) de_int) (de_var 3))))))))
      (dss_one (ds_ret (de_fn C_with_slot hr (da_cons (de_var 1) (da_cons (de_var 4) (da_cons (de_var 7) da_nil)))))))))))
theorem sc_pulled : FnScope ["way", "table", "slot", "size", "at", "key"] ["way", "table", "slot"] (defScope s_pulled) := ⟨rfl, rfl, rfl, by decide +kernel, rfl, by decide +kernel, by decide +kernel⟩
theorem cal_pulled (T : Tx K mg) : Cal (obT P w) P w K mg base "pulled" 3 ["way", "table", "slot"] m_pulled := by
  have C_distance := cal_distance (P := P) (w := w) (base := base) T
  have C_with_slot := cal_with_slot (P := P) (w := w) (base := base) T
  refine cal_of (k := 2) T.f_pulled sc_pulled (fun _ _ _ _ _ _ us hl => match us, hl with | [_, _, _], _ => rfl) (fun f cdv A outer s H E hr => ?_)
  exact (dss_cons (ds_set 3 sc_pulled.nd (de_callB call_len cbd_len (by rfl) T.b_len (by decide +kernel) (da_cons (de_var 1) da_nil)))
      (dss_cons (ds_par (i := 1) (j := 4) rfl sc_pulled.nd (da_cons (de_fn C_with_slot hr (da_cons (de_var 1) (da_cons (de_var 2) (da_cons (de_globI (by rfl) T.c_EMPTY) da_nil)))) (da_cons (de_var 2) da_nil)) (by rfl))
      (dss_one (ds_while PassesOwn.never (dt_val de_bl) (dss_cons (ds_set 4 sc_pulled.nd (de_if (dt_cmp (op_eqD hr.units) opd_eq (de_idx (de_var 0) de_int (fun _ _ => rfl)) de_str (nomark _)) (de_op op_mod opd_mod (de_op op_addD opd_add (de_var 4) de_int) (de_var 3)) (de_op op_mod opd_mod (de_op op_sub opd_sub (de_var 4) de_int) (de_var 3))))
      (dss_cons (ds_if (dt_cmp (op_eqD hr.units) opd_eq (de_idx (de_var 1) (de_var 4) (fun _ _ => rfl)) (de_globI (by rfl) T.c_EMPTY) (nomark _)) (dss_one (ds_ret (de_var 1))) dss_nil)
      (dss_cons (ds_set 5 sc_pulled.nd (de_idx (de_var 1) (de_var 4) (fun _ _ => rfl)))
      (dss_one (ds_if (dt_cmp op_le opd_le (de_fn C_distance hr (da_cons (de_var 0) (da_cons (de_var 5) (da_cons (de_var 2) (da_cons (de_var 3) da_nil))))) (de_fn C_distance hr (da_cons (de_var 0) (da_cons (de_var 5) (da_cons (de_var 4) (da_cons (de_var 3) da_nil))))) (nomark _)) (dss_cons (ds_set 1 sc_pulled.nd (de_fn C_with_slot hr (da_cons (de_fn C_with_slot hr (da_cons (de_var 1) (da_cons (de_var 2) (da_cons (de_var 5) da_nil)))) (da_cons (de_var 4) (da_cons (de_globI (by rfl) T.c_EMPTY) da_nil)))))
      (dss_one (ds_set 2 sc_pulled.nd (de_var 4)))) dss_nil)))))))))
theorem sc_seen_of : FnScope ["way", "table", "looks", "sight"] ["way", "table", "looks", "sight"] (defScope s_seen_of) := ⟨rfl, rfl, rfl, by decide +kernel, rfl, by decide +kernel, by decide +kernel⟩
theorem cal_seen_of (T : Tx K mg) : Cal (obT P w) P w K mg base "seen_of" 3 ["way", "table", "looks", "sight"] m_seen_of := by
  have C_order_in := cal_order_in (P := P) (w := w) (base := base) T
  refine cal_of (k := 2) T.f_seen_of sc_seen_of (fun _ _ _ _ _ _ us hl => match us, hl with | [_, _, _, _], _ => rfl) (fun f cdv A outer s H E hr => ?_)
  exact (dss_cons (ds_if (dt_cmp (op_eqD hr.units) opd_eq (de_var 3) de_str (nomark _)) (dss_one (ds_ret (de_var 2))) dss_nil)
      (dss_one (ds_ret (de_if (dt_cmp (op_eqD hr.units) opd_eq (de_var 3) de_str (nomark _)) (de_fn C_order_in hr (da_cons (de_var 0) (da_cons (de_var 1) da_nil))) (de_tup (da_cons (de_var 2) (da_cons (de_fn C_order_in hr (da_cons (de_var 0) (da_cons (de_var 1) da_nil))) da_nil)))))))
theorem sc_check_way : FnScope ["way"] ["way"] (defScope s_check_way) := ⟨rfl, rfl, rfl, by decide +kernel, rfl, by decide +kernel, by decide +kernel⟩
theorem cal_check_way (T : Tx K mg) : Cal (obT P w) P w K mg base "check_way" 4 ["way"] m_check_way := by
  have C_is_way := cal_is_way (P := P) (w := w) (base := base) T
  refine cal_of (k := 3) T.f_check_way sc_check_way (fun _ _ _ _ _ _ us hl => match us, hl with | [_], _ => rfl) (fun f cdv A outer s H E hr => ?_)
  exact (dss_one (ds_if (dt_not (dt_val (de_fn C_is_way hr (da_cons (de_var 0) da_nil)))) (dss_one ds_never) dss_nil))
theorem sc_is_row : FnScope ["value", "one"] ["value"] (defScope s_is_row) := ⟨rfl, rfl, rfl, by decide +kernel, rfl, by decide +kernel, by decide +kernel⟩
theorem cal_is_row (T : Tx K mg) : Cal (obT P w) P w K mg base "is_row" 4 ["value"] m_is_row := by
  have C_is_deed := cal_is_deed (P := P) (w := w) (base := base) T
  refine cal_of (k := 3) T.f_is_row sc_is_row (fun _ _ _ _ _ _ us hl => match us, hl with | [_], _ => rfl) (fun f cdv A outer s H E hr => ?_)
  exact (dss_one (ds_ret (de_and (de_isi (x := "x") (T := "tuple") (n := "tuple") (de_var 0) (by rfl) T.b_isinstance (by rfl) T.b_tuple (by decide +kernel)) (de_and (de_cmp op_le opd_le (de_callB call_len cbd_len (by rfl) T.b_len (by decide +kernel) (da_cons (de_var 0) da_nil)) de_int (nomark _)) (de_one (de_callB (cr_all rfl) cbd_all (by rfl) T.b_all (by decide +kernel) (da_cons (DF.de (DLc.df (lc1 (own := [("one", 1)]) rfl sc_is_row.nd (di_seq (de_var 0)) (blkOk_by (by kernel_rfl)) (fun _ _ _ _ _ => (dg_name 1 sc_is_row.nd)) (fun _ _ _ _ _ => dts_nil) (fun _ _ _ _ _ => (de_fn C_is_deed hr (da_cons (de_var 1) da_nil))) (by decide)))) da_nil)))))))
theorem sc_laid_anew : FnScope ["way", "table", "size", "made", "key"] ["way", "table", "size"] (defScope s_laid_anew) := ⟨rfl, rfl, rfl, by decide +kernel, rfl, by decide +kernel, by decide +kernel⟩
theorem cal_laid_anew (T : Tx K mg) : Cal (obT P w) P w K mg base "laid_anew" 4 ["way", "table", "size"] m_laid_anew := by
  have C_begun := cal_begun (P := P) (w := w) (base := base) T
  have C_each_once := cal_each_once (P := P) (w := w) (base := base) T
  have C_keys_in := cal_keys_in (P := P) (w := w) (base := base) T
  have C_placed := cal_placed (P := P) (w := w) (base := base) T
  refine cal_of (k := 3) T.f_laid_anew sc_laid_anew (fun _ _ _ _ _ _ us hl => match us, hl with | [_, _, _], _ => rfl) (fun f cdv A outer s H E hr => ?_)
  exact (dss_cons (ds_set 3 sc_laid_anew.nd (de_fn C_begun hr (da_cons (de_var 0) (da_cons (de_var 2) da_nil))))
      (dss_cons (ds_for PassesOwn.never rfl (di_seq (de_fn C_each_once hr (da_cons (de_fn C_keys_in hr (da_cons (de_var 0) (da_cons (de_var 1) da_nil))) da_nil))) (dg_name 4 sc_laid_anew.nd) (dss_one (ds_set 3 sc_laid_anew.nd (de_fn C_placed hr (da_cons (de_var 0) (da_cons (de_var 3) (da_cons (de_var 4) da_nil)))))))
      (dss_one (ds_ret (de_var 3)))))
theorem sc_check_row : FnScope ["row"] ["row"] (defScope s_check_row) := ⟨rfl, rfl, rfl, by decide +kernel, rfl, by decide +kernel, by decide +kernel⟩
theorem cal_check_row (T : Tx K mg) : Cal (obT P w) P w K mg base "check_row" 5 ["row"] m_check_row := by
  have C_is_row := cal_is_row (P := P) (w := w) (base := base) T
  refine cal_of (k := 4) T.f_check_row sc_check_row (fun _ _ _ _ _ _ us hl => match us, hl with | [_], _ => rfl) (fun f cdv A outer s H E hr => ?_)
  exact (dss_one (ds_if (dt_not (dt_val (de_fn C_is_row hr (da_cons (de_var 0) da_nil)))) (dss_one ds_never) dss_nil))
theorem sc_grown : FnScope ["way", "table", "size"] ["way", "table"] (defScope s_grown) := ⟨rfl, rfl, rfl, by decide +kernel, rfl, by decide +kernel, by decide +kernel⟩
theorem cal_grown (T : Tx K mg) : Cal (obT P w) P w K mg base "grown" 5 ["way", "table"] m_grown := by
  have C_bound_of := cal_bound_of (P := P) (w := w) (base := base) T
  have C_each_once := cal_each_once (P := P) (w := w) (base := base) T
  have C_keys_in := cal_keys_in (P := P) (w := w) (base := base) T
  have C_laid_anew := cal_laid_anew (P := P) (w := w) (base := base) T
  have C_used_in := cal_used_in (P := P) (w := w) (base := base) T
  refine cal_of (k := 4) T.f_grown sc_grown (fun _ _ _ _ _ _ us hl => match us, hl with | [_, _], _ => rfl) (fun f cdv A outer s H E hr => ?_)
  exact (dss_cons (ds_set 2 sc_grown.nd (de_callB call_len cbd_len (by rfl) T.b_len (by decide +kernel) (da_cons (de_var 1) da_nil)))
      (dss_cons (ds_if (dt_cmp op_le opd_le (de_op op_addD opd_add (de_fn C_used_in hr (da_cons (de_var 0) (da_cons (de_var 1) da_nil))) de_int) (de_fn C_bound_of hr (da_cons (de_var 0) (da_cons (de_var 2) da_nil))) (nomark _)) (dss_one (ds_ret (de_var 1))) dss_nil)
      (dss_cons (ds_if (DW.dt (dw_and (dt_cmp (op_eqD hr.units) opd_eq (de_idx (de_var 0) de_int (fun _ _ => rfl)) de_str (nomark _)) (dw_and1 (dt_cmp op_le opd_le (de_op op_addD opd_add (de_callB call_len cbd_len (by rfl) T.b_len (by decide +kernel) (da_cons (de_fn C_each_once hr (da_cons (de_fn C_keys_in hr (da_cons (de_var 0) (da_cons (de_var 1) da_nil))) da_nil)) da_nil)) de_int) (de_fn C_bound_of hr (da_cons (de_var 0) (da_cons (de_var 2) da_nil))) (nomark _))))) (dss_one (ds_ret (de_fn C_laid_anew hr (da_cons (de_var 0) (da_cons (de_var 1) (da_cons (de_var 2) da_nil)))))) dss_nil)
      (dss_one (ds_ret (de_fn C_laid_anew hr (da_cons (de_var 0) (da_cons (de_var 1) (da_cons (de_op op_mulD opd_mul de_int (de_var 2)) da_nil)))))))))
theorem sc_removed : FnScope ["way", "table", "slot", "key", "row", "one"] ["way", "table", "slot", "key"] (defScope s_removed) := ⟨rfl, rfl, rfl, by decide +kernel, rfl, by decide +kernel, by decide +kernel⟩
theorem cal_removed (T : Tx K mg) : Cal (obT P w) P w K mg base "removed" 5 ["way", "table", "slot", "key"] m_removed := by
  have C_laid_anew := cal_laid_anew (P := P) (w := w) (base := base) T
  have C_pulled := cal_pulled (P := P) (w := w) (base := base) T
  have C_with_slot := cal_with_slot (P := P) (w := w) (base := base) T
  refine cal_of (k := 4) T.f_removed sc_removed (fun _ _ _ _ _ _ us hl => match us, hl with | [_, _, _, _], _ => rfl) (fun f cdv A outer s H E hr => ?_)
  exact (dss_cons (ds_if (dt_cmp (op_eqD hr.units) opd_eq (de_idx (de_var 0) de_int (fun _ _ => rfl)) de_str (nomark _)) (dss_cons (ds_set 4 sc_removed.nd (de_idx (de_var 1) (de_var 2) (fun _ _ => rfl)))
      (dss_one (ds_ret (de_fn C_with_slot hr (da_cons (de_var 1) (da_cons (de_var 2) (da_cons (de_callTy call_tupF cbd_tuple (by rfl) T.b_tuple (by decide +kernel) (da_cons (DF.de (DLc.df (lc1 (own := [("one", 5)]) rfl sc_removed.nd (di_seq (de_var 4)) (blkOk_by (by kernel_rfl)) (fun _ _ _ _ _ => (dg_name 5 sc_removed.nd)) (fun _ _ _ _ _ => (dts_one (dt_cmp (op_neD hr.units) opd_ne (de_var 5) (de_var 3) (nomark _)))) (fun _ _ _ _ _ => (de_var 5)) (by decide)))) da_nil)) da_nil))))))) dss_nil)
      (dss_cons (ds_if (dt_cmp (op_eqD hr.units) opd_eq (de_idx (de_var 0) de_int (fun _ _ => rfl)) de_str (nomark _)) (dss_one (ds_ret (de_fn C_with_slot hr (da_cons (de_var 1) (da_cons (de_var 2) (da_cons (de_globI (by rfl) T.c_GONE) da_nil)))))) dss_nil)
      (dss_cons (ds_if (dt_cmp (op_eqD hr.units) opd_eq (de_idx (de_var 0) de_int (fun _ _ => rfl)) de_str (nomark _)) (dss_one (ds_ret (de_fn C_pulled hr (da_cons (de_var 0) (da_cons (de_var 1) (da_cons (de_var 2) da_nil)))))) dss_nil)
      (dss_cons (ds_set 1 sc_removed.nd (de_fn C_with_slot hr (da_cons (de_var 1) (da_cons (de_var 2) (da_cons (de_globI (by rfl) T.c_EMPTY) da_nil)))))
      (dss_one (ds_ret (de_if (dt_cmp (op_eqD hr.units) opd_eq (de_idx (de_var 0) de_int (fun _ _ => rfl)) de_str (nomark _)) (de_var 1) (de_fn C_laid_anew hr (da_cons (de_var 0) (da_cons (de_var 1) (da_cons (de_callB call_len cbd_len (by rfl) T.b_len (by decide +kernel) (da_cons (de_var 1) da_nil)) da_nil)))))))))))
theorem sc_done : FnScope ["way", "table", "deed", "kind", "key", "slot", "looks"] ["way", "table", "deed"] (defScope s_done) := ⟨rfl, rfl, rfl, by decide +kernel, rfl, by decide +kernel, by decide +kernel⟩
theorem cal_done (T : Tx K mg) : Cal (obT P w) P w K mg base "done" 6 ["way", "table", "deed"] m_done := by
  have C_found_at := cal_found_at (P := P) (w := w) (base := base) T
  have C_grown := cal_grown (P := P) (w := w) (base := base) T
  have C_placed := cal_placed (P := P) (w := w) (base := base) T
  have C_removed := cal_removed (P := P) (w := w) (base := base) T
  refine cal_of (k := 5) T.f_done sc_done (fun _ _ _ _ _ _ us hl => match us, hl with | [_, _, _], _ => rfl) (fun f cdv A outer s H E hr => ?_)
  exact (dss_cons (ds_tgt (de_var 2) (dg_tup rfl (dgs_cons (dg_name 3 sc_done.nd) (dgs_cons (dg_name 4 sc_done.nd) dgs_nil))))
      (dss_cons (ds_tgt (de_fn C_found_at hr (da_cons (de_var 0) (da_cons (de_var 1) (da_cons (de_var 4) da_nil)))) (dg_tup rfl (dgs_cons (dg_name 5 sc_done.nd) (dgs_cons (dg_name 6 sc_done.nd) dgs_nil))))
      (dss_cons (ds_if (DW.dt (dw_and (dt_cmp (op_eqD hr.units) opd_eq (de_var 3) de_str (nomark _)) (dw_and1 (dt_cmp op_isN opd_isN (de_var 5) de_non (nomark _))))) (dss_one (ds_set 1 sc_done.nd (de_fn C_placed hr (da_cons (de_var 0) (da_cons (de_fn C_grown hr (da_cons (de_var 0) (da_cons (de_var 1) da_nil))) (da_cons (de_var 4) da_nil)))))) dss_nil)
      (dss_cons (ds_if (DW.dt (dw_and (dt_cmp (op_eqD hr.units) opd_eq (de_var 3) de_str (nomark _)) (dw_and1 (dt_cmp op_notN opd_notN (de_var 5) de_non (nomark _))))) (dss_one (ds_set 1 sc_done.nd (de_fn C_removed hr (da_cons (de_var 0) (da_cons (de_var 1) (da_cons (de_var 5) (da_cons (de_var 4) da_nil))))))) dss_nil)
      (dss_one (ds_ret (de_tup (da_cons (de_var 1) (da_cons (de_cmp op_notN opd_notN (de_var 5) de_non (nomark _)) (da_cons (de_var 6) da_nil))))))))))
theorem sc_work : FnScope ["way", "row", "deed", "tables", "told", "table", "was_found", "looks"] ["way", "row"] (defScope s_work) := ⟨rfl, rfl, rfl, by decide +kernel, rfl, by decide +kernel, by decide +kernel⟩
theorem cal_work (T : Tx K mg) : Cal (obT P w) P w K mg base "work" 7 ["way", "row"] m_work := by
  have C_begun := cal_begun (P := P) (w := w) (base := base) T
  have C_done := cal_done (P := P) (w := w) (base := base) T
  refine cal_of (k := 6) T.f_work sc_work (fun _ _ _ _ _ _ us hl => match us, hl with | [_, _], _ => rfl) (fun f cdv A outer s H E hr => ?_)
  exact (dss_cons (ds_parFF (i := 3) (j := 4) rfl sc_work.nd (df_lst (da_cons (de_fn C_begun hr (da_cons (de_var 0) (da_cons de_int da_nil))) da_nil)) (df_lst da_nil) (by rfl))
      (dss_cons (ds_for PassesOwn.never rfl (di_seq (de_var 1)) (dg_name 2 sc_work.nd) (dss_cons (ds_tgtP (de_fn C_done hr (da_cons (de_var 0) (da_cons (de_idx (de_var 3) (de_neg de_int) (fun _ _ => rfl)) (da_cons (de_var 2) da_nil)))) (dg_tup rfl (dgs_cons (dg_name 5 sc_work.nd) (dgs_cons (dg_name 6 sc_work.nd) (dgs_cons (dg_name 7 sc_work.nd) dgs_nil)))))
      (dss_cons (ds_app 3 (de_var 5))
      (dss_one (ds_app 4 (de_tup (da_cons (de_var 6) (da_cons (de_var 7) da_nil))))))))
      (dss_one (ds_ret (de_tup (da_cons (de_var 3) (da_cons (de_var 4) da_nil)))))))
theorem sc_seen_along : FnScope ["way", "row", "sight", "tables", "told", "table", "one"] ["way", "row", "sight"] (defScope s_seen_along) := ⟨rfl, rfl, rfl, by decide +kernel, rfl, by decide +kernel, by decide +kernel⟩
theorem cal_seen_along (T : Tx K mg) : Cal (obT P w) P w K mg base "seen_along" 8 ["way", "row", "sight"] m_seen_along := by
  have C_seen_of := cal_seen_of (P := P) (w := w) (base := base) T
  have C_work := cal_work (P := P) (w := w) (base := base) T
  refine cal_of (k := 7) T.f_seen_along sc_seen_along (fun _ _ _ _ _ _ us hl => match us, hl with | [_, _, _], _ => rfl) (fun f cdv A outer s H E hr => ?_)
  exact (dss_cons (ds_tgt (de_fn C_work hr (da_cons (de_var 0) (da_cons (de_var 1) da_nil))) (dg_tup rfl (dgs_cons (dg_name 3 sc_seen_along.nd) (dgs_cons (dg_name 4 sc_seen_along.nd) dgs_nil))))
      (dss_one (ds_ret (de_callTy call_tupF cbd_tuple (by rfl) T.b_tuple (by decide +kernel) (da_cons (DF.de (DLc.df (lc1 (own := [("table", 5), ("one", 6)]) rfl sc_seen_along.nd (di_zip (by rfl) T.b_zip (da_cons (de_slice (de_var 3) (do_some de_int) do_none) (da_cons (de_var 4) da_nil))) (blkOk_by (by kernel_rfl)) (fun _ _ _ _ _ => (dg_tup rfl (dgs_cons (dg_name 5 sc_seen_along.nd) (dgs_cons (dg_name 6 sc_seen_along.nd) dgs_nil)))) (fun _ _ _ _ _ => dts_nil) (fun _ _ _ _ _ => (de_fn C_seen_of hr (da_cons (de_var 0) (da_cons (de_var 5) (da_cons (de_idx (de_var 6) de_int (fun _ _ => rfl)) (da_cons (de_var 2) da_nil)))))) (by decide)))) da_nil)))))
theorem sc_checked_work : FnScope ["way", "row"] ["way", "row"] (defScope s_checked_work) := ⟨rfl, rfl, rfl, by decide +kernel, rfl, by decide +kernel, by decide +kernel⟩
theorem cal_checked_work (T : Tx K mg) : Cal (obT P w) P w K mg base "checked_work" 8 ["way", "row"] m_checked_work := by
  have C_check_row := cal_check_row (P := P) (w := w) (base := base) T
  have C_check_way := cal_check_way (P := P) (w := w) (base := base) T
  have C_work := cal_work (P := P) (w := w) (base := base) T
  refine cal_of (k := 7) T.f_checked_work sc_checked_work (fun _ _ _ _ _ _ us hl => match us, hl with | [_, _], _ => rfl) (fun f cdv A outer s H E hr => ?_)
  exact (dss_cons (ds_expr (de_fn C_check_way hr (da_cons (de_var 0) da_nil)))
      (dss_cons (ds_expr (de_fn C_check_row hr (da_cons (de_var 1) da_nil)))
      (dss_one (ds_ret (de_fn C_work hr (da_cons (de_var 0) (da_cons (de_var 1) da_nil)))))))
theorem sc_run : FnScope ["way", "row", "sight"] ["way", "row", "sight"] (defScope s_run) := ⟨rfl, rfl, rfl, by decide +kernel, rfl, by decide +kernel, by decide +kernel⟩
theorem cal_run (T : Tx K mg) : Cal (obT P w) P w K mg base "run" 9 ["way", "row", "sight"] m_run := by
  have C_check_row := cal_check_row (P := P) (w := w) (base := base) T
  have C_check_sight := cal_check_sight (P := P) (w := w) (base := base) T
  have C_check_way := cal_check_way (P := P) (w := w) (base := base) T
  have C_seen_along := cal_seen_along (P := P) (w := w) (base := base) T
  refine cal_of (k := 8) T.f_run sc_run (fun _ _ _ _ _ _ us hl => match us, hl with | [_, _, _], _ => rfl) (fun f cdv A outer s H E hr => ?_)
  exact (dss_cons (ds_expr (de_fn C_check_way hr (da_cons (de_var 0) da_nil)))
      (dss_cons (ds_expr (de_fn C_check_row hr (da_cons (de_var 1) da_nil)))
      (dss_cons (ds_expr (de_fn C_check_sight hr (da_cons (de_var 2) da_nil)))
      (dss_one (ds_ret (de_fn C_seen_along hr (da_cons (de_var 0) (da_cons (de_var 1) (da_cons (de_var 2) da_nil)))))))))
theorem sc_table_after : FnScope ["way", "row"] ["way", "row"] (defScope s_table_after) := ⟨rfl, rfl, rfl, by decide +kernel, rfl, by decide +kernel, by decide +kernel⟩
theorem cal_table_after (T : Tx K mg) : Cal (obT P w) P w K mg base "table_after" 9 ["way", "row"] m_table_after := by
  have C_checked_work := cal_checked_work (P := P) (w := w) (base := base) T
  refine cal_of (k := 8) T.f_table_after sc_table_after (fun _ _ _ _ _ _ us hl => match us, hl with | [_, _], _ => rfl) (fun f cdv A outer s H E hr => ?_)
  exact (dss_one (ds_ret (de_idx (de_idx (de_fn C_checked_work hr (da_cons (de_var 0) (da_cons (de_var 1) da_nil))) de_int (fun _ _ => rfl)) (de_neg de_int) (fun _ _ => rfl))))
theorem sc_were_found : FnScope ["way", "row", "one"] ["way", "row"] (defScope s_were_found) := ⟨rfl, rfl, rfl, by decide +kernel, rfl, by decide +kernel, by decide +kernel⟩
theorem cal_were_found (T : Tx K mg) : Cal (obT P w) P w K mg base "were_found" 9 ["way", "row"] m_were_found := by
  have C_checked_work := cal_checked_work (P := P) (w := w) (base := base) T
  refine cal_of (k := 8) T.f_were_found sc_were_found (fun _ _ _ _ _ _ us hl => match us, hl with | [_, _], _ => rfl) (fun f cdv A outer s H E hr => ?_)
  exact (dss_one (ds_ret (de_callTy call_tupF cbd_tuple (by rfl) T.b_tuple (by decide +kernel) (da_cons (DF.de (DLc.df (lc1 (own := [("one", 2)]) rfl sc_were_found.nd (di_seq (de_idx (de_fn C_checked_work hr (da_cons (de_var 0) (da_cons (de_var 1) da_nil))) de_int (fun _ _ => rfl))) (blkOk_by (by kernel_rfl)) (fun _ _ _ _ _ => (dg_name 2 sc_were_found.nd)) (fun _ _ _ _ _ => dts_nil) (fun _ _ _ _ _ => (de_idx (de_var 2) de_int (fun _ _ => rfl))) (by decide)))) da_nil))))
theorem sc_law : FnScope ["script", "town", "k", "gone", "home_word", "one", "other", "keys", "step", "row", "grow", "deed"] ["script"] (defScope s_law) := ⟨rfl, rfl, rfl, by decide +kernel, rfl, by decide +kernel, by decide +kernel⟩
theorem ok_law (T : Tx K mg) {f : Addr} {fd : FuncData} (hF : FunD K "law" "law" (defArgs s_law) (defBody s_law) (defScope s_law) [] [] f fd) : FnOk P w K mg base CX0 10 f fd ["script"] (spD (obT P w) K mg m_law 1) := by
  have C__law_begun := cal__law_begun (P := P) (w := w) (base := base) T
  have C__law_deeds := cal__law_deeds (P := P) (w := w) (base := base) T
  have C__law_draw := cal__law_draw (P := P) (w := w) (base := base) T
  have C__law_some := cal__law_some (P := P) (w := w) (base := base) T
  have C_run := cal_run (P := P) (w := w) (base := base) T
  have C_table_after := cal_table_after (P := P) (w := w) (base := base) T
  have C_were_found := cal_were_found (P := P) (w := w) (base := base) T
  refine fnok_of (k := 9) hF sc_law (fun cdv A outer s H E hr => ?_)
  exact (dss_cons (ds_set 1 sc_law.nd (de_fn0 C__law_begun hr))
      (dss_cons (ds_for PassesOwn.never rfl (di_range1 (by rfl) T.b_range (da_cons de_int da_nil)) (dg_name 2 sc_law.nd) (dss_cons (ds_par (i := 7) (j := 8) rfl sc_law.nd (da_cons (de_fn C__law_some hr (da_cons (de_var 0) (da_cons (de_var 1) (da_cons de_int da_nil)))) (da_cons (de_idx (de_tup (da_cons de_str (da_cons de_str (da_cons de_str (da_cons de_str da_nil))))) (de_fn C__law_draw hr (da_cons (de_var 0) (da_cons (de_var 1) (da_cons de_int da_nil)))) (fun _ _ => rfl)) da_nil)) (by rfl))
      (dss_cons (ds_set 3 sc_law.nd (de_idx (de_tup (da_cons de_str (da_cons de_str (da_cons de_str (da_cons de_str da_nil))))) (de_fn C__law_draw hr (da_cons (de_var 0) (da_cons (de_var 1) (da_cons (de_if (dt_cmp (op_inA (u65 hr)) opd_in (de_var 8) (de_tup (da_cons de_str (da_cons de_str da_nil))) rfl) de_int de_int) da_nil)))) (fun _ _ => rfl)))
      (dss_cons (ds_par (i := 9) (j := 10) rfl sc_law.nd (da_cons (de_fn C__law_deeds hr (da_cons (de_var 0) (da_cons (de_var 1) (da_cons (de_var 7) (da_cons de_int da_nil))))) (da_cons (de_idx (de_tup (da_cons de_str (da_cons de_str (da_cons de_str da_nil)))) (de_fn C__law_draw hr (da_cons (de_var 0) (da_cons (de_var 1) (da_cons de_int da_nil)))) (fun _ _ => rfl)) da_nil)) (by rfl))
      (dss_cons (ds_set 4 sc_law.nd (de_idx (de_tup (da_cons de_str (da_cons de_str da_nil))) (de_fn C__law_draw hr (da_cons (de_var 0) (da_cons (de_var 1) (da_cons de_int da_nil)))) (fun _ _ => rfl)))
      (dss_cons (ds_set 5 sc_law.nd (de_tup (da_cons de_str (da_cons (de_var 4) (da_cons (de_var 8) (da_cons de_str (da_cons (de_var 3) (da_cons (de_var 10) da_nil))))))))
      (dss_cons (ds_set 6 sc_law.nd (de_tup (da_cons de_str (da_cons (de_var 4) (da_cons (de_var 8) (da_cons de_str (da_cons (de_var 3) (da_cons (de_var 10) da_nil))))))))
      (dss_cons (ds_if (DW.dt (dw_and (dt_cmp (op_neD hr.units) opd_ne (de_fn C_were_found hr (da_cons (de_var 5) (da_cons (de_var 9) da_nil))) (de_fn C_were_found hr (da_cons (de_var 6) (da_cons (de_var 9) da_nil))) (nomark _)) (dw_and1 (dt_cmp (op_neD hr.units) opd_ne (de_var 3) de_str (nomark _))))) (dss_one (ds_ret de_bl)) dss_nil)
      (dss_cons (ds_if (dt_cmp (op_eqD hr.units) opd_eq (de_var 3) de_str (nomark _)) (dss_one (ds_set 9 sc_law.nd (de_callTy call_tupF cbd_tuple (by rfl) T.b_tuple (by decide +kernel) (da_cons (DF.de (DLc.df (lc1 (own := [("deed", 11)]) rfl sc_law.nd (di_seq (de_var 9)) (blkOk_by (by kernel_rfl)) (fun _ _ _ _ _ => (dg_name 11 sc_law.nd)) (fun _ _ _ _ _ => (dts_one (dt_cmp (op_neD hr.units) opd_ne (de_idx (de_var 11) de_int (fun _ _ => rfl)) de_str (nomark _)))) (fun _ _ _ _ _ => (de_var 11)) (by decide)))) da_nil)))) dss_nil)
      (dss_cons (ds_if (dt_cmp (op_neD hr.units) opd_ne (de_fn C_table_after hr (da_cons (de_var 5) (da_cons (de_var 9) da_nil))) (de_fn C_table_after hr (da_cons (de_var 6) (da_cons (de_var 9) da_nil))) (nomark _)) (dss_one (ds_ret de_bl)) dss_nil)
      (dss_one (ds_if (dt_cmp (op_neD hr.units) opd_ne (de_fn C_run hr (da_cons (de_var 5) (da_cons (de_var 9) (da_cons de_str da_nil)))) (de_fn C_run hr (da_cons (de_var 6) (da_cons (de_var 9) (da_cons de_str da_nil)))) (nomark _)) (dss_one (ds_ret de_bl)) dss_nil))))))))))))
      (dss_one (ds_ret de_bl))))
end
end G6

namespace G6
open PySem PySem.Spec L2 DL
def dOf (n : Str) (i : Nat) : He.DefD := ⟨(n, none), n, n, defArgs (top i), defBody (top i), defScope (top i), [], []⟩
def hfn : List He.DefD := [dOf "is_between" 11, dOf "is_word" 12, dOf "home_of" 25, dOf "bound_of" 27, dOf "begun" 31, dOf "keys_in" 32, dOf "each_once" 34, dOf "with_slot" 36, dOf "_law_draw" 54, dOf "_law_begun" 55, dOf "is_slot_way" 13, dOf "is_key" 16, dOf "check_sight" 23, dOf "walk_of" 26, dOf "order_in" 33, dOf "distance" 37, dOf "used_in" 40, dOf "_law_some" 56, dOf "_law_deeds" 57, dOf "is_way" 14, dOf "is_deed" 20, dOf "found_at" 35, dOf "placed" 38, dOf "pulled" 42, dOf "seen_of" 45, dOf "check_way" 15, dOf "is_row" 21, dOf "laid_anew" 39, dOf "check_row" 22, dOf "grown" 41] ++ [dOf "removed" 43, dOf "done" 44, dOf "work" 47, dOf "seen_along" 48, dOf "checked_work" 50, dOf "run" 49, dOf "table_after" 51, dOf "were_found" 52, dOf "law" 58]
def hfa : List He.Fa := [.glo "is_between", .glo "is_word", .glo "home_of", .glo "bound_of", .glo "begun", .glo "keys_in", .glo "each_once", .glo "with_slot", .glo "_law_draw", .glo "_law_begun", .glo "is_slot_way", .glo "is_key", .glo "check_sight", .glo "walk_of", .glo "order_in", .glo "distance", .glo "used_in", .glo "_law_some", .glo "_law_deeds", .glo "is_way", .glo "is_deed", .glo "found_at", .glo "placed", .glo "pulled", .glo "seen_of", .glo "check_way", .glo "is_row", .glo "laid_anew", .glo "check_row", .glo "grown"] ++ [.glo "removed", .glo "done", .glo "work", .glo "seen_along", .glo "checked_work", .glo "run", .glo "table_after", .glo "were_found", .glo "law", .glo "HOMES", .glo "STEPS", .glo "COMES", .glo "GONES", .glo "GROWS", .glo "KINDS", .glo "SIGHTS", .free "all", .free "bool", .free "int", .free "isinstance", .free "len", .free "range", .free "sorted", .free "str", .free "tuple", .free "zip", .int "EMPTY" (-1), .int "GONE" (-2)]
def hex (K : PySem.W.Frag) : Bool := tupN K "HOMES" [.str "low", .str "fold"] && tupN K "STEPS" [.str "up", .str "down", .str "wide", .str "own"] && tupN K "COMES" [.str "late", .str "empty", .str "near", .str "first"] && tupN K "GONES" [.str "mark", .str "hole", .str "again", .str "pull"] && tupN K "GROWS" [.str "half", .str "three", .str "full"] && tupN K "KINDS" [.str "ask", .str "put", .str "take"] && tupN K "SIGHTS" [.str "both", .str "looks", .str "order"]
abbrev R : PySem.W.OpenRow := PySem.W.OpenLaw.row PySem.Challenge.rw_slotorders_k11_whole_late_and_empty
abbrev hk : PySem.W.Hook := He.hookX 4 hfa hfn [] [] hex
def hob (s : PySem.W.SharedT) : He.AlX := He.obsX 4 hfa hfn [] [] hex (HandSHeadRun.getT s)
theorem hob_eq (s : PySem.W.SharedT) : hob s = hk.obs s.abs := He.obsX_eq (HandSHeadRun.getT_eq s)
def loose : List PySem.Str := [("SlotError" : PySem.Str), ("InvalidWay" : PySem.Str), ("InvalidRow" : PySem.Str), ("InvalidSight" : PySem.Str), ("HOMES" : PySem.Str), ("STEPS" : PySem.Str), ("COMES" : PySem.Str), ("GONES" : PySem.Str), ("GROWS" : PySem.Str), ("is_between" : PySem.Str), ("is_word" : PySem.Str), ("is_slot_way" : PySem.Str), ("is_way" : PySem.Str), ("check_way" : PySem.Str), ("is_key" : PySem.Str), ("KINDS" : PySem.Str), ("SIGHTS" : PySem.Str), ("is_deed" : PySem.Str), ("is_row" : PySem.Str), ("check_row" : PySem.Str), ("check_sight" : PySem.Str), ("home_of" : PySem.Str), ("walk_of" : PySem.Str), ("bound_of" : PySem.Str), ("EMPTY" : PySem.Str), ("GONE" : PySem.Str), ("begun" : PySem.Str), ("keys_in" : PySem.Str), ("order_in" : PySem.Str), ("each_once" : PySem.Str)] ++ [("found_at" : PySem.Str), ("with_slot" : PySem.Str), ("distance" : PySem.Str), ("placed" : PySem.Str), ("laid_anew" : PySem.Str), ("used_in" : PySem.Str), ("grown" : PySem.Str), ("pulled" : PySem.Str), ("removed" : PySem.Str), ("done" : PySem.Str), ("seen_of" : PySem.Str), ("work" : PySem.Str), ("seen_along" : PySem.Str), ("run" : PySem.Str), ("checked_work" : PySem.Str), ("table_after" : PySem.Str), ("were_found" : PySem.Str), ("_law_draw" : PySem.Str), ("_law_begun" : PySem.Str), ("_law_some" : PySem.Str), ("_law_deeds" : PySem.Str)]
theorem run (w : World) : HandSHeadRun.RunEq R (PySem.W.view R.prog [58]) hk hob 3000 loose w := by
  intro os
  kernel_rfl
theorem tx {w : World} {h : Heap} {K : PySem.W.Frag} {mg : Str → Option Value} (X : K.In h) (G : h.Ns mainGlobals mg) (c : He.SaysX hfa hfn [] [] hex w h K) : Tx K mg := by
  have fact : ∀ (i : Nat) (f : He.Fa), hfa[i]? = some f → f.ok K = true := fun i f e => c.t.d.fact i e
  have fn : ∀ (i : Nat) (x : Str) (j : Nat), hfn[i]? = some (dOf x j) → (He.Fa.glo x).ok K = true → FnT K mg x (top j) := fun i x j e g => by
    obtain ⟨fd, F⟩ := c.t.d.def_ i e
    exact ⟨_, fd, He.glo_ok X G g, F⟩
  have m : hex K = true := c.more
  unfold hex at m
  simp only [Bool.and_eq_true] at m
  exact ⟨He.free_ok X G (fact 46 _ rfl),
    He.free_ok X G (fact 47 _ rfl),
    He.free_ok X G (fact 48 _ rfl),
    He.free_ok X G (fact 49 _ rfl),
    He.free_ok X G (fact 50 _ rfl),
    He.free_ok X G (fact 51 _ rfl),
    He.free_ok X G (fact 52 _ rfl),
    He.free_ok X G (fact 53 _ rfl),
    He.free_ok X G (fact 54 _ rfl),
    He.free_ok X G (fact 55 _ rfl),
    He.int_ok X G (fact 56 _ rfl),
    He.int_ok X G (fact 57 _ rfl),
    ⟨_, He.glo_ok X G (fact 39 _ rfl), fun O H P => .tup (tupN_ok m.1.1.1.1.1.1 H) (.cons (.str _ (by decide +kernel)) (.cons (.str _ (by decide +kernel)) (.nil)))⟩,
    ⟨_, He.glo_ok X G (fact 40 _ rfl), fun O H P => .tup (tupN_ok m.1.1.1.1.1.2 H) (.cons (.str _ (by decide +kernel)) (.cons (.str _ (by decide +kernel)) (.cons (.str _ (by decide +kernel)) (.cons (.str _ (by decide +kernel)) (.nil)))))⟩,
    ⟨_, He.glo_ok X G (fact 41 _ rfl), fun O H P => .tup (tupN_ok m.1.1.1.1.2 H) (.cons (.str _ (by decide +kernel)) (.cons (.str _ (by decide +kernel)) (.cons (.str _ (by decide +kernel)) (.cons (.str _ (by decide +kernel)) (.nil)))))⟩,
    ⟨_, He.glo_ok X G (fact 42 _ rfl), fun O H P => .tup (tupN_ok m.1.1.1.2 H) (.cons (.str _ (by decide +kernel)) (.cons (.str _ (by decide +kernel)) (.cons (.str _ (by decide +kernel)) (.cons (.str _ (by decide +kernel)) (.nil)))))⟩,
    ⟨_, He.glo_ok X G (fact 43 _ rfl), fun O H P => .tup (tupN_ok m.1.1.2 H) (.cons (.str _ (by decide +kernel)) (.cons (.str _ (by decide +kernel)) (.cons (.str _ (by decide +kernel)) (.nil))))⟩,
    ⟨_, He.glo_ok X G (fact 44 _ rfl), fun O H P => .tup (tupN_ok m.1.2 H) (.cons (.str _ (by decide +kernel)) (.cons (.str _ (by decide +kernel)) (.cons (.str _ (by decide +kernel)) (.nil))))⟩,
    ⟨_, He.glo_ok X G (fact 45 _ rfl), fun O H P => .tup (tupN_ok m.2 H) (.cons (.str _ (by decide +kernel)) (.cons (.str _ (by decide +kernel)) (.cons (.str _ (by decide +kernel)) (.nil))))⟩,
    fn 0 _ _ rfl (fact 0 _ rfl),
    fn 1 _ _ rfl (fact 1 _ rfl),
    fn 2 _ _ rfl (fact 2 _ rfl),
    fn 3 _ _ rfl (fact 3 _ rfl),
    fn 4 _ _ rfl (fact 4 _ rfl),
    fn 5 _ _ rfl (fact 5 _ rfl),
    fn 6 _ _ rfl (fact 6 _ rfl),
    fn 7 _ _ rfl (fact 7 _ rfl),
    fn 8 _ _ rfl (fact 8 _ rfl),
    fn 9 _ _ rfl (fact 9 _ rfl),
    fn 10 _ _ rfl (fact 10 _ rfl),
    fn 11 _ _ rfl (fact 11 _ rfl),
    fn 12 _ _ rfl (fact 12 _ rfl),
    fn 13 _ _ rfl (fact 13 _ rfl),
    fn 14 _ _ rfl (fact 14 _ rfl),
    fn 15 _ _ rfl (fact 15 _ rfl),
    fn 16 _ _ rfl (fact 16 _ rfl),
    fn 17 _ _ rfl (fact 17 _ rfl),
    fn 18 _ _ rfl (fact 18 _ rfl),
    fn 19 _ _ rfl (fact 19 _ rfl),
    fn 20 _ _ rfl (fact 20 _ rfl),
    fn 21 _ _ rfl (fact 21 _ rfl),
    fn 22 _ _ rfl (fact 22 _ rfl),
    fn 23 _ _ rfl (fact 23 _ rfl),
    fn 24 _ _ rfl (fact 24 _ rfl),
    fn 25 _ _ rfl (fact 25 _ rfl),
    fn 26 _ _ rfl (fact 26 _ rfl),
    fn 27 _ _ rfl (fact 27 _ rfl),
    fn 28 _ _ rfl (fact 28 _ rfl),
    fn 29 _ _ rfl (fact 29 _ rfl),
    fn 30 _ _ rfl (fact 30 _ rfl),
    fn 31 _ _ rfl (fact 31 _ rfl),
    fn 32 _ _ rfl (fact 32 _ rfl),
    fn 33 _ _ rfl (fact 33 _ rfl),
    fn 34 _ _ rfl (fact 34 _ rfl),
    fn 35 _ _ rfl (fact 35 _ rfl),
    fn 36 _ _ rfl (fact 36 _ rfl),
    fn 37 _ _ rfl (fact 37 _ rfl),
    fn 38 _ _ rfl (fact 38 _ rfl)⟩
end G6

open PySem PySem.W PySem.Calls PyProof.Rows
theorem PySem.Challenge.cw_slotorders_k11_whole_late_and_empty_holds : PySem.Challenge.rw_slotorders_k11_whole_late_and_empty.Holds := by
  w_on; o_law
  refine HandSHeadRun.head_any (r := OpenLaw.row PySem.Challenge.rw_slotorders_k11_whole_late_and_empty) (q := view (OpenLaw.row PySem.Challenge.rw_slotorders_k11_whole_late_and_empty).prog [58]) (H := G6.hk) (ob := G6.hob) (M := 3000) (loose := G6.loose) (d := HandSHeadRun.topDef (OpenLaw.row PySem.Challenge.rw_slotorders_k11_whole_late_and_empty).prog 58) (kwd := []) G6.hob_eq
    (by kernel_rfl) (fun s => by kernel_rfl) G6.run (by kernel_rfl) (by kernel_rfl) (by kernel_rfl) (by rfl) (by first | assumption | decide +kernel) (by decide +kernel) ⟨rfl, rfl, rfl, rfl, rfl, by decide +kernel⟩ ?hw ?hc
  case hw => w_witness2
  case hc =>
    refine L2.walk_ofE (l := PySem.Challenge.rw_slotorders_k11_whole_late_and_empty) (n := 63) (k := 10) (x := "script") (CX := L2.CX0) rfl (by decide) (by kernel_rfl) ⟨rfl, by decide, by decide⟩ ?F (fun _ _ _ _ z => z)
    intro w mg fa h Y G hmg0
    obtain ⟨K, KX, c⟩ := Y
    have hmg : mg ("law" : PySem.Str) = some (.ref fa) := by
      have e : (HandSHeadRun.topDef (OpenLaw.row PySem.Challenge.rw_slotorders_k11_whole_late_and_empty).prog 58).name = ("law" : PySem.Str) := by kernel_rfl
      rw [← e]
      exact hmg0
    have T := G6.tx KX G c
    obtain ⟨f, fd, hf, F⟩ := T.f_law
    have e := hmg.symm.trans hf
    cases e
    have b := L2.FunD.bindsA (ps := ["script"]) F fun _ _ _ _ _ _ us hl => match us, hl with | [_], _ => rfl
    exact ⟨K, fd, DL.spD (DL.obT (PySem.Challenge.rw_slotorders_k11_whole_late_and_empty).prog w) K mg G6.m_law 1, KX, fun s v => b s [v] rfl, fun H a ns hl hO hS => DL.law_says G6.law_ok hl hS hO, fun base _ _ => G6.ok_law T F⟩

