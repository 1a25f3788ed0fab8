import PyProof.Rows.All
import Wide.All
import OpenK.AllK
import Wide.FinOn
import HandS.Base
import HandS.Call
import HandS.List
import HandS.Conv
import HandS.TupAny
import KE.SortCalls
import HandS.Comp
import HandS.Ends
import HandS.Exc
import HandS.TryOnly
import HandS.ExcOwn
import HandS.ExcCtx
import HandS.HotCalls
import HandS.Words
import HandS.TupLe
import HandS.Deep
import HandS.Text
import HandS.Wide
import HandS.IsInst
import HandS.SortInts
import HandS.Iter
import HandS.WordsExc
import HandS.Property
import HandS.MakeKwOnly
import HandS.Defaults
import KE.KTupSum
import KE.DataMinMax
import HandS.SortOrd
import HandS.Flt
import HandS.Style
import OpenK.KMeth
import OpenK.KOps
import HandS.OwnEq
import HandS.OwnIter
import KE.KExcIs
import HandS.ExcIs
import HandS.ExcField
import HandS.More
import KE.KExcSuper
import HandS.ExcInit
import KE.KCallOwn
import KE.GoesEnum
import KE.GoesMore
import HandS.RevRange
import HandS.WordsDict
import KE.KItemsList
import KE.KDictCopyH
import HandS.SortKw
import HandS.StrMore
import PyProof.SeqIndex
import KE.DataFind
import HandS.Dict
import HandS.Sort
import HandS.IterVal
import PySem.Challenge.RW_unmovedways_k02_loads_objects
set_option Elab.async false
set_option linter.all false
set_option maxRecDepth 99999
set_option maxHeartbeats 4444444
namespace Um
open L2 PySem PySem.Spec PyProof.Rows HT

/-! ## How a new tuple is tracked: 1 = frozen, with no dict of its own; else as a tuple -/
def TupHO (m : Nat) (xs : List V) (u : HO) : Prop := (m ≠ 1 ∧ u = .tup xs) ∨ (m = 1 ∧ ∃ o : Obj, o.cls = .type "tuple" ∧ o.dict = none ∧ u = .frz o (.tup xs))
def tupU (m : Nat) (o : Obj) (xs : List V) : HO := if m = 1 then .frz o (.tup xs) else .tup xs
theorem tupU_is {m : Nat} {o : Obj} {xs : List V} (hc : o.cls = .type "tuple") (hd : o.dict = none) : TupHO m xs (tupU m o xs) := by
  unfold tupU TupHO
  by_cases h : m = 1
  · rw [if_pos h]; exact .inr ⟨h, o, hc, hd, rfl⟩
  · rw [if_neg h]; exact .inl ⟨h, rfl⟩
theorem tupU_ok {P : Program} {w : World} {H : Hp} {h : Heap} {a : Addr} {m : Nat} {o : Obj} {xs : List V} (he : h.get? a = some o) (hk : ObjOk P w H h a (.tup xs)) : ObjOk P w H h a (tupU m o xs) := by
  unfold tupU
  split
  · exact ⟨he, hk⟩
  · exact hk
theorem TupHO.rd {m : Nat} {xs : List V} {u : HO} (h : TupHO m xs u) {H : Hp} {p : Addr} : Rd (upd H p u) p (.tup xs) := by
  rcases h with ⟨_, rfl⟩ | ⟨_, o, _, _, rfl⟩
  · exact .inl upd_same
  · exact .inr ⟨o, upd_same⟩
section
variable {X : Cx} {m : Nat}
def tTupN (m : Nat) (t : TA) : TE := fun σ H Q => t σ H fun xs H1 => xs.length ≤ sizeLine ∧ ∀ p u, H1 p = none → TupHO m xs u → Q (.ref p) (upd H1 p u)
theorem pe_tupN {es : List Expr} {t : TA} {pos : Pos} {x1} (h : PA X es t) : PE X (.Tuple es x1 pos) (tTupN m t) := by
  refine ⟨fun pins s σ H Q I hq => ?_⟩
  refine wpAny_Tuple_spliced (thn (h.run pos pins s σ H _ I hq) fun us s1 ⟨xs, H1, I1, r, z, q⟩ => ⟨by rw [← r.length]; exact z, ?_⟩)
  have hf : H1 s1.heap.objs.size = none := I1.hok.fresh (Nat.le_refl _)
  refine ⟨.ref s1.heap.objs.size, upd H1 s1.heap.objs.size (tupU m { cls := .type "tuple", data := .seq us.toArray } xs), I1.laid (t' := s1.toks) (fun b u e => Heap.get?_push_of_some _ e) (Nat.le_refl _) (tupU_ok (Heap.get?_push_size _ rfl) ?_), rfl, q _ _ hf (tupU_is rfl rfl)⟩
  exact ⟨z, us, r, ⟨_, Heap.get?_push_size _ rfl, rfl, _, rfl⟩⟩
def rSlN (m : Nat) (K : PySem.W.Frag) : V → Option Int → Option Int → Hp → VK → Prop := fun x lo hi H Q => ∃ a xs, x = .ref a ∧ SqT K H a xs ∧
  (HT.sIx xs.length 0 lo = 0 ∧ HT.sIx xs.length xs.length hi = xs.length → Q (.ref a) H) ∧ (¬ (HT.sIx xs.length 0 lo = 0 ∧ HT.sIx xs.length xs.length hi = xs.length) → ∀ p u, H p = none → TupHO m (cutV xs lo hi) u → Q (.ref p) (upd H p u))
theorem sl_tupN : SlR X (rSlN m X.K) := by
  intro pins s σ H x v vl vu lo hi sl Q I rx hs pl pu h
  obtain ⟨a, xs, rfl, hx, q1, q2⟩ := h
  cases rx
  obtain ⟨its, r, ht, hz⟩ := I.tuple hx
  have hlen : its.toArray.size = xs.length := by rw [List.size_toArray]; exact r.length.symm
  refine ⟨"tuple", _, PyProof.Rows.slot_tuple_getitem.lookup, ht.typeIs, ?_⟩
  by_cases hw : HT.sIx xs.length 0 lo = 0 ∧ HT.sIx xs.length xs.length hi = xs.length
  · exact getItem_tuple_whole ht hs pl pu (by rw [hlen]; exact hw) ⟨.ref a, H, I, rfl, q1 hw⟩
  · refine HT.getItem_tuple_cut ht hs pl pu (by rw [hlen]; exact hw) ?_ (by rw [hlen]; exact hz)
    rw [hlen]
    refine ⟨.ref s.heap.objs.size, _, I.laid (t' := s.toks) (o := tupU m _ (cutV xs lo hi)) (fun b ob q => Heap.get?_push_of_some _ q) (Nat.le_refl _) (tupU_ok (Heap.get?_push_size _ rfl) ?_), rfl, q2 hw _ _ (I.hok.fresh (Nat.le_refl _)) (tupU_is rfl rfl)⟩
    exact ⟨Nat.le_trans (cutV_length xs lo hi) hz, _, (r.drop (HT.sIx xs.length 0 lo)).take (HT.sIx xs.length xs.length hi - HT.sIx xs.length 0 lo), IsTup.new _ _⟩
def rCatN (m : Nat) (K : PySem.W.Frag) : R2 := fun x y H Q => ∃ a b xs ys, x = .ref a ∧ y = .ref b ∧ SqT K H a xs ∧ SqT K H b ys ∧ xs.length + ys.length ≤ sizeLine ∧
  (xs = [] → Q (.ref b) H) ∧ (xs ≠ [] → ys = [] → Q (.ref a) H) ∧ (xs ≠ [] → ys ≠ [] → ∀ p u, H p = none → TupHO m (xs ++ ys) u → Q (.ref p) (upd H p u))
theorem op_catN : OpR X (binaryOp .Add) (rCatN m X.K) := by
  intro pins s σ H x y v u Q I rx ry h
  obtain ⟨a, b, xs, ys, rfl, rfl, ha, hb, hz, q0, q1, q2⟩ := h
  cases rx
  cases ry
  obtain ⟨its, r1, p1, _⟩ := I.tuple ha
  obtain ⟨its2, r2, p2, _⟩ := I.tuple hb
  by_cases hx : xs = []
  · subst hx
    cases r1
    exact cat_tup0 p1 p2 ⟨.ref b, H, I, rfl, q0 rfl⟩
  · refine HT.cat_tup p1 p2 (fun z => hx (r1.nil_iff.mp z)) (fun z => ⟨.ref a, H, I, rfl, q1 hx (r2.nil_iff.mp z)⟩) (fun z => ?_) (by rw [← r1.length, ← r2.length]; exact hz)
    refine ⟨.ref s.heap.objs.size, _, I.laid (t' := s.toks) (o := tupU m _ (xs ++ ys)) (fun b ob q => Heap.get?_push_of_some _ q) (Nat.le_refl _) (tupU_ok (Heap.get?_push_size _ rfl) ?_), rfl, q2 hx (fun w => z (r2.nil_iff.mpr w)) _ _ (I.hok.fresh (Nat.le_refl _)) (tupU_is rfl rfl)⟩
    exact ⟨by rw [List.length_append]; exact hz, _, r1.append r2, IsTup.new _ _⟩
theorem call_tupleN : CallR X (.type "tuple") (fun xs H Q => ∃ p ys, xs = [.ref p] ∧ ((SqL X.K H p ys ∧ ∀ l u, H l = none → TupHO m ys u → Q (.ref l) (upd H l u)) ∨ (SqT X.K H p ys ∧ Q (.ref p) H))) := by
  intro pins s σ H xs us Q I r h
  obtain ⟨p, ys, rfl, h⟩ := h
  obtain ⟨u, rfl, rx⟩ := vals1 r
  cases rx
  rcases h with ⟨hq, q⟩ | ⟨hq, q⟩
  · obtain ⟨its, r', pl, hz⟩ := I.list hq
    have hlen := r'.length
    refine call_tuple_list pl.isList (fun h' kp => ?_) (by simp only [List.size_toArray] <;> omega)
    have I1 : Inv X pins σ H { s with heap := h' } := I.kept (t' := s.toks) kp
    have I2 : Inv X pins σ (upd H h'.objs.size (tupU m { cls := .type "tuple", data := .seq its.toArray } ys)) { s with heap := h'.push { cls := .type "tuple", data := .seq its.toArray } } :=
      I1.laid (t' := s.toks) (fun b o e => Heap.get?_push_of_some _ e) (Nat.le_refl _) (tupU_ok (Heap.get?_push_size _ rfl) (show ObjOk X.prog X.w _ _ _ (.tup ys) from ⟨hz, its, r', IsTup.new _ _⟩))
    exact ⟨.ref h'.objs.size, _, I2, rfl, q _ _ (I1.hok.fresh (Nat.le_refl _)) (tupU_is rfl rfl)⟩
  · obtain ⟨its, r', pl, hz⟩ := I.tuple hq
    exact call_tuple_same pl ⟨.ref p, H, I, rfl, q⟩
def tTupRgN (m : Nat) (te : L2.St → Hp → (Int → Int → Hp → Prop) → Prop) : TE := fun σ H Q => te σ H fun a b H1 => RgOk a b ∧ ∀ q u, H1 q = none → TupHO m (rgV a b) u → Q (.ref q) (upd H1 q u)
theorem pe_tupRgN {e : Expr} {te : L2.St → Hp → (Int → Int → Hp → Prop) → Prop} {p pos : Pos} (hc : X.calm = true) (hg : Gl X "tuple") (hm : X.mg "tuple" = none) (he : PRg X e te) (na : starEach [e] X.env = (false, eval e X.env) :: starEach [] X.env := by rfl) : PE X (.Call (.Name "tuple" p) [e] [] pos) (tTupRgN m te) := by
  refine ⟨fun pins s σ H Q I h => ?_⟩
  refine Call_ (ld_blt I hg hm boot_tuple (PyProof.Rows.callWith_type1 (args_cons (thn (he pins s σ H _ I h) fun x s1 ⟨r, a, b, t, u, v, H1, ex, hr, I1, ok, q⟩ => args_nil ?_) na) na))
  subst ex
  obtain ⟨b1, b2, b3, b4, b5⟩ := ok
  refine call_tuple_range (n := (b - a).toNat) (I1.ok.hd hc) hr (small_one b1 b2 b3 b4) (rangeSize_nat a b) b5 fun h' tk acc hk hi => ?_
  have I2 : Inv X pins σ H1 { s1 with heap := h', toks := tk } := I1.kept hk
  refine ⟨.ref h'.objs.size, upd H1 h'.objs.size (tupU m _ (rgV a b)), I2.laid (t' := tk) (fun c o e => Heap.get?_push_of_some _ e) (Nat.le_refl _) (tupU_ok (Heap.get?_push_size _ rfl) (show ObjOk X.prog X.w _ _ _ (.tup (rgV a b)) from ⟨?_, acc.toList, vals_rg hi, ?_⟩)), rfl, q _ _ (I2.hok.fresh (Nat.le_refl _)) (tupU_is rfl rfl)⟩
  · rw [rgV_length, sizeLine_eq]; omega
  · rw [Array.toArray_toList]; exact IsTup.new _ _
end
end Um

namespace Um
open PySem PySem.SeqAt PySem.W PyProof.Rows

/-! ## Sorting alike data, tuples with empty ones among them too -/
section
variable {prog : Program} {w : World} {A : Around} {E : Value → Shared → Prop} {s : Shared}
theorem call_tuple_lt {Q : Value → Shared → Prop} {l b : Addr} {items items2 : Array Value} {e r : Nat → Bool} (hl : s.heap.IsTuple l items) (hb : s.heap.IsTuple b items2)
    (he : ∀ j (h1 : j < items.size) (h2 : j < items2.size), EqAt A.in1 s items[j] items2[j] (e j)) (hr : ∀ j (h1 : j < items.size) (h2 : j < items2.size), e j = false → RcLt A.in1 s items[j] items2[j] (r j))
    (h : Q (.bool (firstLt e r (decide (items.size < items2.size)) (List.range (min items.size items2.size)))) s) : wpAny (model prog w) A (call (.builtin "tuple.__lt__") [.ref l, .ref b]) Q E s := by
  obtain ⟨⟨cls, dd, data, sl⟩, ho, hc, n, hd⟩ := id hl
  obtain ⟨⟨cls2, dd2, data2, sl2⟩, ho2, hc2, n2, hd2⟩ := id hb
  simp only at hc hd hc2 hd2
  subst hc hd hc2 hd2
  exact call_meets F.slot_tuple_lt ⟨_, ho, rfl⟩ F.entry_tuple_lt (F.args_tuple_lt_2 _ _) (SeqAt.tuple_ltAt l b items items2 n n2 dd dd2 sl sl2 e r) ⟨ho, ho2, he, hr, h⟩
theorem oneLt_tup {xs ys : List PyData} {a b : Value} {as bs : List Addr} {Q : Bool → Shared → Prop} (ra : Reads s.heap a (.tuple xs) as) (rb : Reads s.heap b (.tuple ys) bs) (h : alike (.tuple xs) (.tuple ys) = true)
    (hu : A.units + min (PyData.tuple xs).depth (PyData.tuple ys).depth < cLine) (hq : Q (dataLt (.tuple xs) (.tuple ys)) s) : wpAny (model prog w) A (oneLt' true a b) Q E s := by
  have hal : alikeAll xs ys = true := by simpa [alike] using h
  cases ra with
  | @tuple l o vs n _ as₁ h1 h2 h3 h4 =>
    cases rb with
    | @tuple l' o' vs' n' _ bs₁ k1 k2 k3 k4 =>
      have n1 : vs.size = xs.length := by simpa using ReadsAll.length _ _ _ h4
      have n2 : vs'.size = ys.length := by simpa using ReadsAll.length _ _ _ k4
      rw [dataLt_tuple, ← firstLt_toks xs ys hal, ← n1, ← n2] at hq
      rw [oneLt'_eq]
      simp only [if_true]
      refine wpAny_bind (wpAny_cRoomFor (room_here hu) ?_)
      refine wpAny_bind (wpAny_callSpecialIfBound?_slot (T := "tuple") ⟨_, h1, h2⟩ F.slot_tuple_lt (call_tuple_lt (e := pairEq xs ys) (r := fun j => dataLt (xs.getD j .none) (ys.getD j .none)) ⟨_, h1, h2, _, h3⟩ ⟨_, k1, k2, _, k3⟩ (fun j j1 j2 => ?_) (fun j j1 j2 hj => ?_) ?_))
      · have := eqAt_alikeAll xs ys A.in1 s vs.toList vs'.toList _ _ h4 k4 hal (room_in hu) j (by simpa using j1) (by simpa using j2)
        simpa using this
      · have := rcLt_alikeAll xs ys A.in1 s vs.toList vs'.toList _ _ h4 k4 hal (room_in hu) j (by simpa using j1) (by simpa using j2) hj
        simpa using this
      · exact wpAny_truthy_bool hq
theorem keyLt'_general (x y : Value) : keyLt' general' x y = oneLt' false x y := rfl
def noItem : PyData → Bool
  | .tuple [] => true
  | _ => false
theorem firsts_mix {M : Model} : ∀ {vs : List Value} {ds : List PyData} {Q : List (Option Value) → Shared → Prop}, EachIs (fun v d => ∃ as, Reads s.heap v d as) vs ds → (∀ d, d ∈ ds → ∃ xs, d = .tuple xs) →
    (∀ fs : List (Option Value), fs.map Option.isSome = ds.map (fun d => !noItem d) → Q fs s) → wpAny M A (vs.mapM firstOfTuple') Q E s
  | _, _, _, .nil, _, h => by rw [List.mapM_nil]; exact wpAny_pure (h [] rfl)
  | _, _, Q, .cons (b := d) ⟨as, r⟩ t, ht, h => by
    obtain ⟨xs, rfl⟩ := ht d (List.mem_cons_self ..)
    cases r with
    | @tuple a o vs n _ _ ho hc hd hr =>
      rw [List.mapM_cons]
      refine wpAny_bind ?_
      rw [kas_first_eq]
      refine wpAny_bind (Looks.here (show Looks M s.heap (typeOf (.ref a)) o.cls from (Looks.ld ho).andThen .now) ?_)
      rw [hc, if_neg (by first | decide | simp)]
      refine wpAny_bind (listItems_at ho hd (wpAny_pure ?_))
      refine wpAny_bind (firsts_mix (Q := fun bs s' => wpAny M A (pure (vs[0]? :: bs)) Q E s') t (fun d hd => ht d (List.mem_cons_of_mem _ hd)) fun fs hf => wpAny_pure (h _ ?_))
      rw [List.map_cons, List.map_cons, hf]
      congr 1
      have n1 : vs.size = xs.length := by simpa using ReadsAll.length _ _ _ hr
      cases xs with
      | nil =>
        rw [List.length_nil] at n1
        rw [Array.getElem?_eq_none (by omega)]
        rfl
      | cons x xs =>
        rw [List.length_cons] at n1
        rw [Array.getElem?_eq_getElem (by omega)]
        rfl
theorem kind_mix {M : Model} {vs : List Value} {ds : List PyData} {Q : SortKind → Shared → Prop} (e : EachIs (fun v d => ∃ as, Reads s.heap v d as) vs ds) (ht : ∀ d, d ∈ ds → ∃ xs, d = .tuple xs) (hn : ∃ d, d ∈ ds ∧ noItem d = true) (h2 : 2 ≤ vs.length)
    (h : ∀ d₀, ds[0]? = some d₀ → Q (if noItem d₀ = true then oneType' else general') s) : wpAny M A (keyKind' vs.toArray) Q E s := by
  rw [keyKind'_eq, List.mapM_toArray, map_eq_pure_bind]
  refine wpAny_bind (wpAny_bind (firsts_mix e ht fun fs hf => wpAny_pure ?_))
  have hall : ¬ ((fs.toArray.all fun x => x.isSome) = true) := by
    simp only [List.all_toArray, List.all_eq_true]
    intro z
    obtain ⟨d, hd, hz⟩ := hn
    have : (!noItem d) ∈ ds.map (fun d => !noItem d) := List.mem_map.mpr ⟨d, hd, rfl⟩
    rw [← hf, hz] at this
    obtain ⟨f, hm, hq⟩ := List.mem_map.mp this
    rw [z f hm] at hq
    exact absurd hq (by decide)
  rw [if_neg hall]
  cases ds with
  | nil => obtain ⟨d, hd, _⟩ := hn; exact absurd hd (by simp)
  | cons d₀ ds₀ =>
    have h' := h d₀ rfl
    cases fs with
    | nil => exact absurd hf (by simp)
    | cons f fs =>
      have e0 : f.isSome = !noItem d₀ := (List.cons.inj hf).1
      have e1 : (((f :: fs).toArray[0]?).bind id) = f := by simp
      rw [e1]
      cases hd : noItem d₀ with
      | false =>
        rw [hd] at e0 h'
        rw [if_pos (by rw [e0]; rfl)]
        rw [if_neg (by simp)] at h'
        exact wpAny_pure h'
      | true =>
        rw [hd] at e0 h'
        rw [if_neg (by rw [e0]; simp)]
        rw [if_pos rfl] at h'
        rw [oneTypeOnly'_eq, List.mapM_toArray, map_eq_pure_bind]
        refine wpAny_bind (wpAny_bind (wpAny_bind (kas_mapM (r := Value.type "tuple") _ (fun v hv Q' hq => ?_) (wpAny_pure ?_))))
        · obtain ⟨d, hd, as, r⟩ := e.left v hv
          obtain ⟨xs, rfl⟩ := ht d hd
          exact (looks_reads r).here hq
        · obtain ⟨v₁, vr, rfl⟩ : ∃ v₁ vr, vs = v₁ :: vr := by
            match vs, h2 with
            | v₁ :: vr, _ => exact ⟨v₁, vr, rfl⟩
          have ha2 : ((List.map (fun _ => Value.type "tuple") (v₁ :: vr)).toArray.all fun x => x == Value.type "tuple") = true := by
            simp only [List.all_toArray, List.all_map, List.all_eq_true]
            intro _ _
            rfl
          have h0 : (List.map (fun _ => Value.type "tuple") (v₁ :: vr)).toArray[0]? = some (Value.type "tuple") := by simp
          rw [h0]
          simp only [ha2, if_true]
          exact wpAny_pure (wpAny_pure h')
theorem sortsAt_mix {vs : List Value} {ds : List PyData} (e : EachIs (fun v d => ∃ as, Reads s.heap v d as) vs ds) (hal : AllAlike ds) (ht : ∀ d, d ∈ ds → ∃ xs, d = .tuple xs) (hn : ∃ d, d ∈ ds ∧ noItem d = true) (hu : ∀ d, d ∈ ds → A.units + d.depth < cLine) :
    SortsAt prog w A s (dataKind s.heap ds) vs := by
  have room : ∀ {d d' : PyData}, d ∈ ds → A.units + min d.depth d'.depth < cLine := fun {d d'} hd => Nat.lt_of_le_of_lt (Nat.add_le_add_left (Nat.min_le_left _ _) _) (hu d hd)
  refine ⟨fun v hv => ?_, ?_⟩
  · obtain ⟨d, hd, as, r⟩ := e.left v hv
    exact ⟨_, dataKind_some hal hd r⟩
  · have hd0 : ∃ d₀, ds[0]? = some d₀ := by
      obtain ⟨d, hd, _⟩ := hn
      cases ds with
      | nil => exact absurd hd (by simp)
      | cons d₀ _ => exact ⟨d₀, rfl⟩
    obtain ⟨d₀, h0⟩ := hd0
    refine ⟨if noItem d₀ = true then oneType' else general', ?_, fun h2 E Q hq => ?_⟩
    · intro E x y a b Q ha hb hq
      obtain ⟨d, as, hd, ra, rfl⟩ := dataKind_inv ha
      obtain ⟨d', as', hd', rb, rfl⟩ := dataKind_inv hb
      have hal' := hal d hd d' hd'
      have hr := room (d' := d') hd
      obtain ⟨xs, rfl⟩ := ht d hd
      obtain ⟨ys, rfl⟩ := ht d' hd'
      by_cases c : noItem d₀ = true
      · rw [if_pos c, keyLt'_oneType]
        exact oneLt_tup ra rb hal' hr hq
      · rw [if_neg c, keyLt'_general]
        exact oneLt_alike (fun z => absurd z (by decide)) ra rb hal' (by intro z; cases z) hr hq
    · refine kind_mix e ht hn h2 fun d₁ h1 => ?_
      rw [h0] at h1
      cases h1
      exact hq
/-- data that sorted takes -/
def sortOk (ds : List PyData) : Bool :=
  ds.all (fun d => ds.all fun d' => alike d d') && (ds.all (fun d => match d with | .tuple _ => true | _ => false) || ds.all (fun d => match d with | .tuple _ => false | .none => false | _ => true))
theorem sortsAt {vs : List Value} {ds : List PyData} (e : EachIs (fun v d => ∃ as, Reads s.heap v d as) vs ds) (ok : sortOk ds = true) (hu : ∀ d, d ∈ ds → A.units + d.depth < cLine) : SortsAt prog w A s (dataKind s.heap ds) vs := by
  unfold sortOk at ok
  simp only [Bool.and_eq_true, Bool.or_eq_true, List.all_eq_true] at ok
  obtain ⟨hal, hk⟩ := ok
  have hal' : AllAlike ds := fun d hd d' hd' => hal d hd d' hd'
  rcases hk with hk | hk
  · have ht : ∀ d, d ∈ ds → ∃ xs, d = .tuple xs := fun d hd => by
      have := hk d hd
      cases d with
      | tuple xs => exact ⟨xs, rfl⟩
      | _ => exact absurd this (by simp)
    rcases Classical.em (∃ d, d ∈ ds ∧ noItem d = true) with hn | hn
    · exact sortsAt_mix e hal' ht hn hu
    · refine SortsAt.data e hal' (.inl fun d hd => ?_) hu
      obtain ⟨xs, rfl⟩ := ht d hd
      cases xs with
      | nil => exact absurd ⟨_, hd, rfl⟩ hn
      | cons x r => exact ⟨x, r, rfl⟩
  · refine SortsAt.data e hal' (.inr fun d hd => ?_) hu
    have := hk d hd
    cases d with
    | tuple xs => exact absurd this (by simp)
    | none => exact absurd this (by simp)
    | _ => exact ⟨(by intro z; cases z), (by intro _ z; cases z)⟩
end
end Um

namespace Um
open L2 PySem PySem.Spec PyProof.Rows

/-! ## Values as trees; what stands for them in the heap -/
inductive D where
  | non | bl (b : Bool) | int (i : Int) | str (s : Str) | ty (n : String) | cl (c : Str)
  | lst (xs : List D) | scr (xs : List D) | tup (xs : List D)
  | ins (c : Str) (ns : List Str) (xs : List D)
  | dic (ks : List Key) (xs : List D)
  | fdic (ks : List Key) (xs : List D)
  /-- a dict whose keys are tuples of ints -/
  | tdic (ks : List (List Int)) (xs : List D)
  /-- a tuple of the module (a constant) -/
  | ktup (xs : List D)
  /-- a reference to a thing of the store -/
  | ptr (n : Nat)
/-- what is fixed through a def: where classes stand, where the things of the store stand, what they hold -/
structure Ca where
  c : Str → Addr
  l : Nat → Option Addr
  s : List D
instance : CoeFun Ca (fun _ => Str → Addr) := ⟨Ca.c⟩

theorem TupHO.rd0 {m : Nat} {xs : List V} {u : HO} (h : TupHO m xs u) {H : Hp} {p : Addr} (e : H p = some u) : Rd H p (.tup xs) := by
  rcases h with ⟨_, rfl⟩ | ⟨_, o, _, _, rfl⟩
  · exact .inl e
  · exact .inr ⟨o, e⟩
theorem TupHO.sq {K : PySem.W.Frag} {m : Nat} {xs : List V} {u : HO} (h : TupHO m xs u) {H : Hp} {p : Addr} (e : H p = some u) : SqT K H p xs := by
  rcases h with ⟨_, rfl⟩ | ⟨_, o, _, _, rfl⟩
  · exact .inl (.inl e)
  · exact .inl (.inr ⟨o, e⟩)
/-- the claim's way with tuples -/
abbrev tmK : Str := Str.ofString ""
structure SqN (K : PySem.W.Frag) (ca : Ca) (F : Hp) (p : Addr) (xs : List V) : Prop where
  t : SqT K F p xs
  n : ca tmK = 1 → ∃ o : Obj, ((∃ u, F p = some (.frz o u)) ∨ K.lookup p = some o) ∧ o.cls = .type "tuple" ∧ o.dict = none
  x : ca tmK = 2 → F p = some (.tup xs)
theorem SqN.at {K : PySem.W.Frag} {ca : Ca} {H : Hp} {p : Addr} {xs : List V} {u : HO} (h : TupHO (ca tmK) xs u) (e : H p = some u) : SqN K ca H p xs where
  t := h.sq e
  n := fun z => by
    rcases h with ⟨q, _⟩ | ⟨_, o, hc, hd, rfl⟩
    · exact absurd z q
    · exact ⟨o, .inl ⟨_, e⟩, hc, hd⟩
  x := fun z => by
    rcases h with ⟨_, rfl⟩ | ⟨q, _⟩
    · exact e
    · rw [z] at q; exact absurd q (by decide)
theorem SqN.new {K : PySem.W.Frag} {ca : Ca} {H : Hp} {p : Addr} {xs : List V} {u : HO} (h : TupHO (ca tmK) xs u) : SqN K ca (upd H p u) p xs where
  t := .inl h.rd
  n := fun e => by
    rcases h with ⟨z, _⟩ | ⟨_, o, hc, hd, rfl⟩
    · exact absurd e z
    · exact ⟨o, .inl ⟨_, upd_same⟩, hc, hd⟩
  x := fun e => by
    rcases h with ⟨_, rfl⟩ | ⟨z, _⟩
    · exact upd_same
    · rw [e] at z; exact absurd z (by decide)

/-- the dict at a: its rows are keys (tuples of ints), where each key stands, what it holds -/
def tdφ (a : Addr) (xs : List (List Int × Addr × V)) : Heap → Prop := fun h => (a == sysModules) = false ∧ xs.length ≤ sizeLine ∧ ∃ us : List (List Key × Addr × Value),
  Paired (fun (p : List Int × Addr × V) (q : List Key × Addr × Value) => q.1 = p.1.map Sum.inl ∧ q.2.1 = p.2.1 ∧ RelV p.2.2 q.2.2) xs us ∧
  ∃ o es ep, h.get? a = some o ∧ o.ExactDict ∧ o.data = .dict es ep ∧ (∀ (P : Program) (w : World), es.toList = us.map (entryOfKey (tupleKind (mixKind P w)))) ∧ (us.map (·.1)).Nodup
mutual
inductive Rep (K : PySem.W.Frag) (ca : Ca) (F : Hp) : V → D → Prop
  | non : Rep K ca F .non .non
  | bl (b : Bool) : Rep K ca F (.bl b) (.bl b)
  | int (i : Int) : Rep K ca F (.int i) (.int i)
  | str (s : Str) : Rep K ca F (.str s) (.str s)
  | ty (n : String) : Rep K ca F (.ty n) (.ty n)
  | cl (c : Str) : Rep K ca F (.ref (ca c)) (.cl c)
  | lst {p : Addr} {vs : List V} {ds : List D} (h : F p = some (.lst vs)) (r : Reps K ca F vs ds) : Rep K ca F (.ref p) (.lst ds)
  | scr {p : Addr} {vs : List V} {ds : List D} (h : SqL K F p vs) (r : Reps K ca F vs ds) : Rep K ca F (.ref p) (.scr ds)
  | tup {p : Addr} {vs : List V} {ds : List D} (h : SqN K ca F p vs) (r : Reps K ca F vs ds) : Rep K ca F (.ref p) (.tup ds)
  | ins {p dx : Addr} {c : Str} {ns : List Str} {fs : List (Str × V)} {ds : List D} (h : F p = some (.ins (ca c) dx fs)) (hn : fs.map (·.1) = ns) (r : Reps K ca F (fs.map (·.2)) ds) : Rep K ca F (.ref p) (.ins c ns ds)
  | dic {p : Addr} {ks : List Key} {kvs : List (Key × V)} {ds : List D} (h : F p = some (.dK kvs)) (hn : kvs.map (·.1) = ks) (r : Reps K ca F (kvs.map (·.2)) ds) : Rep K ca F (.ref p) (.dic ks ds)
  | fdic {p : Addr} {o : Obj} {ks : List Key} {kvs : List (Key × V)} {ds : List D} (h : F p = some (.frz o (.dK kvs))) (hn : kvs.map (·.1) = ks) (r : Reps K ca F (kvs.map (·.2)) ds) : Rep K ca F (.ref p) (.fdic ks ds)
  | tdic {p : Addr} {xs : List (List Int × Addr × V)} {ks : List (List Int)} {ds : List D} (h : F p = some (.ext (tdφ p xs))) (hn : xs.map (·.1) = ks) (hk : ∀ x ∈ xs, SqT K F x.2.1 (x.1.map V.int)) (r : Reps K ca F (xs.map (·.2.2)) ds) : Rep K ca F (.ref p) (.tdic ks ds)
  | ktup {p : Addr} {vs : List V} {ds : List D} (h : SqT K F p vs) (r : Reps K ca F vs ds) : Rep K ca F (.ref p) (.ktup ds)
  | ptr {n : Nat} {p : Addr} (h : ca.l n = some p) : Rep K ca F (.ref p) (.ptr n)
inductive Reps (K : PySem.W.Frag) (ca : Ca) (F : Hp) : List V → List D → Prop
  | nil : Reps K ca F [] []
  | cons {v : V} {d : D} {vs : List V} {ds : List D} (h : Rep K ca F v d) (r : Reps K ca F vs ds) : Reps K ca F (v :: vs) (d :: ds)
end

def Le (F H : Hp) : Prop := ∀ a o, F a = some o → H a = some o
theorem Le.refl (H : Hp) : Le H H := fun _ _ h => h
theorem Le.trans {A B C : Hp} (a : Le A B) (b : Le B C) : Le A C := fun x o h => b x o (a x o h)
theorem Le.rd {F H : Hp} (e : Le F H) {a : Addr} {u : HO} (h : Rd F a u) : Rd H a u := by
  rcases h with h | ⟨o, h⟩
  · exact Or.inl (e a _ h)
  · exact Or.inr ⟨o, e a _ h⟩
theorem Le.l {K : PySem.W.Frag} {F H : Hp} (e : Le F H) {a : Addr} {xs : List V} (h : SqL K F a xs) : SqL K H a xs := by
  rcases h with h | h
  · exact Or.inl (e.rd h)
  · exact Or.inr h
theorem Le.t {K : PySem.W.Frag} {F H : Hp} (e : Le F H) {a : Addr} {xs : List V} (h : SqT K F a xs) : SqT K H a xs := by
  rcases h with h | h
  · exact Or.inl (e.rd h)
  · exact Or.inr h
theorem Le.n {K : PySem.W.Frag} {ca : Ca} {F H : Hp} (e : Le F H) {a : Addr} {xs : List V} (h : SqN K ca F a xs) : SqN K ca H a xs where
  t := e.t h.t
  n := fun z => by
    obtain ⟨o, q, r⟩ := h.n z
    rcases q with ⟨u, q⟩ | q
    · exact ⟨o, .inl ⟨u, e _ _ q⟩, r⟩
    · exact ⟨o, .inr q, r⟩
  x := fun z => e _ _ (h.x z)
theorem Le.new {H : Hp} {p : Addr} {o : HO} (h : H p = none) : Le H (upd H p o) := fun a u e => by
  rw [upd_ne (ne_of_none e h)]; exact e
theorem Le.free {F H : Hp} (e : Le F H) {p : Addr} (h : H p = none) : F p = none := by
  cases h1 : F p with
  | none => rfl
  | some o => rw [e p o h1] at h; cases h

section
variable {K : PySem.W.Frag} {ca : Ca} {F F' : Hp}
mutual
theorem Rep.mono (e : Le F F') : ∀ {v : V} {d : D}, Rep K ca F v d → Rep K ca F' v d
  | _, _, .non => .non
  | _, _, .bl b => .bl b
  | _, _, .int i => .int i
  | _, _, .str s => .str s
  | _, _, .ty s => .ty s
  | _, _, .cl s => .cl s
  | _, _, .lst h r => .lst (e _ _ h) (Reps.mono e r)
  | _, _, .scr h r => .scr (e.l h) (Reps.mono e r)
  | _, _, .tup h r => .tup (e.n h) (Reps.mono e r)
  | _, _, .ins h hn r => .ins (e _ _ h) hn (Reps.mono e r)
  | _, _, .dic h hn r => .dic (e _ _ h) hn (Reps.mono e r)
  | _, _, .fdic h hn r => .fdic (e _ _ h) hn (Reps.mono e r)
  | _, _, .tdic h hn hk r => .tdic (e _ _ h) hn (fun x hx => e.t (hk x hx)) (Reps.mono e r)
  | _, _, .ktup h r => .ktup (e.t h) (Reps.mono e r)
  | _, _, .ptr h => .ptr h
theorem Reps.mono (e : Le F F') : ∀ {vs : List V} {ds : List D}, Reps K ca F vs ds → Reps K ca F' vs ds
  | _, _, .nil => .nil
  | _, _, .cons h r => .cons (Rep.mono e h) (Reps.mono e r)
end
theorem Reps.length {vs : List V} {ds : List D} (r : Reps K ca F vs ds) : vs.length = ds.length := by
  induction vs generalizing ds with
  | nil => cases r; rfl
  | cons v vs ih => cases r with | cons h r => rw [List.length_cons, List.length_cons, ih r]
theorem Reps.get {vs : List V} {ds : List D} (r : Reps K ca F vs ds) {i : Nat} {d : D} (h : ds[i]? = some d) : ∃ v, vs[i]? = some v ∧ Rep K ca F v d := by
  induction vs generalizing ds i with
  | nil => cases r; simp at h
  | cons v vs ih =>
    cases r with
    | cons q r =>
      cases i with
      | zero => simp at h; subst h; exact ⟨v, rfl, q⟩
      | succ i => simpa using ih r (by simpa using h)
theorem Reps.get' {vs : List V} {ds : List D} (r : Reps K ca F vs ds) {i : Nat} {v : V} (h : vs[i]? = some v) : ∃ d, ds[i]? = some d ∧ Rep K ca F v d := by
  induction vs generalizing ds i with
  | nil => simp at h
  | cons v vs ih =>
    cases r with
    | cons q r =>
      cases i with
      | zero => simp at h; subst h; exact ⟨_, rfl, q⟩
      | succ i => simpa using ih r (by simpa using h)
theorem Reps.append {vs ws : List V} {ds es : List D} (r : Reps K ca F vs ds) (q : Reps K ca F ws es) : Reps K ca F (vs ++ ws) (ds ++ es) := by
  induction vs generalizing ds with
  | nil => cases r; exact q
  | cons v vs ih => cases r with | cons h r => exact .cons h (ih r)
theorem Reps.snoc {vs : List V} {v : V} {ds : List D} {d : D} (r : Reps K ca F vs ds) (q : Rep K ca F v d) : Reps K ca F (vs ++ [v]) (ds ++ [d]) := r.append (.cons q .nil)
theorem Reps.take {vs : List V} {ds : List D} (r : Reps K ca F vs ds) (n : Nat) : Reps K ca F (vs.take n) (ds.take n) := by
  induction vs generalizing ds n with
  | nil => cases r; simpa using Reps.nil
  | cons v vs ih =>
    cases r with
    | cons h r =>
      cases n with
      | zero => exact .nil
      | succ n => exact .cons h (ih r n)
theorem Reps.drop {vs : List V} {ds : List D} (r : Reps K ca F vs ds) (n : Nat) : Reps K ca F (vs.drop n) (ds.drop n) := by
  induction vs generalizing ds n with
  | nil => cases r; simpa using Reps.nil
  | cons v vs ih =>
    cases r with
    | cons h r =>
      cases n with
      | zero => exact .cons h r
      | succ n => exact ih r n
theorem Reps.set {vs : List V} {ds : List D} (r : Reps K ca F vs ds) {v : V} {d : D} (q : Rep K ca F v d) (n : Nat) : Reps K ca F (vs.set n v) (ds.set n d) := by
  induction vs generalizing ds n with
  | nil => cases r; simpa using Reps.nil
  | cons w vs ih =>
    cases r with
    | cons h r =>
      cases n with
      | zero => exact .cons q r
      | succ n => exact .cons h (ih r n)
theorem Reps.ints (ns : List Int) : Reps K ca F (ns.map V.int) (ns.map D.int) := by
  induction ns with
  | nil => exact .nil
  | cons n ns ih => exact .cons (.int n) ih
theorem Reps.ints_inv {vs : List V} {ns : List Int} (r : Reps K ca F vs (ns.map D.int)) : vs = ns.map V.int := by
  induction ns generalizing vs with
  | nil => cases r; rfl
  | cons n ns ih =>
    cases r with
    | cons h r => cases h; rw [ih r]; rfl
theorem Reps.strs_inv {vs : List V} {ns : List Str} (r : Reps K ca F vs (ns.map D.str)) : vs = ns.map V.str := by
  induction ns generalizing vs with
  | nil => cases r; rfl
  | cons n ns ih =>
    cases r with
    | cons h r => cases h; rw [ih r]; rfl
end

/-! ## Growth: F is what is known and stays, H the heap -/
structure Go (F H F' H' : Hp) : Prop where
  f : Le F F'
  h : Le H H'
  fh : Le F' H'
  fr : ∀ p o, H p = some o → F p = none → F' p = none
theorem Go.refl {F H : Hp} (e : Le F H) : Go F H F H := ⟨Le.refl F, Le.refl H, e, fun _ _ _ h => h⟩
theorem Go.trans {F H F1 H1 F2 H2 : Hp} (a : Go F H F1 H1) (b : Go F1 H1 F2 H2) : Go F H F2 H2 :=
  ⟨a.f.trans b.f, a.h.trans b.h, b.fh, fun p o h n => b.fr p o (a.h p o h) (a.fr p o h n)⟩
/-- a new thing that is known from then on -/
theorem Go.new {F H : Hp} (e : Le F H) {p : Addr} (hp : H p = none) (o : HO) : Go F H (upd F p o) (upd H p o) := by
  refine ⟨Le.new (e.free hp), Le.new hp, fun a u q => ?_, fun q u hq n => ?_⟩
  · by_cases h : a = p
    · subst h; rw [upd_same] at q ⊢; exact q
    · rw [upd_ne h] at q ⊢; exact e a u q
  · rw [upd_ne (ne_of_none hq hp)]; exact n
/-- a new thing that is not (yet) known -/
theorem Go.hid {F H : Hp} (e : Le F H) {p : Addr} (hp : H p = none) (o : HO) : Go F H F (upd H p o) :=
  ⟨Le.refl F, Le.new hp, e.trans (Le.new hp), fun _ _ _ n => n⟩

/-! ## Results -/
structure Exc where
  cls : Str
  ns : List Str
  ds : List D
inductive R (α : Type) where
  | ok (a : α) | er (x : Exc) | bad
def R.bind {α β : Type} (r : R α) (k : α → R β) : R β := match r with
  | .ok a => k a
  | .er x => .er x
  | .bad => .bad
def R.map {α β : Type} (f : α → β) (r : R α) : R β := r.bind fun a => .ok (f a)
@[simp] theorem R.bind_ok {α β : Type} (a : α) (k : α → R β) : (R.ok a).bind k = k a := (Eq.refl _).trans (Eq.refl _)
@[simp] theorem R.bind_er {α β : Type} (x : Exc) (k : α → R β) : (R.er x : R α).bind k = .er x := (Eq.refl _).trans (Eq.refl _)
@[simp] theorem R.bind_bad {α β : Type} (k : α → R β) : (R.bad : R α).bind k = .bad := (Eq.refl _).trans (Eq.refl _)
@[simp] theorem R.map_ok {α β : Type} (f : α → β) (a : α) : R.map f (.ok a) = .ok (f a) := (Eq.refl _).trans (Eq.refl _)
end Um

namespace Um
open L2 PySem PySem.Spec PyProof.Rows

/-! ## Weakest readings of the syntax -/
def WE (X : Cx) (e : Expr) : TE := fun σ H Q => ∃ t, PE X e t ∧ t σ H Q
def WT (X : Cx) (e : Expr) : TT := fun σ H Q => ∃ t, PT X e t ∧ t σ H Q
def WA (X : Cx) (es : List Expr) : TA := fun σ H Q => ∃ t, PA X es t ∧ t σ H Q
def WS (X : Cx) (st : Stmt) : TS := fun D σ H => ∃ t, PS X st t ∧ t D σ H
def WSs (X : Cx) (ss : List Stmt) : TS := fun D σ H => ∃ t, PSs X ss t ∧ t D σ H
def WI (X : Cx) (tg it : Expr) : TI := fun σ H R => ∃ t, PI X tg it t ∧ t σ H R
def WO (X : Cx) (e : Option Expr) : TO := fun σ H Q => ∃ t, PO X e t ∧ t σ H Q
section
variable {X : Cx}
theorem pe_W {e : Expr} : PE X e (WE X e) := ⟨fun pins s σ H Q I ⟨_, p, h⟩ => p.run pins s σ H Q I h⟩
theorem pt_W {e : Expr} : PT X e (WT X e) := ⟨fun pins s σ H Q I ⟨_, p, h⟩ => p.run pins s σ H Q I h⟩
theorem pa_W {es : List Expr} : PA X es (WA X es) := ⟨fun pos pins s σ H Q I ⟨_, p, h⟩ => p.run pos pins s σ H Q I h⟩
theorem ps_W {st : Stmt} : PS X st (WS X st) := ⟨fun pins s σ H D I ⟨_, p, h⟩ => p.run pins s σ H D I h⟩
theorem pss_W {ss : List Stmt} : PSs X ss (WSs X ss) := ⟨fun pins s σ H D I ⟨_, p, h⟩ => p.run pins s σ H D I h⟩
theorem pi_W {tg it : Expr} : PI X tg it (WI X tg it) := ⟨fun pins s σ H R I ⟨_, p, h⟩ => p.run pins s σ H R I h⟩
end

/-! ## Modes of a result: data (v), to be read (r), a new thing of one's own (o) -/
/-- shapes of trees of one's own: data, a list, a tuple of such -/
inductive Sh where | v | o | t (s : Sh) | n | c (h s : Sh) | w deriving DecidableEq
inductive Md where | v | r | o | q (s : Sh) deriving DecidableEq
section
variable (K : PySem.W.Frag) (ca : Ca)
def OwnAt (F H : Hp) (p : Addr) (d : D) : Prop :=
  (∃ (vs : List V) (ds : List D), d = .lst ds ∧ H p = some (.lst vs) ∧ Reps K ca F vs ds) ∨
  (∃ (kvs : List (Key × V)) (ks : List Key) (ds : List D), d = .dic ks ds ∧ H p = some (.dK kvs) ∧ kvs.map (·.1) = ks ∧ Reps K ca F (kvs.map (·.2)) ds) ∨
  (∃ (c : Str) (dx : Addr) (ns : List Str) (fs : List (Str × V)) (ds : List D), d = .ins c ns ds ∧ H p = some (.ins (ca c) dx fs) ∧ fs.map (·.1) = ns ∧ Reps K ca F (fs.map (·.2)) ds) ∨
  (∃ (xs : List (List Int × Addr × V)) (ks : List (List Int)) (ds : List D), d = .tdic ks ds ∧ H p = some (.ext (tdφ p xs)) ∧ xs.map (·.1) = ks ∧ (∀ x ∈ xs, SqT K F x.2.1 (x.1.map V.int)) ∧ Reps K ca F (xs.map (·.2.2)) ds)
mutual
/-- no list stands in it -/
def noL : D → Bool
  | .lst _ => false
  | .scr _ => false
  | .tup xs => noLs xs
  | .ins _ _ xs => noLs xs
  | .dic _ xs => noLs xs
  | .fdic _ xs => noLs xs
  | .tdic _ xs => noLs xs
  | .ktup xs => noLs xs
  | _ => true
def noLs : List D → Bool
  | [] => true
  | d :: ds => noL d && noLs ds
end
/-- items: data without lists, or lists of one's own -/
inductive Its (F H : Hp) : List Addr → List V → List D → Prop
  | nil : Its F H [] [] []
  | data {v : V} {d : D} {cs : List Addr} {vs : List V} {ds : List D} (h : Rep K ca F v d) (n : noL d = true) (r : Its F H cs vs ds) : Its F H cs (v :: vs) (d :: ds)
  | own {p : Addr} {us : List V} {es : List D} {cs : List Addr} {vs : List V} {ds : List D} (h : H p = some (.lst us)) (q : Reps K ca F us es) (r : Its F H cs vs ds) : Its F H (p :: cs) (.ref p :: vs) (.lst es :: ds)
mutual
/-- a tree of one's own; its cells -/
inductive Own (F H : Hp) : Sh → List Addr → V → D → Prop
  | leaf {v : V} {d : D} (h : Rep K ca F v d) : Own F H .v [] v d
  | lst {p : Addr} {d : D} (o : OwnAt K ca F H p d) : Own F H .o [p] (.ref p) d
  | tup {p : Addr} {vs : List V} {ds : List D} {s : Sh} {cs : List Addr} {u : HO} (hu : TupHO (ca tmK) vs u) (h : H p = some u) (r : Owns F H s cs vs ds) : Own F H (.t s) (p :: cs) (.ref p) (.tup ds)
  | wd {v : V} {d : D} (h : Rep K ca F v d) (n : noL d = true) : Own F H .w [] v d
  | wl {p : Addr} {vs : List V} {ds : List D} {cs : List Addr} (h : H p = some (.lst vs)) (r : Its K ca F H cs vs ds) : Own F H .w (p :: cs) (.ref p) (.lst ds)
inductive Owns (F H : Hp) : Sh → List Addr → List V → List D → Prop
  | nil : Owns F H .n [] [] []
  | cons {v : V} {d : D} {vs : List V} {ds : List D} {h s : Sh} {c cs : List Addr} (a : Own F H h c v d) (r : Owns F H s cs vs ds) : Owns F H (.c h s) (c ++ cs) (v :: vs) (d :: ds)
end
def AR (F H : Hp) (v : V) (d : D) : Prop := Rep K ca F v d ∨ ∃ p, v = .ref p ∧ OwnAt K ca F H p d
def Res (m : Md) (H F' H' : Hp) (v : V) (d : D) : Prop := match m with
  | .v => Rep K ca F' v d
  | .r => AR K ca F' H' v d
  | .o => ∃ p, v = .ref p ∧ H p = none ∧ F' p = none ∧ OwnAt K ca F' H' p d
  | .q s => ∃ cs : List Addr, cs.Nodup ∧ (∀ p, p ∈ cs → H p = none ∧ F' p = none) ∧ Own K ca F' H' s cs v d
abbrev Ek := Exc → Hp → Hp → Prop
def Post (m : Md) (E : Ek) (F H : Hp) (r : R D) (Q : VK) : Prop := match r with
  | .ok d => ∀ v F' H', Go F H F' H' → Res K ca m H F' H' v d → Q v H'
  | .er x => ∀ F' H', Go F H F' H' → E x F' H'
  | .bad => False
/-- an exception that stands -/
def ExcRep (F : Hp) (c : Value) (d : Option Addr) (x : Exc) : Prop :=
  c = .ref (ca x.cls) ∧ ((x.ns = [] ∧ x.ds = [] ∧ d = none) ∨ ∃ p fs, d = some p ∧ F p = some (.xd fs) ∧ fs.map (·.1) = x.ns ∧ Reps K ca F (fs.map (·.2)) x.ds)
def ekOf (W : WX) (σ : L2.St) : Ek := fun x F' H' => ∀ c d, ExcRep K ca F' c d x → W c d σ H'
theorem ExcRep.mono {F F' : Hp} {c : Value} {d : Option Addr} {x : Exc} (g : Le F F') (h : ExcRep K ca F c d x) : ExcRep K ca F' c d x := by
  obtain ⟨h1, h2 | ⟨p, fs, e1, e2, e3, e4⟩⟩ := h
  · exact ⟨h1, .inl h2⟩
  · exact ⟨h1, .inr ⟨p, fs, e1, g _ _ e2, e3, Reps.mono g e4⟩⟩
/-! ## Slots -/
inductive Sl where
  | d (x : D) | b (x : D) | o (x : D) | p (u : V) | e (a : Addr) (dd : Option Addr) (x : Exc)
abbrev En := List (Option Sl)
def SlOk (H0 F H : Hp) (v : V) : Sl → Prop
  | .d x => Rep K ca F v x
  | .b x => Rep K ca F v x ∨ ∃ p, v = .ref p ∧ OwnAt K ca F H0 p x
  | .o x => ∃ p, v = .ref p ∧ H0 p = none ∧ F p = none ∧ OwnAt K ca F H p x
  | .p u => v = u
  | .e a dd x => v = .ref a ∧ ExcRep K ca F (.ref (ca x.cls)) dd x
/-- what the store holds stands -/
def StK (F H : Hp) : Prop := ∀ (n : Nat) (x : D), ca.s[n]? = some x → ∃ a, ca.l n = some a ∧ OwnAt K ca F H a x
structure EnOk (H0 F H : Hp) (σ : L2.St) (env : En) : Prop where
  h0 : Le H0 H
  len : σ.length = env.length
  at_ : ∀ (i : Nat) s, env[i]? = some (some s) → ∃ v, σ[i]? = some (some v) ∧ SlOk K ca H0 F H v s
  own : ∀ (i j : Nat) (x y : D), env[i]? = some (some (.o x)) → env[j]? = some (some (.o y)) → σ[i]? = σ[j]? → i = j
  st : StK K ca F H0
end
section
variable {K : PySem.W.Frag} {ca : Ca} {H0 F H F' H' : Hp}
theorem OwnAt.mono {p : Addr} {d : D} (g : Go F H F' H') (h : OwnAt K ca F H p d) : OwnAt K ca F' H' p d := by
  rcases h with ⟨vs, ds, e, h, r⟩ | ⟨kvs, ks, ds, e, h, q, r⟩ | ⟨c, dx, ns, fs, ds, e, h, q, r⟩ | ⟨xs4, ks4, ds4, e4, h4, n4, k4, r4⟩
  · exact .inl ⟨vs, ds, e, g.h _ _ h, r.mono g.f⟩
  · exact .inr (.inl ⟨kvs, ks, ds, e, g.h _ _ h, q, r.mono g.f⟩)
  · exact .inr (.inr (.inl ⟨c, dx, ns, fs, ds, e, g.h _ _ h, q, r.mono g.f⟩))
  · exact .inr (.inr (.inr ⟨xs4, ks4, ds4, e4, g.h _ _ h4, n4, fun x hx => g.f.t (k4 x hx), r4.mono g.f⟩))
theorem OwnAt.monoF {p : Addr} {d : D} (g : Le F F') (h : OwnAt K ca F H p d) : OwnAt K ca F' H p d := by
  rcases h with ⟨vs, ds, e, h, r⟩ | ⟨kvs, ks, ds, e, h, q, r⟩ | ⟨c, dx, ns, fs, ds, e, h, q, r⟩ | ⟨xs4, ks4, ds4, e4, h4, n4, k4, r4⟩
  · exact .inl ⟨vs, ds, e, h, r.mono g⟩
  · exact .inr (.inl ⟨kvs, ks, ds, e, h, q, r.mono g⟩)
  · exact .inr (.inr (.inl ⟨c, dx, ns, fs, ds, e, h, q, r.mono g⟩))
  · exact .inr (.inr (.inr ⟨xs4, ks4, ds4, e4, h4, n4, fun x hx => g.t (k4 x hx), r4.mono g⟩))
theorem OwnAt.monoH {p : Addr} {d : D} (g : Le H H') (h : OwnAt K ca F H p d) : OwnAt K ca F H' p d := by
  rcases h with ⟨vs, ds, e, h, r⟩ | ⟨kvs, ks, ds, e, h, q, r⟩ | ⟨c, dx, ns, fs, ds, e, h, q, r⟩ | ⟨xs4, ks4, ds4, e4, h4, n4, k4, r4⟩
  · exact .inl ⟨vs, ds, e, g _ _ h, r⟩
  · exact .inr (.inl ⟨kvs, ks, ds, e, g _ _ h, q, r⟩)
  · exact .inr (.inr (.inl ⟨c, dx, ns, fs, ds, e, g _ _ h, q, r⟩))
  · exact .inr (.inr (.inr ⟨xs4, ks4, ds4, e4, g _ _ h4, n4, k4, r4⟩))
theorem OwnAt.some {p : Addr} {d : D} (h : OwnAt K ca F H p d) : ∃ o, H p = some o := by
  rcases h with ⟨vs, ds, e, h, r⟩ | ⟨kvs, ks, ds, e, h, q, r⟩ | ⟨c, dx, ns, fs, ds, e, h, q, r⟩ | ⟨xs4, ks4, ds4, e4, h4, n4, k4, r4⟩
  · exact ⟨_, h⟩
  · exact ⟨_, h⟩
  · exact ⟨_, h⟩
  · exact ⟨_, h4⟩
theorem AR.mono {v : V} {d : D} (g : Go F H F' H') (h : AR K ca F H v d) : AR K ca F' H' v d := by
  rcases h with h | ⟨p, e, h⟩
  · exact .inl (h.mono g.f)
  · exact .inr ⟨p, e, h.mono g⟩
theorem SlOk.mono {v : V} {s : Sl} (g : Go F H F' H') (h : SlOk K ca H0 F H v s) : SlOk K ca H0 F' H' v s := by
  cases s with
  | p u => exact h
  | e a dd x => exact ⟨h.1, ExcRep.mono _ _ g.f h.2⟩
  | d x => exact Rep.mono g.f h
  | b x =>
    rcases h with h | ⟨p, e, h⟩
    · exact .inl (h.mono g.f)
    · exact .inr ⟨p, e, h.monoF g.f⟩
  | o x =>
    obtain ⟨p, e, n, f, h⟩ := h
    obtain ⟨u, hu⟩ := h.some
    exact ⟨p, e, n, g.fr p u hu f, h.mono g⟩
theorem StK.monoF (g : Le F F') (h : StK K ca F H) : StK K ca F' H := fun n x e => by
  obtain ⟨a, h1, h2⟩ := h n x e
  exact ⟨a, h1, h2.monoF g⟩
theorem StK.monoH (g : Le H H') (h : StK K ca F H) : StK K ca F H' := fun n x e => by
  obtain ⟨a, h1, h2⟩ := h n x e
  exact ⟨a, h1, h2.monoH g⟩
theorem StK.of0 (e : ca.s = []) : StK K ca F H := fun n x h => by rw [e] at h; simp at h
theorem EnOk.mono {σ : L2.St} {env : En} (g : Go F H F' H') (h : EnOk K ca H0 F H σ env) : EnOk K ca H0 F' H' σ env :=
  ⟨h.h0.trans g.h, h.len, fun i s e => by obtain ⟨v, h1, h2⟩ := h.at_ i s e; exact ⟨v, h1, h2.mono g⟩, h.own, h.st.monoF g.f⟩
theorem EnOk.stH {σ : L2.St} {env : En} (g : Go F H F' H') (h : EnOk K ca H0 F H σ env) : StK K ca F' H' := ((h.mono g).st).monoH (h.mono g).h0
theorem Post.mono {m : Md} {E : Ek} {r : R D} {Q : VK} (g : Go F H F' H') (h : Post K ca m E F H r Q) : Post K ca m E F' H' r Q := by
  cases r with
  | ok d =>
    intro v F2 H2 g2 q
    refine h v F2 H2 (g.trans g2) ?_
    cases m with
    | v => exact q
    | r => exact q
    | o =>
      obtain ⟨p, e, n, f, o⟩ := q
      exact ⟨p, e, g.h.free n, f, o⟩
    | q s =>
      obtain ⟨cs, nd, n, o⟩ := q
      exact ⟨cs, nd, fun p hp => ⟨g.h.free (n p hp).1, (n p hp).2⟩, o⟩
  | er x => exact fun F2 H2 g2 => h F2 H2 (g.trans g2)
  | bad => exact h
end

/-! ## Judgements -/
section
variable (ca : Ca) (X : Cx) (W : WX) (H0 : Hp)
/-- an expression's -/
def SE (m : Md) (env : En) (e : Expr) (r : R D) : Prop := ∀ F H σ Q, Le F H → EnOk X.K ca H0 F H σ env → Post X.K ca m (ekOf X.K ca W σ) F H r Q → WE X e σ H Q
def PostB (E : Ek) (F H : Hp) (r : R Bool) (Q : Bool → Hp → Prop) : Prop := match r with
  | .ok b => ∀ F' H', Go F H F' H' → Q b H'
  | .er x => ∀ F' H', Go F H F' H' → E x F' H'
  | .bad => False
/-- a test's -/
def ST (env : En) (e : Expr) (r : R Bool) : Prop := ∀ F H σ Q, Le F H → EnOk X.K ca H0 F H σ env → PostB (ekOf X.K ca W σ) F H r Q → WT X e σ H Q
inductive ARs (K : PySem.W.Frag) (ca : Ca) (F H : Hp) : List Md → List V → List D → Prop
  | nil : ARs K ca F H [] [] []
  | consR {ms vs ds v d} (h : AR K ca F H v d) (r : ARs K ca F H ms vs ds) : ARs K ca F H (.r :: ms) (v :: vs) (d :: ds)
  | consV {ms vs ds v d} (h : Rep K ca F v d) (r : ARs K ca F H ms vs ds) : ARs K ca F H (.v :: ms) (v :: vs) (d :: ds)
def PostA (ms : List Md) (E : Ek) (F H : Hp) (r : R (List D)) (Q : List V → Hp → Prop) : Prop := match r with
  | .ok ds => ∀ vs F' H', Go F H F' H' → ARs X.K ca F' H' ms vs ds → Q vs H'
  | .er x => ∀ F' H', Go F H F' H' → E x F' H'
  | .bad => False
/-- an argument list's -/
def SA (ms : List Md) (env : En) (es : List Expr) (r : R (List D)) : Prop := ∀ F H σ Q, Le F H → EnOk X.K ca H0 F H σ env → PostA ca X ms (ekOf X.K ca W σ) F H r Q → WA X es σ H Q
end
section
variable {K : PySem.W.Frag} {ca : Ca} {X : Cx} {W : WX} {H0 F H F' H' : Hp}
theorem ARs.mono {ms : List Md} {vs : List V} {ds : List D} (g : Go F H F' H') (h : ARs K ca F H ms vs ds) : ARs K ca F' H' ms vs ds := by
  induction h with
  | nil => exact .nil
  | consR h _ ih => exact .consR (h.mono g) ih
  | consV h _ ih => exact .consV (h.mono g.f) ih
theorem ARs.length {ms : List Md} {vs : List V} {ds : List D} (h : ARs K ca F H ms vs ds) : vs.length = ds.length := by
  induction h with
  | nil => rfl
  | consR h _ ih => rw [List.length_cons, List.length_cons, ih]
  | consV h _ ih => rw [List.length_cons, List.length_cons, ih]
theorem PostB.mono {E : Ek} {r : R Bool} {Q : Bool → Hp → Prop} (g : Go F H F' H') (h : PostB E F H r Q) : PostB E F' H' r Q := by
  cases r with
  | ok b => exact fun F2 H2 g2 => h F2 H2 (g.trans g2)
  | er x => exact fun F2 H2 g2 => h F2 H2 (g.trans g2)
  | bad => exact h
theorem PostA.mono {ms : List Md} {E : Ek} {r : R (List D)} {Q : List V → Hp → Prop} (g : Go F H F' H') (h : PostA ca X ms E F H r Q) : PostA ca X ms E F' H' r Q := by
  cases r with
  | ok b => exact fun vs F2 H2 g2 => h vs F2 H2 (g.trans g2)
  | er x => exact fun F2 H2 g2 => h F2 H2 (g.trans g2)
  | bad => exact h
/-- one step, then the rest -/
theorem SE.then {m m' : Md} {env : En} {e : Expr} {r : R D} {k : D → R D} {σ : L2.St} {Q : VK} {G : VK} (h : SE ca X W H0 m env e r) (le : Le F H) (ok : EnOk X.K ca H0 F H σ env)
    (hp : Post X.K ca m' (ekOf X.K ca W σ) F H (r.bind k) Q)
    (hg : ∀ d v F' H', r = .ok d → Go F H F' H' → Res X.K ca m H F' H' v d → EnOk X.K ca H0 F' H' σ env → Post X.K ca m' (ekOf X.K ca W σ) F' H' (k d) Q → G v H') : WE X e σ H G := by
  refine h F H σ G le ok ?_
  cases r with
  | ok d => exact fun v F' H' g q => hg d v F' H' rfl g q (ok.mono g) (hp.mono g)
  | er x => exact hp
  | bad => exact hp
theorem SE.thenB {m : Md} {env : En} {e : Expr} {r : R D} {k : D → R Bool} {σ : L2.St} {Q : Bool → Hp → Prop} {G : VK} (h : SE ca X W H0 m env e r) (le : Le F H) (ok : EnOk X.K ca H0 F H σ env)
    (hp : PostB (ekOf X.K ca W σ) F H (r.bind k) Q)
    (hg : ∀ d v F' H', r = .ok d → Go F H F' H' → Res X.K ca m H F' H' v d → EnOk X.K ca H0 F' H' σ env → PostB (ekOf X.K ca W σ) F' H' (k d) Q → G v H') : WE X e σ H G := by
  refine h F H σ G le ok ?_
  cases r with
  | ok d => exact fun v F' H' g q => hg d v F' H' rfl g q (ok.mono g) (hp.mono g)
  | er x => exact hp
  | bad => exact hp
theorem SE.thenA {m : Md} {ms : List Md} {env : En} {e : Expr} {r : R D} {k : D → R (List D)} {σ : L2.St} {Q : List V → Hp → Prop} {G : VK} (h : SE ca X W H0 m env e r) (le : Le F H) (ok : EnOk X.K ca H0 F H σ env)
    (hp : PostA ca X ms (ekOf X.K ca W σ) F H (r.bind k) Q)
    (hg : ∀ d v F' H', r = .ok d → Go F H F' H' → Res X.K ca m H F' H' v d → EnOk X.K ca H0 F' H' σ env → PostA ca X ms (ekOf X.K ca W σ) F' H' (k d) Q → G v H') : WE X e σ H G := by
  refine h F H σ G le ok ?_
  cases r with
  | ok d => exact fun v F' H' g q => hg d v F' H' rfl g q (ok.mono g) (hp.mono g)
  | er x => exact hp
  | bad => exact hp
theorem SA.then {ms : List Md} {m' : Md} {env : En} {es : List Expr} {r : R (List D)} {k : List D → R D} {σ : L2.St} {Q : VK} {G : List V → Hp → Prop} (h : SA ca X W H0 ms env es r) (le : Le F H) (ok : EnOk X.K ca H0 F H σ env)
    (hp : Post X.K ca m' (ekOf X.K ca W σ) F H (r.bind k) Q)
    (hg : ∀ ds vs F' H', r = .ok ds → Go F H F' H' → ARs X.K ca F' H' ms vs ds → EnOk X.K ca H0 F' H' σ env → Post X.K ca m' (ekOf X.K ca W σ) F' H' (k ds) Q → G vs H') : WA X es σ H G := by
  refine h F H σ G le ok ?_
  cases r with
  | ok d => exact fun v F' H' g q => hg d v F' H' rfl g q (ok.mono g) (hp.mono g)
  | er x => exact hp
  | bad => exact hp
theorem ST.thenB {env : En} {e : Expr} {r : R Bool} {k : Bool → R Bool} {σ : L2.St} {Q : Bool → Hp → Prop} {G : Bool → Hp → Prop} (h : ST ca X W H0 env e r) (le : Le F H) (ok : EnOk X.K ca H0 F H σ env)
    (hp : PostB (ekOf X.K ca W σ) F H (r.bind k) Q)
    (hg : ∀ b F' H', r = .ok b → Go F H F' H' → EnOk X.K ca H0 F' H' σ env → PostB (ekOf X.K ca W σ) F' H' (k b) Q → G b H') : WT X e σ H G := by
  refine h F H σ G le ok ?_
  cases r with
  | ok d => exact fun F' H' g => hg d F' H' rfl g (ok.mono g) (hp.mono g)
  | er x => exact hp
  | bad => exact hp
theorem ST.thenE {m' : Md} {env : En} {e : Expr} {r : R Bool} {k : Bool → R D} {σ : L2.St} {Q : VK} {G : Bool → Hp → Prop} (h : ST ca X W H0 env e r) (le : Le F H) (ok : EnOk X.K ca H0 F H σ env)
    (hp : Post X.K ca m' (ekOf X.K ca W σ) F H (r.bind k) Q)
    (hg : ∀ b F' H', r = .ok b → Go F H F' H' → EnOk X.K ca H0 F' H' σ env → Post X.K ca m' (ekOf X.K ca W σ) F' H' (k b) Q → G b H') : WT X e σ H G := by
  refine h F H σ G le ok ?_
  cases r with
  | ok d => exact fun F' H' g => hg d F' H' rfl g (ok.mono g) (hp.mono g)
  | er x => exact hp
  | bad => exact hp

/-! ### changes of mode -/
/-- what is new becomes data -/
theorem OwnAt.freeze {p : Addr} {d : D} (g : Go F H F' H') (h : OwnAt K ca F' H' p d) (hn : F' p = none) (hz : H p = none) : ∃ F2, Go F H F2 H' ∧ Rep K ca F2 (.ref p) d := by
  obtain ⟨u, hu⟩ := h.some
  refine ⟨upd F' p u, ⟨g.f.trans (Le.new hn), g.h, fun a o e => ?_, fun q o hq n => ?_⟩, ?_⟩
  · by_cases ha : a = p
    · subst ha; rw [upd_same] at e; cases e; exact hu
    · rw [upd_ne ha] at e; exact g.fh a o e
  · rw [upd_ne (ne_of_none hq hz)]; exact g.fr q o hq n
  · rcases h with ⟨vs, ds, e, h, r⟩ | ⟨kvs, ks, ds, e, h, q, r⟩ | ⟨c, dx, ns, fs, ds, e, h, q, r⟩ | ⟨xs4, ks4, ds4, e4, h4, n4, k4, r4⟩
    · rw [h] at hu; cases hu; subst e
      exact .lst upd_same (r.mono (Le.new hn))
    · rw [h] at hu; cases hu; subst e
      exact .dic upd_same q (r.mono (Le.new hn))
    · rw [h] at hu; cases hu; subst e
      exact .ins upd_same q (r.mono (Le.new hn))
    · rw [h4] at hu; cases hu; subst e4
      exact .tdic upd_same n4 (fun x hx => (Le.new hn).t (k4 x hx)) (r4.mono (Le.new hn))
theorem se_o2v {env : En} {e : Expr} {r : R D} (h : SE ca X W H0 .o env e r) : SE ca X W H0 .v env e r := fun F H σ Q le ok hp => by
  refine h F H σ Q le ok ?_
  cases r with
  | ok d =>
    intro v F' H' g ⟨p, e, n, f, o⟩
    obtain ⟨F2, g2, q⟩ := o.freeze g f n
    rw [e]
    exact hp _ F2 H' g2 q
  | er x => exact hp
  | bad => exact hp
theorem se_v2r {env : En} {e : Expr} {r : R D} (h : SE ca X W H0 .v env e r) : SE ca X W H0 .r env e r := fun F H σ Q le ok hp => by
  refine h F H σ Q le ok ?_
  cases r with
  | ok d => exact fun v F' H' g q => hp v F' H' g (.inl q)
  | er x => exact hp
  | bad => exact hp
theorem se_o2r {env : En} {e : Expr} {r : R D} (h : SE ca X W H0 .o env e r) : SE ca X W H0 .r env e r := se_v2r (se_o2v h)
/-- no list, no dict, no instance -/
def plain (d : D) : R D := match d with
  | .lst _ => .bad
  | .ins _ _ _ => .bad
  | .dic _ _ => .bad
  | .tdic _ _ => .bad
  | d => .ok d
theorem se_r2v {env : En} {e : Expr} {r : R D} (h : SE ca X W H0 .r env e r) : SE ca X W H0 .v env e (r.bind plain) := fun F H σ Q le ok hp => by
  refine h.then le ok hp fun d v F' H' _ g q _ hp' => ?_
  rcases q with q | ⟨p, e, o⟩
  · cases d with
    | lst xs => exact hp'.elim
    | ins c ns xs => exact hp'.elim
    | dic ks xs => exact hp'.elim
    | tdic ks xs => exact hp'.elim
    | _ => exact hp' v F' H' (Go.refl g.fh) q
  · rcases o with ⟨vs, ds, e, _⟩ | ⟨kvs, ks, ds, e, _⟩ | ⟨c, dx, ns, fs, ds, e, _⟩ | ⟨_, _, _, e, _⟩
    · subst e; exact hp'.elim
    · subst e; exact hp'.elim
    · subst e; exact hp'.elim
    · subst e; exact hp'.elim

/-! ### names, constants -/
theorem se_d {env : En} {i : Nat} {x : Str} {pos : Pos} {d : D} (he : env[i]? = some (some (.d d)) := by rfl) (hN : X.N[i]? = some x := by rfl)
    (hv : Vis X.env.scope x := by first | exact Or.inl rfl | exact Or.inr (Or.inl rfl) | exact Or.inr (Or.inr rfl)) (hd : (x == ("__debug__" : Str)) = false := by decide) (hcd : (x == ("__classdict__" : Str)) = false := by decide) :
    SE ca X W H0 .v env (.Name x pos) (.ok d) := fun F H σ Q le ok hp => by
  obtain ⟨v, h1, h2⟩ := ok.at_ i _ he
  exact ⟨_, pe_var hN hv hd hcd, v, h1, hp v F H (Go.refl le) h2⟩
theorem se_b {env : En} {i : Nat} {x : Str} {pos : Pos} {d : D} (he : env[i]? = some (some (.b d)) := by rfl) (hN : X.N[i]? = some x := by rfl)
    (hv : Vis X.env.scope x := by first | exact Or.inl rfl | exact Or.inr (Or.inl rfl) | exact Or.inr (Or.inr rfl)) (hd : (x == ("__debug__" : Str)) = false := by decide) (hcd : (x == ("__classdict__" : Str)) = false := by decide) :
    SE ca X W H0 .r env (.Name x pos) (.ok d) := fun F H σ Q le ok hp => by
  obtain ⟨v, h1, h2⟩ := ok.at_ i _ he
  refine ⟨_, pe_var hN hv hd hcd, v, h1, hp v F H (Go.refl le) ?_⟩
  rcases h2 with h | ⟨p, e, h⟩
  · exact .inl h
  · exact .inr ⟨p, e, h.monoH ok.h0⟩
theorem se_ow {env : En} {i : Nat} {x : Str} {pos : Pos} {d : D} (he : env[i]? = some (some (.o d)) := by rfl) (hN : X.N[i]? = some x := by rfl)
    (hv : Vis X.env.scope x := by first | exact Or.inl rfl | exact Or.inr (Or.inl rfl) | exact Or.inr (Or.inr rfl)) (hd : (x == ("__debug__" : Str)) = false := by decide) (hcd : (x == ("__classdict__" : Str)) = false := by decide) :
    SE ca X W H0 .r env (.Name x pos) (.ok d) := fun F H σ Q le ok hp => by
  obtain ⟨v, h1, h2⟩ := ok.at_ i _ he
  obtain ⟨p, e, _, _, h⟩ := h2
  exact ⟨_, pe_var hN hv hd hcd, v, h1, hp v F H (Go.refl le) (.inr ⟨p, e, h⟩)⟩
theorem se_int {env : En} {i : Int} {j pos} : SE ca X W H0 .v env (.Constant (.int i) j pos) (.ok (.int i)) := fun F H σ Q le ok hp => ⟨_, pe_int, hp _ F H (Go.refl le) (.int i)⟩
theorem se_bl {env : En} {b : Bool} {j pos} : SE ca X W H0 .v env (.Constant (.bool b) j pos) (.ok (.bl b)) := fun F H σ Q le ok hp => ⟨_, pe_bl, hp _ F H (Go.refl le) (.bl b)⟩
theorem se_non {env : En} {j pos} : SE ca X W H0 .v env (.Constant .none j pos) (.ok .non) := fun F H σ Q le ok hp => ⟨_, pe_non, hp _ F H (Go.refl le) .non⟩
theorem se_str {env : En} {x : Str} {j pos} : SE ca X W H0 .v env (.Constant (.str x) j pos) (.ok (.str x)) := fun F H σ Q le ok hp => ⟨_, pe_str, hp _ F H (Go.refl le) (.str x)⟩
/-- a constant of the module -/
def Glb (K : PySem.W.Frag) (ca : Ca) (mg : Str → Option Value) (x : Str) (d : D) : Prop := ∃ u v, mg x = some u ∧ RelV v u ∧ ∀ F, Rep K ca F v d
theorem se_glb {env : En} {x : Str} {pos : Pos} {d : D} (h : Glb X.K ca X.mg x d) (hg : Gl X x := by rfl) (hd : (x == ("__debug__" : Str)) = false := by decide) : SE ca X W H0 .v env (.Name x pos) (.ok d) := fun F H σ Q le ok hp => by
  obtain ⟨u, v, hm, r, q⟩ := h
  exact ⟨_, pe_glob hg hm r hd, hp v F H (Go.refl le) (q F)⟩

/-! ### argument lists -/
def R.cons (a : R D) (b : R (List D)) : R (List D) := a.bind fun d => b.bind fun ds => .ok (d :: ds)
theorem sa_nil {env : En} : SA ca X W H0 [] env [] (.ok []) := fun F H σ Q le ok hp => ⟨_, pa_nil, hp [] F H (Go.refl le) .nil⟩
theorem sa_r {ms : List Md} {env : En} {e : Expr} {es : List Expr} {a : R D} {b : R (List D)} (h : SE ca X W H0 .r env e a) (hr : SA ca X W H0 ms env es b)
    (hs : starEach (e :: es) X.env = (false, eval e X.env) :: starEach es X.env := by rfl) : SA ca X W H0 (.r :: ms) env (e :: es) (R.cons a b) := fun F H σ Q le ok hp => by
  refine ⟨_, pa_cons pe_W pa_W hs, h.thenA le ok hp fun d v F' H' _ g q ok' hp' => ?_⟩
  refine hr F' H' σ _ g.fh ok' ?_
  cases b with
  | ok ds => exact fun vs F2 H2 g2 q2 => hp' _ F2 H2 g2 (.consR (AR.mono g2 q) q2)
  | er x => exact hp'
  | bad => exact hp'
theorem sa_v {ms : List Md} {env : En} {e : Expr} {es : List Expr} {a : R D} {b : R (List D)} (h : SE ca X W H0 .v env e a) (hr : SA ca X W H0 ms env es b)
    (hs : starEach (e :: es) X.env = (false, eval e X.env) :: starEach es X.env := by rfl) : SA ca X W H0 (.v :: ms) env (e :: es) (R.cons a b) := fun F H σ Q le ok hp => by
  refine ⟨_, pa_cons pe_W pa_W hs, h.thenA le ok hp fun d v F' H' _ g q ok' hp' => ?_⟩
  refine hr F' H' σ _ g.fh ok' ?_
  cases b with
  | ok ds => exact fun vs F2 H2 g2 q2 => hp' _ F2 H2 g2 (.consV (Rep.mono g2.f q) q2)
  | er x => exact hp'
  | bad => exact hp'
theorem ARs.reps {ms : List Md} {vs : List V} {ds : List D} (h : ARs K ca F H ms vs ds) (hm : ∀ m ∈ ms, m = Md.v) : Reps K ca F vs ds := by
  induction h with
  | nil => exact .nil
  | consR h _ ih => exact absurd (hm _ List.mem_cons_self) (by intro z; cases z)
  | consV h _ ih => exact .cons h (ih fun m hm' => hm m (List.mem_cons_of_mem _ hm'))

/-! ### displays -/
def short (ds : List D) : Prop := ds.length ≤ sizeLine
instance (ds : List D) : Decidable (short ds) := inferInstanceAs (Decidable (_ ≤ _))
def dTup (ds : List D) : R D := if short ds then .ok (.tup ds) else .bad
def dLst (ds : List D) : R D := if short ds then .ok (.lst ds) else .bad
theorem se_tup {ms : List Md} {env : En} {es : List Expr} {b : R (List D)} {x1 : _} {pos : Pos} (h : SA ca X W H0 ms env es b) (hm : ∀ m ∈ ms, m = Md.v := by decide) : SE ca X W H0 .v env (.Tuple es x1 pos) (b.bind dTup) := fun F H σ Q le ok hp => by
  refine ⟨_, pe_tupN (m := ca tmK) pa_W, h.then le ok hp fun ds vs F' H' _ g q ok' hp' => ?_⟩
  have r := q.reps hm
  unfold dTup at hp'
  split at hp'
  · rename_i hs
    refine ⟨by rw [r.length]; exact hs, fun p u hpn hu => hp' _ _ _ (Go.new g.fh hpn _) (.tup (SqN.new hu) (r.mono (Le.new (g.fh.free hpn))))⟩
  · exact hp'.elim
theorem se_lst {ms : List Md} {env : En} {es : List Expr} {b : R (List D)} {pos : Pos} (h : SA ca X W H0 ms env es b) (hm : ∀ m ∈ ms, m = Md.v := by decide) : SE ca X W H0 .o env (.List es pos) (b.bind dLst) := fun F H σ Q le ok hp => by
  refine ⟨_, pe_lst pa_W, h.then le ok hp fun ds vs F' H' _ g q ok' hp' => ?_⟩
  have r := q.reps hm
  unfold dLst at hp'
  split at hp'
  · rename_i hs
    refine ⟨by rw [r.length]; exact hs, fun p hpn => hp' _ _ _ (Go.hid g.fh hpn _) ⟨p, rfl, hpn, g.fh.free hpn, .inl ⟨vs, ds, rfl, upd_same, r⟩⟩⟩
  · exact hp'.elim
end
end Um

namespace Um
open L2 PySem PySem.Spec PyProof.Rows

/-! ## Operators by values -/
def WOp (X : Cx) (f : Value → Value → Sem Value) : R2 := fun x y H Q => ∃ r, OpR X f r ∧ r x y H Q
theorem op_W {X : Cx} {f : Value → Value → Sem Value} : OpR X f (WOp X f) := fun pins s σ H x y v u Q I rx ry ⟨_, h, q⟩ => h pins s σ H x y v u Q I rx ry q
def WCall (X : Cx) (f : Value) : List V → Hp → VK → Prop := fun xs H Q => ∃ r, CallR X f r ∧ r xs H Q
theorem call_W {X : Cx} {f : Value} : CallR X f (WCall X f) := fun pins s σ H xs us Q I r ⟨_, h, q⟩ => h pins s σ H xs us Q I r q
def WIx (X : Cx) : R2 := fun x y H Q => ∃ r, IxR X r ∧ r x y H Q
theorem ix_W {X : Cx} : IxR X (WIx X) := fun a b pins s σ H x y v u Q I rx ry ⟨_, h, q⟩ e => h a b pins s σ H x y v u Q I rx ry q e
def WSl (X : Cx) : V → Option Int → Option Int → Hp → VK → Prop := fun x lo hi H Q => ∃ r, SlR X r ∧ r x lo hi H Q
theorem sl_W {X : Cx} : SlR X (WSl X) := fun pins s σ H x v vl vu lo hi sl Q I rx hs h1 h2 ⟨_, h, q⟩ => h pins s σ H x v vl vu lo hi sl Q I rx hs h1 h2 q

def R.op2 {α : Type} (g : D → D → R α) (a b : R D) : R α := a.bind fun x => b.bind fun y => g x y
@[simp] theorem R.op2_ok {α : Type} (g : D → D → R α) (a b : D) : R.op2 g (.ok a) (.ok b) = g a b := (Eq.refl _).trans (Eq.refl _)

section
variable (K : PySem.W.Frag) (ca : Ca) (X : Cx)
/-- what g tells of a two-place operation -/
def OV (m : Md) (f : Value → Value → Sem Value) (g : D → D → R D) : Prop := ∀ (E : Ek) F H x y dx dy Q, Le F H → AR X.K ca F H x dx → AR X.K ca F H y dy → Post X.K ca m E F H (g dx dy) Q → WOp X f x y H Q
/-- .. with the store at hand -/
def OVS (m : Md) (f : Value → Value → Sem Value) (g : D → D → R D) : Prop := ∀ (E : Ek) F H x y dx dy Q, Le F H → AR X.K ca F H x dx → AR X.K ca F H y dy → StK X.K ca F H → Post X.K ca m E F H (g dx dy) Q → WOp X f x y H Q
def OB (f : Value → Value → Sem Value) (g : D → D → R Bool) : Prop := ∀ (E : Ek) F H x y dx dy (Q : VK), Le F H → AR X.K ca F H x dx → AR X.K ca F H y dy → PostB E F H (g dx dy) (fun b H' => Q (.bl b) H') → WOp X f x y H Q
end
section
variable {ca : Ca} {X : Cx} {W : WX} {H0 F H F' H' : Hp} {env : En} {a b c : Expr} {ra rb rc : R D} {pos : Pos}
theorem se_op {m : Md} {op : Operator} {g : D → D → R D} (ho : OV ca X m (binaryOp op) g) (ha : SE ca X W H0 .r env a ra) (hb : SE ca X W H0 .r env b rb) : SE ca X W H0 m env (.BinOp a op b pos) (R.op2 g ra rb) := fun F H σ Q le ok hp => by
  refine ⟨_, pe_op op_W pe_W pe_W, ha.then le ok hp fun d v F1 H1 _ g1 q1 ok1 hp1 => hb.then g1.fh ok1 hp1 fun e u F2 H2 _ g2 q2 ok2 hp2 => ?_⟩
  exact ho _ F2 H2 v u d e Q g2.fh (AR.mono g2 q1) q2 hp2
theorem se_opS {m : Md} {op : Operator} {g : D → D → R D} (ho : OVS ca X m (binaryOp op) g) (ha : SE ca X W H0 .r env a ra) (hb : SE ca X W H0 .r env b rb) : SE ca X W H0 m env (.BinOp a op b pos) (R.op2 g ra rb) := fun F H σ Q le ok hp => by
  refine ⟨_, pe_op op_W pe_W pe_W, ha.then le ok hp fun d v F1 H1 _ g1 q1 ok1 hp1 => hb.then g1.fh ok1 hp1 fun e u F2 H2 _ g2 q2 ok2 hp2 => ?_⟩
  exact ho _ F2 H2 v u d e Q g2.fh (AR.mono g2 q1) q2 (ok2.st.monoH ok2.h0) hp2
/-- a Bool as a value -/
def R.bool (r : R Bool) : R D := r.bind fun b => .ok (.bl b)
@[simp] theorem R.bool_ok (b : Bool) : R.bool (.ok b) = .ok (.bl b) := (Eq.refl _).trans (Eq.refl _)
theorem Post.bool {m : Md} {E : Ek} {r : R Bool} {Q : VK} (hm : m = .v) (h : Post X.K ca m E F H (R.bool r) Q) : PostB E F H r (fun b H' => Q (.bl b) H') := by
  subst hm
  cases r with
  | ok b => exact fun F' H' g => h (.bl b) F' H' g (.bl b)
  | er x => exact h
  | bad => exact h
theorem Post.op2b {m : Md} {E : Ek} {g : D → D → R Bool} {Q : VK} {ra rb : R D} (h : Post X.K ca m E F H (R.bool (R.op2 g ra rb)) Q) : Post X.K ca m E F H (ra.bind fun x => rb.bind fun y => R.bool (g x y)) Q := by
  cases ra <;> cases rb <;> exact h
theorem se_cmp {op : CmpOp} {g : D → D → R Bool} (ho : OB ca X (compareOp op) g) (ha : SE ca X W H0 .r env a ra) (hb : SE ca X W H0 .r env b rb) (hm : behindInMarks op b = false := by first | exact nomark _ | rfl) :
    SE ca X W H0 .v env (.Compare a [op] [b] pos) (R.bool (R.op2 g ra rb)) := fun F H σ Q le ok hp => by
  refine ⟨_, pe_cmpR op_W pe_W pe_W hm, ha.then le ok hp.op2b fun d v F1 H1 _ g1 q1 ok1 hp1 => hb.then g1.fh ok1 hp1 fun e u F2 H2 _ g2 q2 ok2 hp2 => ?_⟩
  exact ho _ F2 H2 v u d e Q g2.fh (AR.mono g2 q1) q2 (Post.bool rfl hp2)
theorem st_cmp {op : CmpOp} {g : D → D → R Bool} (ho : OB ca X (compareOp op) g) (ha : SE ca X W H0 .r env a ra) (hb : SE ca X W H0 .r env b rb) (hm : behindInMarks op b = false := by first | exact nomark _ | rfl) :
    ST ca X W H0 env (.Compare a [op] [b] pos) (R.op2 g ra rb) := fun F H σ Q le ok hp => by
  refine ⟨_, pt_cmpR op_W pe_W pe_W hm, ha.thenB le ok hp fun d v F1 H1 _ g1 q1 ok1 hp1 => hb.thenB g1.fh ok1 hp1 fun e u F2 H2 _ g2 q2 ok2 hp2 => ?_⟩
  refine ho (ekOf X.K ca W σ) F2 H2 v u d e _ g2.fh (AR.mono g2 q1) q2 ?_
  revert hp2
  cases g d e with
  | ok b => exact fun hp2 F3 H3 g3 => ⟨b, rfl, hp2 F3 H3 g3⟩
  | er x => exact id
  | bad => exact id
/-- a op b op' c -/
def R.chain (g g' : D → D → R Bool) (a b c : R D) : R Bool := a.bind fun x => b.bind fun y => (g x y).bind fun k => if k = true then c.bind fun z => g' y z else .ok false
theorem st_chain {op op' : CmpOp} {g g' : D → D → R Bool} (ho : OB ca X (compareOp op) g) (ho' : OB ca X (compareOp op') g') (ha : SE ca X W H0 .r env a ra) (hb : SE ca X W H0 .r env b rb) (hc : SE ca X W H0 .r env c rc)
    (hm : lastMarks [op, op'] [b, c] = false := by with_unfolding_all rfl) : ST ca X W H0 env (.Compare a [op, op'] [b, c] pos) (R.chain g g' ra rb rc) := fun F H σ Q le ok hp => by
  refine ⟨_, pt_chain op_W op_W pe_W pe_W pe_W hm, ha.thenB le ok hp fun d v F1 H1 _ g1 q1 ok1 hp1 => hb.thenB g1.fh ok1 hp1 fun e u F2 H2 _ g2 q2 ok2 hp2 => ?_⟩
  refine ho (ekOf X.K ca W σ) F2 H2 v u d e _ g2.fh (AR.mono g2 q1) q2 ?_
  revert hp2
  cases g d e with
  | er x => exact id
  | bad => exact id
  | ok k =>
    intro hp2 F3 H3 g3
    refine ⟨k, rfl, ?_⟩
    cases k with
    | false => exact ⟨false, rfl, hp2 F3 H3 g3⟩
    | true =>
      show WE X c σ H3 _
      refine hc.thenB g3.fh (ok2.mono g3) (PostB.mono g3 hp2) fun f w F4 H4 _ g4 q4 _ hp4 => ?_
      refine ho' (ekOf X.K ca W σ) F4 H4 u w e f _ g4.fh (AR.mono (g3.trans g4) q2) q4 ?_
      revert hp4
      cases g' e f with
      | ok b => exact fun hp4 F5 H5 g5 => ⟨b, rfl, hp4 F5 H5 g5⟩
      | er x => exact id
      | bad => exact id
theorem se_chain {op op' : CmpOp} {g g' : D → D → R Bool} (ho : OB ca X (compareOp op) g) (ho' : OB ca X (compareOp op') g') (ha : SE ca X W H0 .r env a ra) (hb : SE ca X W H0 .r env b rb) (hc : SE ca X W H0 .r env c rc)
    (hm : lastMarks [op, op'] [b, c] = false := by with_unfolding_all rfl) : SE ca X W H0 .v env (.Compare a [op, op'] [b, c] pos) (R.bool (R.chain g g' ra rb rc)) := fun F H σ Q le ok hp => by
  have hp' := Post.bool rfl hp
  refine ⟨_, pe_chain op_W op_W pe_W pe_W pe_W hm, ha.thenB le ok hp' fun d v F1 H1 _ g1 q1 ok1 hp1 => hb.thenB g1.fh ok1 hp1 fun e u F2 H2 _ g2 q2 ok2 hp2 => ?_⟩
  refine ho (ekOf X.K ca W σ) F2 H2 v u d e _ g2.fh (AR.mono g2 q1) q2 ?_
  revert hp2
  cases g d e with
  | er x => exact id
  | bad => exact id
  | ok k =>
    intro hp2 F3 H3 g3
    refine ⟨k, rfl, ?_⟩
    cases k with
    | false => exact hp2 F3 H3 g3
    | true =>
      show WE X c σ H3 _
      refine hc.thenB g3.fh (ok2.mono g3) (PostB.mono g3 hp2) fun f w F4 H4 _ g4 q4 _ hp4 => ?_
      exact ho' (ekOf X.K ca W σ) F4 H4 u w e f _ g4.fh (AR.mono (g3.trans g4) q2) q4 hp4

/-! ### what a readable value is -/
theorem ar_int {K : PySem.W.Frag} {v : V} {i : Int} (h : AR K ca F H v (.int i)) : v = .int i := by
  rcases h with h | ⟨p, _, ⟨vs, ds, e, _⟩ | ⟨kvs, ks, ds, e, _⟩ | ⟨_, _, _, _, _, e, _⟩ | ⟨_, _, _, e, _⟩⟩
  · cases h; rfl
  · cases e
  · cases e
  · cases e
  · cases e
theorem ar_bl {K : PySem.W.Frag} {v : V} {i : Bool} (h : AR K ca F H v (.bl i)) : v = .bl i := by
  rcases h with h | ⟨p, _, ⟨vs, ds, e, _⟩ | ⟨kvs, ks, ds, e, _⟩ | ⟨_, _, _, _, _, e, _⟩ | ⟨_, _, _, e, _⟩⟩
  · cases h; rfl
  · cases e
  · cases e
  · cases e
  · cases e
theorem ar_str {K : PySem.W.Frag} {v : V} {i : Str} (h : AR K ca F H v (.str i)) : v = .str i := by
  rcases h with h | ⟨p, _, ⟨vs, ds, e, _⟩ | ⟨kvs, ks, ds, e, _⟩ | ⟨_, _, _, _, _, e, _⟩ | ⟨_, _, _, e, _⟩⟩
  · cases h; rfl
  · cases e
  · cases e
  · cases e
  · cases e
theorem ar_non {K : PySem.W.Frag} {v : V} (h : AR K ca F H v .non) : v = .non := by
  rcases h with h | ⟨p, _, ⟨vs, ds, e, _⟩ | ⟨kvs, ks, ds, e, _⟩ | ⟨_, _, _, _, _, e, _⟩ | ⟨_, _, _, e, _⟩⟩
  · cases h; rfl
  · cases e
  · cases e
  · cases e
  · cases e
theorem ar_rep {K : PySem.W.Frag} {v : V} {d : D} (h : AR K ca F H v d) (h1 : ∀ ds, d ≠ .lst ds) (h2 : ∀ ks ds, d ≠ .dic ks ds) (h3 : ∀ c ns ds, d ≠ .ins c ns ds) (h4 : ∀ ks ds, d ≠ .tdic ks ds := by intro _ _ z; cases z) : Rep K ca F v d := by
  rcases h with h | ⟨p, _, ⟨vs, ds, e, _⟩ | ⟨kvs, ks, ds, e, _⟩ | ⟨_, _, _, _, _, e, _⟩ | ⟨_, _, _, e, _⟩⟩
  · exact h
  · exact absurd e (h1 _)
  · exact absurd e (h2 _ _)
  · exact absurd e (h3 _ _ _)
  · exact absurd e (h4 _ _)
theorem ar_lst {K : PySem.W.Frag} {v : V} {ds : List D} (le : Le F H) (h : AR K ca F H v (.lst ds)) : ∃ p vs, v = .ref p ∧ H p = some (.lst vs) ∧ Reps K ca F vs ds := by
  rcases h with h | ⟨p, e1, ⟨vs, ds, e, h, r⟩ | ⟨kvs, ks, ds, e, _⟩ | ⟨_, _, _, _, _, e, _⟩ | ⟨_, _, _, e, _⟩⟩
  · cases h with | lst h r => exact ⟨_, _, rfl, le _ _ h, r⟩
  · cases e; exact ⟨p, vs, e1, h, r⟩
  · cases e
  · cases e
  · cases e
theorem ar_scr {K : PySem.W.Frag} {v : V} {ds : List D} (le : Le F H) (h : AR K ca F H v (.scr ds)) : ∃ p vs, v = .ref p ∧ SqL K H p vs ∧ Reps K ca F vs ds := by
  rcases h with h | ⟨p, e1, ⟨vs, ds, e, h, r⟩ | ⟨kvs, ks, ds, e, _⟩ | ⟨_, _, _, _, _, e, _⟩ | ⟨_, _, _, e, _⟩⟩
  · cases h with | scr h r => exact ⟨_, _, rfl, le.l h, r⟩
  · cases e
  · cases e
  · cases e
  · cases e
theorem ar_tup {K : PySem.W.Frag} {v : V} {ds : List D} (h : AR K ca F H v (.tup ds)) : ∃ p vs, v = .ref p ∧ SqN K ca F p vs ∧ Reps K ca F vs ds := by
  rcases h with h | ⟨p, e1, ⟨vs, ds, e, h, r⟩ | ⟨kvs, ks, ds, e, _⟩ | ⟨_, _, _, _, _, e, _⟩ | ⟨_, _, _, e, _⟩⟩
  · cases h with | tup h r => exact ⟨_, _, rfl, h, r⟩
  · cases e
  · cases e
  · cases e
  · cases e
theorem ar_dic {K : PySem.W.Frag} {v : V} {ks : List Key} {ds : List D} (le : Le F H) (h : AR K ca F H v (.dic ks ds)) : ∃ p kvs, v = .ref p ∧ H p = some (.dK kvs) ∧ kvs.map (·.1) = ks ∧ Reps K ca F (kvs.map (·.2)) ds := by
  rcases h with h | ⟨p, e1, ⟨vs, ds, e, h, r⟩ | ⟨kvs, ks', ds', e, h, q, r⟩ | ⟨_, _, _, _, _, e, _⟩ | ⟨_, _, _, e, _⟩⟩
  · cases h with | dic h hn r => exact ⟨_, _, rfl, le _ _ h, hn, r⟩
  · cases e
  · cases e; exact ⟨p, kvs, e1, h, q, r⟩
  · cases e
  · cases e
theorem ar_ins {K : PySem.W.Frag} {v : V} {c : Str} {ns : List Str} {ds : List D} (le : Le F H) (h : AR K ca F H v (.ins c ns ds)) : ∃ p dx fs, v = .ref p ∧ H p = some (.ins (ca c) dx fs) ∧ fs.map (·.1) = ns ∧ Reps K ca F (fs.map (·.2)) ds := by
  rcases h with h | ⟨p, e1, ⟨vs, ds, e, h, r⟩ | ⟨kvs, ks', ds', e, h, q, r⟩ | ⟨_, dx, _, fs, _, e, h, q, r⟩ | ⟨_, _, _, e, _⟩⟩
  · cases h with | ins h hn r => exact ⟨_, _, _, rfl, le _ _ h, hn, r⟩
  · cases e
  · cases e
  · cases e; exact ⟨p, dx, fs, e1, h, q, r⟩
  · cases e

/-! ### arithmetic -/
def dSub : D → D → R D
  | .int a, .int b => .ok (.int (a - b))
  | _, _ => .bad
def dMul : D → D → R D
  | .int a, .int b => if (-(2 ^ 64) < a ∧ a < 2 ^ 64) ∨ (-(2 ^ 64) < b ∧ b < 2 ^ 64) then .ok (.int (a * b)) else .bad
  | _, _ => .bad
def dFdiv : D → D → R D
  | .int a, .int b => if b ≠ 0 ∧ b.natAbs < 1073741824 then .ok (.int (a.fdiv b)) else .bad
  | _, _ => .bad
def dMod : D → D → R D
  | .int a, .int b => if b ≠ 0 then .ok (.int (a.fmod b)) else .bad
  | _, _ => .bad
def dPow : D → D → R D
  | .int a, .int b => if 0 ≤ b ∧ b ≤ 1000000 ∧ a.natAbs < 2 ^ 64 then .ok (.int (a ^ b.toNat)) else .bad
  | _, _ => .bad
theorem ov_int {m : Md} {f : Value → Value → Sem Value} {C : Int → Int → Prop} {h : Int → Int → Int} {g : D → D → R D} (ho : OpR X f (rI C fun i j => .int (h i j))) (hm : m = .v)
    (hg : ∀ x y r, g x y = r → r = .bad ∨ ∃ i j, x = .int i ∧ y = .int j ∧ C i j ∧ r = .ok (.int (h i j))) : OV ca X m f g := fun E F H x y dx dy Q le hx hy hp => by
  subst hm
  rcases hg dx dy _ rfl with e | ⟨i, j, rfl, rfl, hc, e⟩
  · rw [e] at hp; exact hp.elim
  · rw [e] at hp
    exact ⟨_, ho, i, j, ar_int hx, ar_int hy, hc, hp _ F H (Go.refl le) (.int _)⟩
theorem ov_sub : OV ca X .v (binaryOp .Sub) dSub := fun E F H x y dx dy Q le hx hy hp => by
  unfold dSub at hp
  split at hp
  · rename_i i j
    exact ⟨_, op_sub, i, j, ar_int hx, ar_int hy, hp _ F H (Go.refl le) (.int _)⟩
  · exact hp.elim
theorem ov_mul : OV ca X .v (binaryOp .Mult) dMul := fun E F H x y dx dy Q le hx hy hp => by
  unfold dMul at hp
  split at hp
  · rename_i i j
    split at hp
    · rename_i hc
      exact ⟨_, op_mul, i, j, ar_int hx, ar_int hy, hc, hp _ F H (Go.refl le) (.int _)⟩
    · exact hp.elim
  · exact hp.elim
theorem ov_fdiv : OV ca X .v (binaryOp .FloorDiv) dFdiv := fun E F H x y dx dy Q le hx hy hp => by
  unfold dFdiv at hp
  split at hp
  · rename_i i j
    split at hp
    · rename_i hc
      exact ⟨_, op_fdivN, i, j, ar_int hx, ar_int hy, hc, hp _ F H (Go.refl le) (.int _)⟩
    · exact hp.elim
  · exact hp.elim
theorem ov_mod : OV ca X .v (binaryOp .Mod) dMod := fun E F H x y dx dy Q le hx hy hp => by
  unfold dMod at hp
  split at hp
  · rename_i i j
    split at hp
    · rename_i hc
      exact ⟨_, op_modN, i, j, ar_int hx, ar_int hy, hc, hp _ F H (Go.refl le) (.int _)⟩
    · exact hp.elim
  · exact hp.elim
theorem ov_pow : OV ca X .v (binaryOp .Pow) dPow := fun E F H x y dx dy Q le hx hy hp => by
  unfold dPow at hp
  split at hp
  · rename_i i j
    split at hp
    · rename_i hc
      exact ⟨_, op_pow, i, j, ar_int hx, ar_int hy, hc, hp _ F H (Go.refl le) (.int _)⟩
    · exact hp.elim
  · exact hp.elim
def dNeg : D → R D
  | .int a => .ok (.int (-a))
  | _ => .bad
theorem se_neg (ha : SE ca X W H0 .r env a ra) : SE ca X W H0 .v env (.UnaryOp .USub a pos) (ra.bind dNeg) := fun F H σ Q le ok hp => by
  refine ⟨_, pe_un un_neg pe_W, ha.then le ok hp fun d v F1 H1 _ g1 q1 ok1 hp1 => ?_⟩
  cases d with
  | int i => exact ⟨i, ar_int q1, hp1 _ F1 H1 (Go.refl g1.fh) (.int _)⟩
  | _ => exact hp1.elim
/-- + : ints, texts, tuples, lists -/
def dAdd : D → D → R D
  | .int a, .int b => .ok (.int (a + b))
  | .str a, .str b => if a.length + b.length ≤ sizeLine then .ok (.str (a ++ b)) else .bad
  | .tup a, .tup b => if a.length + b.length ≤ sizeLine then .ok (.tup (a ++ b)) else .bad
  | .lst a, .lst b => if a.length + b.length ≤ sizeLine then .ok (.lst (a ++ b)) else .bad
  | _, _ => .bad
def dCat : D → D → R D
  | .lst a, .lst b => if a.length + b.length ≤ sizeLine then .ok (.lst (a ++ b)) else .bad
  | _, _ => .bad
theorem ov_cat : OV ca X .o (binaryOp .Add) dCat := fun E F H x y dx dy Q le hx hy hp => by
  unfold dCat at hp
  split at hp
  · rename_i i j
    split at hp
    · rename_i hc
      obtain ⟨p, vs, rfl, h1, r1⟩ := ar_lst le hx
      obtain ⟨q, ws, rfl, h2, r2⟩ := ar_lst le hy
      refine ⟨_, op_cat, p, q, vs, ws, rfl, rfl, h1, h2, by rw [r1.length, r2.length]; exact hc, fun n hn => hp _ F _ (Go.hid le hn _) ⟨n, rfl, hn, le.free hn, .inl ⟨_, _, rfl, upd_same, r1.append r2⟩⟩⟩
    · exact hp.elim
  · exact hp.elim
theorem ov_add : OV ca X .v (binaryOp .Add) dAdd := fun E F H x y dx dy Q le hx hy hp => by
  unfold dAdd at hp
  split at hp
  · rename_i i j
    exact ⟨_, op_add, i, j, ar_int hx, ar_int hy, hp _ F H (Go.refl le) (.int _)⟩
  · rename_i i j
    split at hp
    · rename_i hc
      exact ⟨_, op_add_str, i, j, ar_str hx, ar_str hy, hc, hp _ F H (Go.refl le) (.str _)⟩
    · exact hp.elim
  · rename_i i j
    split at hp
    · rename_i hc
      obtain ⟨p, vs, rfl, h1, r1⟩ := ar_tup hx
      obtain ⟨q, ws, rfl, h2, r2⟩ := ar_tup hy
      refine ⟨_, op_catN (m := ca tmK), p, q, vs, ws, rfl, rfl, le.t h1.t, le.t h2.t, by rw [r1.length, r2.length]; exact hc, fun e => ?_, fun _ e => ?_, fun _ _ n u hn hu => ?_⟩
      · subst e; cases r1
        exact hp _ F H (Go.refl le) (.tup h2 (by simpa using r2))
      · subst e; cases r2
        exact hp _ F H (Go.refl le) (.tup h1 (by simpa using r1))
      · exact hp _ _ _ (Go.new le hn _) (.tup (SqN.new hu) ((r1.append r2).mono (Le.new (le.free hn))))
    · exact hp.elim
  · rename_i i j
    split at hp
    · rename_i hc
      obtain ⟨p, vs, rfl, h1, r1⟩ := ar_lst le hx
      obtain ⟨q, ws, rfl, h2, r2⟩ := ar_lst le hy
      exact ⟨_, op_cat, p, q, vs, ws, rfl, rfl, h1, h2, by rw [r1.length, r2.length]; exact hc, fun n hn => hp _ _ _ (Go.new le hn _) (.lst upd_same ((r1.append r2).mono (Le.new (le.free hn))))⟩
    · exact hp.elim
  · exact hp.elim

/-! ### comparisons -/
def dLt : D → D → R Bool
  | .int a, .int b => .ok (decide (a < b))
  | _, _ => .bad
def dGt : D → D → R Bool
  | .int a, .int b => .ok (decide (b < a))
  | _, _ => .bad
def dGe : D → D → R Bool
  | .int a, .int b => .ok (decide (b ≤ a))
  | _, _ => .bad
def dLe : D → D → R Bool
  | .int a, .int b => .ok (decide (a ≤ b))
  | _, _ => .bad
theorem ob_lt : OB ca X (compareOp .Lt) dLt := fun E F H x y dx dy Q le hx hy hp => by
  unfold dLt at hp
  split at hp
  · rename_i i j; exact ⟨_, op_lt, i, j, ar_int hx, ar_int hy, hp F H (Go.refl le)⟩
  · exact hp.elim
theorem ob_gt : OB ca X (compareOp .Gt) dGt := fun E F H x y dx dy Q le hx hy hp => by
  unfold dGt at hp
  split at hp
  · rename_i i j; exact ⟨_, op_gt, i, j, ar_int hx, ar_int hy, hp F H (Go.refl le)⟩
  · exact hp.elim
theorem ob_ge : OB ca X (compareOp .GtE) dGe := fun E F H x y dx dy Q le hx hy hp => by
  unfold dGe at hp
  split at hp
  · rename_i i j; exact ⟨_, op_ge, i, j, ar_int hx, ar_int hy, hp F H (Go.refl le)⟩
  · exact hp.elim
theorem ob_le : OB ca X (compareOp .LtE) dLe := fun E F H x y dx dy Q le hx hy hp => by
  unfold dLe at hp
  split at hp
  · rename_i i j; exact ⟨_, op_le, i, j, ar_int hx, ar_int hy, hp F H (Go.refl le)⟩
  · exact hp.elim

/-! ### plain data: ==, in -/
mutual
def toPy : D → Option PyData
  | .non => some .none
  | .bl b => some (.bool b)
  | .int i => some (.int i)
  | .str s => some (.str s)
  | .lst xs => (toPys xs).map .list
  | .scr xs => (toPys xs).map .list
  | .tup xs => (toPys xs).map .tuple
  | .ktup xs => (toPys xs).map .tuple
  | _ => none
def toPys : List D → Option (List PyData)
  | [] => some []
  | x :: xs => (toPy x).bind fun y => (toPys xs).map fun ys => y :: ys
end
mutual
theorem rep_dp {K : PySem.W.Frag} (le : Le F H) : ∀ {v : V} {d : D} {p : PyData}, Rep K ca F v d → toPy d = some p → Dp K H v p
  | _, _, _, .non, e => by cases e; exact .non
  | _, _, _, .bl b, e => by cases e; exact .bl b
  | _, _, _, .int b, e => by cases e; exact .int b
  | _, _, _, .str b, e => by cases e; exact .str b
  | _, _, _, .ty b, e => by cases e
  | _, _, _, .lst h r, e => by
    unfold toPy at e
    obtain ⟨ys, e1, rfl⟩ := Option.map_eq_some_iff.mp e
    exact .lst (.inl (.inl (le _ _ h))) (reps_dp le r e1)
  | _, _, _, .scr h r, e => by
    unfold toPy at e
    obtain ⟨ys, e1, rfl⟩ := Option.map_eq_some_iff.mp e
    exact .lst (le.l h) (reps_dp le r e1)
  | _, _, _, .tup h r, e => by
    unfold toPy at e
    obtain ⟨ys, e1, rfl⟩ := Option.map_eq_some_iff.mp e
    exact .tup (le.t h.t) (reps_dp le r e1)
  | _, _, _, .ins h hn r, e => by cases e
  | _, _, _, .dic h hn r, e => by cases e
  | _, _, _, .fdic h hn r, e => by cases e
  | _, _, _, .tdic h hn hk r, e => by cases e
  | _, _, _, .ktup h r, e => by
    unfold toPy at e
    obtain ⟨ys, e1, rfl⟩ := Option.map_eq_some_iff.mp e
    exact .tup (le.t h) (reps_dp le r e1)
  | _, _, _, .ptr h, e => by cases e
theorem reps_dp {K : PySem.W.Frag} (le : Le F H) : ∀ {vs : List V} {ds : List D} {ps : List PyData}, Reps K ca F vs ds → toPys ds = some ps → DpAll K H vs ps
  | _, _, _, .nil, e => by unfold toPys at e; cases e; exact .nil
  | _, _, _, .cons h r, e => by
    unfold toPys at e
    obtain ⟨y, e1, e2⟩ := Option.bind_eq_some_iff.mp e
    obtain ⟨ys, e3, rfl⟩ := Option.map_eq_some_iff.mp e2
    exact .cons (rep_dp le h e1) (reps_dp le r e3)
end
theorem ar_dp {K : PySem.W.Frag} {v : V} {d : D} {p : PyData} (le : Le F H) (h : AR K ca F H v d) (e : toPy d = some p) : Dp K H v p := by
  rcases h with h | ⟨q, rfl, ⟨vs, ds, rfl, h, r⟩ | ⟨kvs, ks, ds, rfl, _⟩ | ⟨_, _, _, _, _, rfl, _⟩ | ⟨_, _, _, rfl, _⟩⟩
  · exact rep_dp le h e
  · unfold toPy at e
    obtain ⟨ys, e1, rfl⟩ := Option.map_eq_some_iff.mp e
    exact .lst (.inl (.inl h)) (reps_dp le r e1)
  · cases e
  · cases e
  · cases e
/-- == of plain data -/
def dEq (x y : D) : R Bool := match toPy x, toPy y with
  | some a, some b => if SeqAt.shaped a = true ∧ SeqAt.shaped b = true then .ok (PyData.eqv a b) else .bad
  | _, _ => .bad
def dNe (x y : D) : R Bool := (dEq x y).bind fun b => .ok (!b)
theorem ob_eq (hu : X.A.units + 64 < cLine) : OB ca X (compareOp .Eq) dEq := fun E F H x y dx dy Q le hx hy hp => by
  unfold dEq at hp
  split at hp
  · rename_i a b ea eb
    split at hp
    · rename_i hs
      exact ⟨_, op_eqD hu, a, b, ar_dp le hx ea, ar_dp le hy eb, hs.1, hs.2, hp F H (Go.refl le)⟩
    · exact hp.elim
  · exact hp.elim
theorem ob_ne (hu : X.A.units + 64 < cLine) : OB ca X (compareOp .NotEq) dNe := fun E F H x y dx dy Q le hx hy hp => by
  unfold dNe dEq at hp
  split at hp
  · rename_i a b ea eb
    split at hp
    · rename_i hs
      exact ⟨_, op_neD hu, a, b, ar_dp le hx ea, ar_dp le hy eb, hs.1, hs.2, hp F H (Go.refl le)⟩
    · exact hp.elim
  · exact hp.elim
/-- a number in a list or a tuple of numbers -/
def isInt : D → Option Int
  | .int i => some i
  | _ => none
def intsOf : List D → Option (List Int)
  | [] => some []
  | d :: ds => match isInt d, intsOf ds with
    | some i, some is => some (i :: is)
    | _, _ => none
theorem intsOf_eq : ∀ {ds : List D} {is : List Int}, intsOf ds = some is → ds = is.map D.int
  | [], is, h => by cases h; rfl
  | d :: ds, is, h => by
    unfold intsOf at h
    split at h
    · rename_i i js h1 h2
      cases h
      cases d <;> cases h1
      rw [intsOf_eq h2]; rfl
    · cases h
@[simp] theorem intsOf_map (is : List Int) : intsOf (is.map D.int) = some is := by
  induction is with
  | nil => rfl
  | cons i is ih => simp [intsOf, isInt, ih]
def itemsOf : D → Option (List D)
  | .lst xs => some xs
  | .scr xs => some xs
  | .tup xs => some xs
  | _ => none
theorem inV_ints (i : Int) (is : List Int) : inV (.int i) (is.map V.int) = decide (i ∈ is) := by
  unfold inV
  induction is with
  | nil => rfl
  | cons j is ih =>
    rw [List.map_cons, List.any_cons, ih]
    show (decide (j = i) || decide (i ∈ is)) = decide (i ∈ j :: is)
    simp only [List.mem_cons, Bool.decide_or]
    congr 1
    exact decide_eq_decide.mpr eq_comm
theorem ar_items {K : PySem.W.Frag} {v : V} {d : D} {xs : List D} (le : Le F H) (h : AR K ca F H v d) (e : itemsOf d = some xs) : ∃ p vs, v = .ref p ∧ (SqL K H p vs ∨ SqT K H p vs) ∧ Reps K ca F vs xs := by
  cases d with
  | lst ys => cases e; obtain ⟨p, vs, e1, h1, r⟩ := ar_lst le h; exact ⟨p, vs, e1, .inl (.inl (.inl h1)), r⟩
  | scr ys => cases e; obtain ⟨p, vs, e1, h1, r⟩ := ar_scr le h; exact ⟨p, vs, e1, .inl h1, r⟩
  | tup ys => cases e; obtain ⟨p, vs, e1, h1, r⟩ := ar_tup h; exact ⟨p, vs, e1, .inr (le.t h1.t), r⟩
  | _ => cases e
theorem flat_ints (is : List Int) : (is.map V.int).all flatV = true := by
  rw [List.all_eq_true]
  intro x hx
  obtain ⟨i, _, rfl⟩ := List.mem_map.mp hx
  rfl
def anyEq (d : PyData) : List PyData → Bool := fun ds => ds.any fun z => PyData.eqv z d
def dIn (x y : D) : R Bool := match isInt x, (itemsOf y).bind intsOf with
  | some i, some is => .ok (decide (i ∈ is))
  | _, _ => match toPy x, toPy y with
    | some a, some (.list bs) => if SeqAt.shaped a = true ∧ SeqAt.shaped (.list bs) = true then .ok (bs.any fun z => PyData.eqv z a) else .bad
    | some a, some (.tuple bs) => if SeqAt.shaped a = true ∧ SeqAt.shaped (.tuple bs) = true then .ok (bs.any fun z => PyData.eqv z a) else .bad
    | _, _ => .bad
theorem op_inTD {X : Cx} (hu : X.A.units + 65 < cLine) : OpR X (compareOp .In) (fun x y H Q => ∃ d ds, Dp X.K H x d ∧ Dp X.K H y (.tuple ds) ∧ SeqAt.shaped d = true ∧ SeqAt.shaped (.tuple ds) = true ∧ Q (.bl (ds.any fun z => PyData.eqv z d)) H) := by
  intro pins s σ H x y v u Q I rx ry h
  obtain ⟨d, ds, hd, he, sd, se, q⟩ := h
  obtain ⟨as, r1⟩ := Dp.reads I d x v hd rx
  obtain ⟨bs, r2⟩ := Dp.reads I (.tuple ds) y u he ry
  exact SeqAt.in_tuple_reads r2 r1 (SeqAt.canLay_of_shaped se) (SeqAt.canLay_of_shaped sd) (room_in_shaped sd hu) ⟨.bl _, H, I, rfl, q⟩
theorem op_notInTD {X : Cx} (hu : X.A.units + 65 < cLine) : OpR X (compareOp .NotIn) (fun x y H Q => ∃ d ds, Dp X.K H x d ∧ Dp X.K H y (.tuple ds) ∧ SeqAt.shaped d = true ∧ SeqAt.shaped (.tuple ds) = true ∧ Q (.bl (!ds.any fun z => PyData.eqv z d)) H) := by
  intro pins s σ H x y v u Q I rx ry h
  obtain ⟨d, ds, hd, he, sd, se, q⟩ := h
  obtain ⟨as, r1⟩ := Dp.reads I d x v hd rx
  obtain ⟨bs, r2⟩ := Dp.reads I (.tuple ds) y u he ry
  exact SeqAt.notIn_tuple_reads r2 r1 (SeqAt.canLay_of_shaped se) (SeqAt.canLay_of_shaped sd) (room_in_shaped sd hu) ⟨.bl _, H, I, rfl, q⟩
def dNotIn (x y : D) : R Bool := (dIn x y).bind fun b => .ok (!b)
theorem ob_in (hu : X.A.units + 65 < cLine) : OB ca X (compareOp .In) dIn := fun E F H x y dx dy Q le hx hy hp => by
  unfold dIn at hp
  split at hp
  · rename_i i is e1 e2
    obtain ⟨xs, e3, e4⟩ := Option.bind_eq_some_iff.mp e2
    obtain ⟨p, vs, rfl, h1, r⟩ := ar_items le hy e3
    rw [intsOf_eq e4] at r
    rw [r.ints_inv] at h1
    cases dx <;> cases e1
    rw [ar_int hx]
    refine ⟨_, op_in_seq, p, _, rfl, h1, rfl, flat_ints is, ?_⟩
    show Q (.bl (inV _ _)) H
    rw [inV_ints]
    exact hp F H (Go.refl le)
  · split at hp
    · rename_i a bs ea eb
      split at hp
      · rename_i hs
        exact ⟨_, op_inD hu, a, bs, ar_dp le hx ea, ar_dp le hy eb, hs.1, hs.2, hp F H (Go.refl le)⟩
      · exact hp.elim
    · rename_i a bs ea eb
      split at hp
      · rename_i hs
        exact ⟨_, op_inTD hu, a, bs, ar_dp le hx ea, ar_dp le hy eb, hs.1, hs.2, hp F H (Go.refl le)⟩
      · exact hp.elim
    · exact hp.elim
theorem ob_notIn (hu : X.A.units + 65 < cLine) : OB ca X (compareOp .NotIn) dNotIn := fun E F H x y dx dy Q le hx hy hp => by
  unfold dNotIn dIn at hp
  split at hp
  · rename_i i is e1 e2
    obtain ⟨xs, e3, e4⟩ := Option.bind_eq_some_iff.mp e2
    obtain ⟨p, vs, rfl, h1, r⟩ := ar_items le hy e3
    rw [intsOf_eq e4] at r
    rw [r.ints_inv] at h1
    cases dx <;> cases e1
    rw [ar_int hx]
    refine ⟨_, op_notIn_seq, p, _, rfl, h1, rfl, flat_ints is, ?_⟩
    show Q (.bl (!inV _ _)) H
    rw [inV_ints]
    exact hp F H (Go.refl le)
  · split at hp
    · rename_i a bs ea eb
      split at hp
      · rename_i hs
        exact ⟨_, op_notInD hu, a, bs, ar_dp le hx ea, ar_dp le hy eb, hs.1, hs.2, hp F H (Go.refl le)⟩
      · exact hp.elim
    · rename_i a bs ea eb
      split at hp
      · rename_i hs
        exact ⟨_, op_notInTD hu, a, bs, ar_dp le hx ea, ar_dp le hy eb, hs.1, hs.2, hp F H (Go.refl le)⟩
      · exact hp.elim
    · exact hp.elim
/-! ### is None -/
def dIsNone : D → Bool
  | .non => true
  | _ => false
theorem ar_isNone {K : PySem.W.Frag} {v : V} {d : D} (h : AR K ca F H v d) : decide (v = .non) = dIsNone d := by
  rcases h with h | ⟨q, rfl, h⟩
  · cases h <;> rfl
  · rcases h with ⟨vs, ds, rfl, _⟩ | ⟨kvs, ks, ds, rfl, _⟩ | ⟨_, _, _, _, _, rfl, _⟩ | ⟨_, _, _, rfl, _⟩ <;> rfl
theorem ob_isNone : OB ca X (compareOp .Is) (fun x y => if dIsNone y = true then .ok (dIsNone x) else .bad) := fun E F H x y dx dy Q le hx hy hp => by
  dsimp only at hp
  split at hp
  · rename_i h
    cases dy <;> cases h
    refine ⟨_, op_isN, ar_non hy, ?_⟩
    rw [ar_isNone hx]
    exact hp F H (Go.refl le)
  · exact hp.elim
theorem ob_notNone : OB ca X (compareOp .IsNot) (fun x y => if dIsNone y = true then .ok (!dIsNone x) else .bad) := fun E F H x y dx dy Q le hx hy hp => by
  dsimp only at hp
  split at hp
  · rename_i h
    cases dy <;> cases h
    refine ⟨_, op_notN, ar_non hy, ?_⟩
    rw [ar_isNone hx]
    exact hp F H (Go.refl le)
  · exact hp.elim
end
end Um

namespace Um
open L2 PySem PySem.Spec PyProof.Rows

def WW (X : Cx) (e : Expr) : TT := fun σ H Q => ∃ t, PW X e t ∧ t σ H Q
theorem pw_W {X : Cx} {e : Expr} : PW X e (WW X e) := ⟨fun wh pins s σ H Q I ⟨_, p, h⟩ => p.run wh pins s σ H Q I h⟩
section
variable (ca : Ca) (X : Cx) (W : WX) (H0 : Hp)
def SW (env : En) (e : Expr) (r : R Bool) : Prop := ∀ F H σ Q, Le F H → EnOk X.K ca H0 F H σ env → PostB (ekOf X.K ca W σ) F H r Q → WW X e σ H Q
end
section
variable {ca : Ca} {X : Cx} {W : WX} {H0 F H F' H' : Hp} {env : En} {a b c e : Expr} {rest : List Expr} {ra rb rc : R D} {ta tb tc : R Bool} {pos : Pos} {m : Md}
/-! ### truth -/
def dTruth : D → R Bool
  | .non => .ok false
  | .bl b => .ok b
  | .int i => .ok (i != 0)
  | .str s => if s.length ≤ sizeLine then .ok ((s.length : Int) != 0) else .bad
  | .lst xs => .ok (!xs.isEmpty)
  | .scr xs => .ok (!xs.isEmpty)
  | .tup xs => .ok (!xs.isEmpty)
  | .dic ks _ => .ok (!ks.isEmpty)
  | _ => .bad
theorem Reps.isEmpty {K : PySem.W.Frag} {vs : List V} {ds : List D} (r : Reps K ca F vs ds) : vs.isEmpty = ds.isEmpty := by cases r <;> rfl
theorem truth_ok {K : PySem.W.Frag} {v : V} {d : D} {k : Bool} (le : Le F H) (h : AR K ca F H v d) (e : dTruth d = .ok k) : TruV K v H k := by
  cases d with
  | non => cases e; rw [ar_non h]; exact rfl
  | bl b => cases e; rw [ar_bl h]; exact rfl
  | int i => cases e; rw [ar_int h]; exact rfl
  | str s =>
    unfold dTruth at e
    dsimp only at e
    split at e
    · rename_i hs; cases e; rw [ar_str h]; exact ⟨hs, rfl⟩
    · cases e
  | ty n => cases e
  | cl n => cases e
  | lst xs => cases e; obtain ⟨p, vs, rfl, h1, r⟩ := ar_lst le h; exact .inl ⟨vs, .inl (.inl h1), by rw [r.isEmpty]⟩
  | scr xs => cases e; obtain ⟨p, vs, rfl, h1, r⟩ := ar_scr le h; exact .inl ⟨vs, h1, by rw [r.isEmpty]⟩
  | tup xs => cases e; obtain ⟨p, vs, rfl, h1, r⟩ := ar_tup h; exact .inr (.inl ⟨vs, le.t h1.t, by rw [r.isEmpty]⟩)
  | ins c ns xs => cases e
  | dic ks xs =>
    cases e
    obtain ⟨p, kvs, rfl, h1, hk, r⟩ := ar_dic le h
    refine .inr (.inr ⟨kvs, h1, ?_⟩)
    rw [← hk]
    cases kvs <;> rfl
  | fdic ks xs => cases e
  | tdic ks xs => cases e
  | ktup xs => cases e
  | ptr n => cases e
theorem st_val (h : SE ca X W H0 .r env e ra) (he : ∀ whole, isTrue e X.env whole = (do let v ← whole; standAt e.pos; holding [v] (truthy v)) := by intro _; rfl) : ST ca X W H0 env e (ra.bind dTruth) := fun F H σ Q le ok hp => by
  refine ⟨_, pt_truth pe_W he, h.thenB le ok hp fun d v F1 H1 _ g q _ hp1 => ?_⟩
  cases hd : dTruth d with
  | ok k => rw [hd] at hp1; exact ⟨k, truth_ok g.fh q hd, hp1 F1 H1 (Go.refl g.fh)⟩
  | er x => cases d <;> simp [dTruth] at hd; split at hd <;> cases hd
  | bad => rw [hd] at hp1; exact hp1.elim
theorem st_not (h : ST ca X W H0 env a ta) : ST ca X W H0 env (.UnaryOp .Not a pos) (ta.bind fun k => .ok (!k)) := fun F H σ Q le ok hp =>
  ⟨_, pt_not pt_W, h.thenB le ok hp fun k F1 H1 _ g _ hp1 => hp1 F1 H1 (Go.refl g.fh)⟩
theorem se_not (h : SE ca X W H0 .r env a ra) : SE ca X W H0 .v env (.UnaryOp .Not a pos) (ra.bind fun d => match d with | .bl k => .ok (.bl (!k)) | _ => .bad) := fun F H σ Q le ok hp => by
  refine ⟨_, pe_not pe_W, h.then le ok hp fun d v F1 H1 _ g q _ hp1 => ?_⟩
  cases d with
  | bl k => exact ⟨k, ar_bl q, hp1 _ F1 H1 (Go.refl g.fh) (.bl _)⟩
  | _ => exact hp1.elim
def R.and (a b : R Bool) : R Bool := a.bind fun k => if k = true then b else .ok false
def R.or (a b : R Bool) : R Bool := a.bind fun k => if k = true then .ok true else b
@[simp] theorem R.and_true (b : R Bool) : R.and (.ok true) b = b := (Eq.refl _).trans (Eq.refl _)
@[simp] theorem R.and_false (b : R Bool) : R.and (.ok false) b = .ok false := (Eq.refl _).trans (Eq.refl _)
@[simp] theorem R.or_true (b : R Bool) : R.or (.ok true) b = .ok true := (Eq.refl _).trans (Eq.refl _)
@[simp] theorem R.or_false (b : R Bool) : R.or (.ok false) b = b := (Eq.refl _).trans (Eq.refl _)
theorem sw_and1 (h : ST ca X W H0 env a ta) : SW ca X W H0 env (.BoolOp .And [a] pos) ta := fun F H σ Q le ok hp => ⟨_, pw_and1 pt_W, h F H σ Q le ok hp⟩
theorem sw_or1 (h : ST ca X W H0 env a ta) : SW ca X W H0 env (.BoolOp .Or [a] pos) ta := fun F H σ Q le ok hp => ⟨_, pw_or1 pt_W, h F H σ Q le ok hp⟩
theorem sw_and (h : ST ca X W H0 env a ta) (hb : SW ca X W H0 env (.BoolOp .And (b :: rest) pos) tb) : SW ca X W H0 env (.BoolOp .And (a :: b :: rest) pos) (R.and ta tb) := fun F H σ Q le ok hp => by
  refine ⟨_, pw_and pt_W pw_W, h.thenB le ok hp fun k F1 H1 _ g ok1 hp1 => ?_⟩
  cases k with
  | true => exact hb F1 H1 σ Q g.fh ok1 hp1
  | false => exact hp1 F1 H1 (Go.refl g.fh)
theorem sw_or (h : ST ca X W H0 env a ta) (hb : SW ca X W H0 env (.BoolOp .Or (b :: rest) pos) tb) : SW ca X W H0 env (.BoolOp .Or (a :: b :: rest) pos) (R.or ta tb) := fun F H σ Q le ok hp => by
  refine ⟨_, pw_or pt_W pw_W, h.thenB le ok hp fun k F1 H1 _ g ok1 hp1 => ?_⟩
  cases k with
  | true => exact hp1 F1 H1 (Go.refl g.fh)
  | false => exact hb F1 H1 σ Q g.fh ok1 hp1
theorem st_bool {op} {es : List Expr} (h : SW ca X W H0 env (.BoolOp op es pos) ta) : ST ca X W H0 env (.BoolOp op es pos) ta := fun F H σ Q le ok hp => ⟨_, PW.pt pw_W, h F H σ Q le ok hp⟩
/-- and, or as values, all but the last True or False -/
def R.andV (a b : R D) : R D := a.bind fun d => match d with | .bl true => b | .bl false => .ok (.bl false) | _ => .bad
def R.orV (a b : R D) : R D := a.bind fun d => match d with | .bl true => .ok (.bl true) | .bl false => b | _ => .bad
@[simp] theorem R.andV_true (b : R D) : R.andV (.ok (.bl true)) b = b := (Eq.refl _).trans (Eq.refl _)
@[simp] theorem R.andV_false (b : R D) : R.andV (.ok (.bl false)) b = .ok (.bl false) := (Eq.refl _).trans (Eq.refl _)
@[simp] theorem R.orV_true (b : R D) : R.orV (.ok (.bl true)) b = .ok (.bl true) := (Eq.refl _).trans (Eq.refl _)
@[simp] theorem R.orV_false (b : R D) : R.orV (.ok (.bl false)) b = b := (Eq.refl _).trans (Eq.refl _)
theorem se_one {op} (h : SE ca X W H0 m env a ra) : SE ca X W H0 m env (.BoolOp op [a] pos) ra := fun F H σ Q le ok hp => ⟨_, pe_one pe_W, h F H σ Q le ok hp⟩
theorem se_and (h : SE ca X W H0 .r env a ra) (hb : SE ca X W H0 .v env (.BoolOp .And (b :: rest) pos) rb) : SE ca X W H0 .v env (.BoolOp .And (a :: b :: rest) pos) (R.andV ra rb) := fun F H σ Q le ok hp => by
  refine ⟨_, pe_and pe_W pe_W, h.then le ok hp fun d v F1 H1 _ g q ok1 hp1 => ?_⟩
  cases d with
  | bl k =>
    refine ⟨k, ar_bl q, ?_⟩
    cases k with
    | true => exact hb F1 H1 σ Q g.fh ok1 hp1
    | false => exact hp1 _ F1 H1 (Go.refl g.fh) (.bl false)
  | _ => exact hp1.elim
theorem se_or (h : SE ca X W H0 .r env a ra) (hb : SE ca X W H0 .v env (.BoolOp .Or (b :: rest) pos) rb) : SE ca X W H0 .v env (.BoolOp .Or (a :: b :: rest) pos) (R.orV ra rb) := fun F H σ Q le ok hp => by
  refine ⟨_, pe_or pe_W pe_W, h.then le ok hp fun d v F1 H1 _ g q ok1 hp1 => ?_⟩
  cases d with
  | bl k =>
    refine ⟨k, ar_bl q, ?_⟩
    cases k with
    | true => exact hp1 _ F1 H1 (Go.refl g.fh) (.bl true)
    | false => exact hb F1 H1 σ Q g.fh ok1 hp1
  | _ => exact hp1.elim
theorem se_ifx (h : ST ca X W H0 env c tc) (ha : SE ca X W H0 m env a ra) (hb : SE ca X W H0 m env b rb) : SE ca X W H0 m env (.IfExp c a b pos) (tc.bind fun k => if k = true then ra else rb) := fun F H σ Q le ok hp => by
  refine ⟨_, pe_ifExp pt_W pe_W pe_W, ?_⟩
  refine h F H σ _ le ok ?_
  cases tc with
  | er x => exact hp
  | bad => exact hp
  | ok k =>
    intro F1 H1 g
    cases k with
    | true => exact ha F1 H1 σ Q g.fh (ok.mono g) (Post.mono g hp)
    | false => exact hb F1 H1 σ Q g.fh (ok.mono g) (Post.mono g hp)

/-! ### subscripts, slices -/
def dIx : D → D → R D
  | .lst xs, .int i => match atI xs i with | some d => .ok d | none => .bad
  | .scr xs, .int i => match atI xs i with | some d => .ok d | none => .bad
  | .tup xs, .int i => match atI xs i with | some d => .ok d | none => .bad
  | .str z, .int i => if z.length ≤ sizeLine then (match atI z.cps.toList i with | some c => .ok (.str ⟨#[c]⟩) | none => .bad) else .bad
  | _, _ => .bad
theorem Reps.atI {K : PySem.W.Frag} {vs : List V} {ds : List D} {i : Int} {d : D} (r : Reps K ca F vs ds) (h : L2.atI ds i = some d) : ∃ v, L2.atI vs i = some v ∧ Rep K ca F v d := by
  unfold L2.atI at h ⊢
  obtain ⟨j, h1, h2⟩ := Option.bind_eq_some_iff.mp h
  obtain ⟨v, h3, h4⟩ := r.get h2
  exact ⟨v, by rw [r.length, h1]; exact h3, h4⟩
theorem se_ix (ha : SE ca X W H0 .r env a ra) (hb : SE ca X W H0 .r env b rb) (hs : PlainIx b := by exact fun _ _ => rfl) : SE ca X W H0 .v env (.Subscript a b pos) (R.op2 dIx ra rb) := fun F H σ Q le ok hp => by
  refine ⟨_, pe_ix ix_W pe_W pe_W hs, ha.then le ok hp fun d v F1 H1 _ g1 q1 ok1 hp1 => hb.then g1.fh ok1 hp1 fun e u F2 H2 _ g2 q2 ok2 hp2 => ?_⟩
  have q1 := AR.mono g2 q1
  unfold dIx at hp2
  split at hp2
  · split at hp2
    · rename_i d' hd
      obtain ⟨p, vs, rfl, h1, r⟩ := ar_lst g2.fh q1
      obtain ⟨w, h3, h4⟩ := r.atI hd
      exact ⟨_, ix_list, p, vs, _, w, rfl, ar_int q2, .inl (.inl h1), h3, hp2 _ F2 H2 (Go.refl g2.fh) h4⟩
    · exact hp2.elim
  · split at hp2
    · rename_i d' hd
      obtain ⟨p, vs, rfl, h1, r⟩ := ar_scr g2.fh q1
      obtain ⟨w, h3, h4⟩ := r.atI hd
      exact ⟨_, ix_list, p, vs, _, w, rfl, ar_int q2, h1, h3, hp2 _ F2 H2 (Go.refl g2.fh) h4⟩
    · exact hp2.elim
  · split at hp2
    · rename_i d' hd
      obtain ⟨p, vs, rfl, h1, r⟩ := ar_tup q1
      obtain ⟨w, h3, h4⟩ := r.atI hd
      exact ⟨_, ix_tup, p, vs, _, w, rfl, ar_int q2, g2.fh.t h1.t, h3, hp2 _ F2 H2 (Go.refl g2.fh) h4⟩
    · exact hp2.elim
  · split at hp2
    · rename_i hz
      split at hp2
      · rename_i c hc
        rw [ar_str q1, ar_int q2]
        exact ⟨_, ix_str, _, _, c, rfl, rfl, hz, hc, hp2 _ F2 H2 (Go.refl g2.fh) (.str _)⟩
      · exact hp2.elim
    · exact hp2.elim
  · exact hp2.elim
/-- a part of a slice -/
def SO (ca : Ca) (X : Cx) (W : WX) (H0 : Hp) (env : En) (e : Option Expr) (r : R (Option Int)) : Prop := ∀ F H σ (Q : Option Int → Hp → Prop), Le F H → EnOk X.K ca H0 F H σ env →
  (match r with | .ok o => ∀ F' H', Go F H F' H' → Q o H' | .er x => ∀ F' H', Go F H F' H' → ekOf X.K ca W σ x F' H' | .bad => False) → WO X e σ H Q
def dPart : D → R (Option Int)
  | .int i => .ok (some i)
  | _ => .bad
theorem so_none : SO ca X W H0 env none (.ok none) := fun F H σ Q le ok hp => ⟨_, po_none, hp F H (Go.refl le)⟩
theorem so_some (h : SE ca X W H0 .r env a ra) : SO ca X W H0 env (some a) (ra.bind dPart) := fun F H σ Q le ok hp => by
  refine ⟨_, po_some pe_W, h F H σ _ le ok ?_⟩
  cases ra with
  | er x => exact hp
  | bad => exact hp
  | ok d =>
    intro v F1 H1 g q
    cases d with
    | int i => exact ⟨i, ar_int q, hp F1 H1 g⟩
    | _ => exact hp.elim
theorem po_W {e : Option Expr} : PO X e (WO X e) := ⟨fun pins s σ H Q I ⟨_, p, h⟩ => p.run pins s σ H Q I h⟩
def cutD (xs : List D) (lo hi : Option Int) : List D := (xs.drop (HT.sIx xs.length 0 lo)).take (HT.sIx xs.length xs.length hi - HT.sIx xs.length 0 lo)
theorem Reps.cut {K : PySem.W.Frag} {vs : List V} {ds : List D} (r : Reps K ca F vs ds) (lo hi : Option Int) : Reps K ca F (cutV vs lo hi) (cutD ds lo hi) := by
  unfold cutV cutD
  rw [r.length]
  exact (r.drop _).take _
def dSlL (lo hi : Option Int) : D → R D
  | .lst xs => .ok (.lst (cutD xs lo hi))
  | .scr xs => .ok (.lst (cutD xs lo hi))
  | _ => .bad
def dSl (lo hi : Option Int) : D → R D
  | .lst xs => .ok (.lst (cutD xs lo hi))
  | .scr xs => .ok (.lst (cutD xs lo hi))
  | .tup xs => .ok (.tup (cutD xs lo hi))
  | .str z => if z.length ≤ sizeLine then .ok (.str (cutS z lo hi)) else .bad
  | _ => .bad
def R.sl (g : Option Int → Option Int → D → R D) (a : R D) (lo hi : R (Option Int)) : R D := a.bind fun d => lo.bind fun l => hi.bind fun h => g l h d
theorem se_sl_core {m : Md} {g : Option Int → Option Int → D → R D} {lo hi : Option Expr} {rl rh : R (Option Int)} {p2 : Pos} (ha : SE ca X W H0 .r env a ra) (hl : SO ca X W H0 env lo rl) (hh : SO ca X W H0 env hi rh)
    (hg : ∀ (E : Ek) F H v d l h Q, Le F H → AR X.K ca F H v d → Post X.K ca m E F H (g l h d) Q → WSl X v l h H Q) :
    SE ca X W H0 m env (.Subscript a (.Slice lo hi none p2) pos) (R.sl g ra rl rh) := fun F H σ Q le ok hp => by
  refine ⟨_, pe_slice sl_W pe_W po_W po_W, ha.then le ok hp fun d v F1 H1 _ g1 q1 ok1 hp1 => ?_⟩
  refine hl F1 H1 σ _ g1.fh ok1 ?_
  cases rl with
  | er x => exact hp1
  | bad => exact hp1
  | ok l =>
    intro F2 H2 g2
    refine hh F2 H2 σ _ g2.fh (ok1.mono g2) ?_
    have hp2 := Post.mono g2 hp1
    cases rh with
    | er x => exact hp2
    | bad => exact hp2
    | ok h => exact fun F3 H3 g3 => hg (ekOf X.K ca W σ) F3 H3 v d l h Q g3.fh (AR.mono (g2.trans g3) q1) (Post.mono g3 hp2)
theorem se_slL {lo hi : Option Expr} {rl rh : R (Option Int)} {p2 : Pos} (ha : SE ca X W H0 .r env a ra) (hl : SO ca X W H0 env lo rl) (hh : SO ca X W H0 env hi rh) :
    SE ca X W H0 .o env (.Subscript a (.Slice lo hi none p2) pos) (R.sl dSlL ra rl rh) := se_sl_core ha hl hh fun E F H v d l h Q le q hp => by
  cases d with
  | lst xs =>
    obtain ⟨p, vs, rfl, h1, r⟩ := ar_lst le q
    exact ⟨_, sl_list, p, vs, rfl, .inl (.inl h1), fun n hn => hp _ F _ (Go.hid le hn _) ⟨n, rfl, hn, le.free hn, .inl ⟨_, _, rfl, upd_same, r.cut _ _⟩⟩⟩
  | scr xs =>
    obtain ⟨p, vs, rfl, h1, r⟩ := ar_scr le q
    exact ⟨_, sl_list, p, vs, rfl, h1, fun n hn => hp _ F _ (Go.hid le hn _) ⟨n, rfl, hn, le.free hn, .inl ⟨_, _, rfl, upd_same, r.cut _ _⟩⟩⟩
  | _ => exact hp.elim
theorem se_sl {lo hi : Option Expr} {rl rh : R (Option Int)} {p2 : Pos} (ha : SE ca X W H0 .r env a ra) (hl : SO ca X W H0 env lo rl) (hh : SO ca X W H0 env hi rh) :
    SE ca X W H0 .v env (.Subscript a (.Slice lo hi none p2) pos) (R.sl dSl ra rl rh) := se_sl_core ha hl hh fun E F H v d l h Q le q hp => by
  cases d with
  | lst xs =>
    obtain ⟨p, vs, rfl, h1, r⟩ := ar_lst le q
    exact ⟨_, sl_list, p, vs, rfl, .inl (.inl h1), fun n hn => hp _ _ _ (Go.new le hn _) (.lst upd_same ((r.cut _ _).mono (Le.new (le.free hn))))⟩
  | scr xs =>
    obtain ⟨p, vs, rfl, h1, r⟩ := ar_scr le q
    exact ⟨_, sl_list, p, vs, rfl, h1, fun n hn => hp _ _ _ (Go.new le hn _) (.lst upd_same ((r.cut _ _).mono (Le.new (le.free hn))))⟩
  | tup xs =>
    obtain ⟨p, vs, rfl, h1, r⟩ := ar_tup q
    refine ⟨_, sl_tupN (m := ca tmK), p, vs, rfl, le.t h1.t, fun ⟨e1, e2⟩ => ?_, fun _ n u hn hu => hp _ _ _ (Go.new le hn _) (.tup (SqN.new hu) ((r.cut _ _).mono (Le.new (le.free hn))))⟩
    refine hp _ F H (Go.refl le) (.tup h1 ?_)
    have e3 : cutD xs l h = xs := by
      unfold cutD
      rw [r.length] at e1 e2
      rw [e1, e2, List.drop_zero, Nat.sub_zero, List.take_length]
    rw [e3]; exact r
  | str z =>
    unfold dSl at hp
    dsimp only at hp
    split at hp
    · rename_i hz
      rw [ar_str q]
      exact ⟨_, sl_str, z, rfl, hz, hp _ F H (Go.refl le) (.str _)⟩
    · exact hp.elim
  | _ => exact hp.elim

/-! ### calls of builtins -/
def CV (ca : Ca) (X : Cx) (ms : List Md) (m : Md) (f : Value) (g : List D → R D) : Prop := ∀ (E : Ek) F H vs ds Q, Le F H → ARs X.K ca F H ms vs ds → Post X.K ca m E F H (g ds) Q → WCall X f vs H Q
theorem se_callB {id : String} {x : Str} {p : Pos} {es : List Expr} {ms : List Md} {g : List D → R D} {rs : R (List D)} (hc : CV ca X ms m (.builtin id) g) (ha : SA ca X W H0 ms env (e :: es) rs) (hm : X.mg x = none) (hg : Gl X x := by rfl) (hv : bootBuiltins x = some (.builtin id) := by decide +kernel)
    (hn : x ≠ "__name__" := by decide) (hdb : (x == ("__debug__" : Str)) = false := by decide)
    (he : starEach (e :: es) X.env = (false, eval e X.env) :: starEach es X.env := by rfl) (hpl : (backTo pos (starEach es X.env)).any (·.1) = false := by rfl) :
    SE ca X W H0 m env (.Call (.Name x p) (e :: es) [] pos) (rs.bind g) := fun F H σ Q le ok hp =>
  ⟨_, pe_callB call_W hg hm hv pa_W hn hdb he hpl, ha.then le ok hp fun ds vs F1 H1 _ g1 q1 ok1 hp1 => hc (ekOf X.K ca W σ) F1 H1 vs ds Q g1.fh q1 hp1⟩
theorem se_callT {T : String} {x : Str} {p : Pos} {es : List Expr} {ms : List Md} {g : List D → R D} {rs : R (List D)} (hc : CV ca X ms m (.type T) g) (ha : SA ca X W H0 ms env (e :: es) rs) (hm : X.mg x = none) (hg : Gl X x := by rfl) (hv : bootBuiltins x = some (.type T) := by decide +kernel)
    (hn : x ≠ "__name__" := by decide) (hdb : (x == ("__debug__" : Str)) = false := by decide)
    (he : starEach (e :: es) X.env = (false, eval e X.env) :: starEach es X.env := by rfl) (hpl : (backTo pos (starEach es X.env)).any (·.1) = false := by rfl) :
    SE ca X W H0 m env (.Call (.Name x p) (e :: es) [] pos) (rs.bind g) := fun F H σ Q le ok hp =>
  ⟨_, pe_callTy call_W hg hm hv pa_W hn hdb he hpl, ha.then le ok hp fun ds vs F1 H1 _ g1 q1 ok1 hp1 => hc (ekOf X.K ca W σ) F1 H1 vs ds Q g1.fh q1 hp1⟩
def fn1 (g : D → R D) : List D → R D
  | [d] => g d
  | _ => .bad
def fn2 (g : D → D → R D) : List D → R D
  | [d, e] => g d e
  | _ => .bad
theorem cv1 {f : Value} {g : D → R D} (h : ∀ (E : Ek) F H v d Q, Le F H → AR X.K ca F H v d → Post X.K ca m E F H (g d) Q → WCall X f [v] H Q) : CV ca X [.r] m f (fn1 g) := fun E F H vs ds Q le q hp => by
  cases q with
  | consR h1 h2 => cases h2; exact h E F H _ _ Q le h1 hp
theorem cv2 {f : Value} {g : D → D → R D} (h : ∀ (E : Ek) F H v w d e Q, Le F H → AR X.K ca F H v d → AR X.K ca F H w e → Post X.K ca m E F H (g d e) Q → WCall X f [v, w] H Q) : CV ca X [.r, .r] m f (fn2 g) := fun E F H vs ds Q le q hp => by
  cases q with
  | consR h1 h2 => cases h2 with | consR h3 h4 => cases h4; exact h E F H _ _ _ _ Q le h1 h3 hp
def dLen : D → R D
  | .lst xs => .ok (.int xs.length)
  | .scr xs => .ok (.int xs.length)
  | .tup xs => .ok (.int xs.length)
  | .str z => if z.length ≤ sizeLine then .ok (.int z.length) else .bad
  | _ => .bad
theorem cv_len : CV ca X [.r] .v (.builtin "len") (fn1 dLen) := cv1 fun E F H v d Q le q hp => by
  cases d with
  | lst xs =>
    obtain ⟨p, vs, rfl, h1, r⟩ := ar_lst le q
    exact ⟨_, call_len_seq, p, vs, rfl, .inl (.inl (.inl h1)), by rw [r.length]; exact hp _ F H (Go.refl le) (.int _)⟩
  | scr xs =>
    obtain ⟨p, vs, rfl, h1, r⟩ := ar_scr le q
    exact ⟨_, call_len_seq, p, vs, rfl, .inl h1, by rw [r.length]; exact hp _ F H (Go.refl le) (.int _)⟩
  | tup xs =>
    obtain ⟨p, vs, rfl, h1, r⟩ := ar_tup q
    exact ⟨_, call_len_seq, p, vs, rfl, .inr (le.t h1.t), by rw [r.length]; exact hp _ F H (Go.refl le) (.int _)⟩
  | str z =>
    unfold dLen at hp
    dsimp only at hp
    split at hp
    · rename_i hz
      rw [ar_str q]
      exact ⟨_, call_len_str, z, rfl, hz, hp _ F H (Go.refl le) (.int _)⟩
    · exact hp.elim
  | _ => exact hp.elim
def dList : D → R D
  | .lst xs => .ok (.lst xs)
  | .scr xs => .ok (.lst xs)
  | .tup xs => .ok (.lst xs)
  | _ => .bad
theorem cv_list : CV ca X [.r] .o (.type "list") (fn1 dList) := cv1 fun E F H v d Q le q hp => by
  cases d with
  | lst xs =>
    obtain ⟨p, vs, rfl, h1, r⟩ := ar_lst le q
    exact ⟨_, call_list_of, p, vs, rfl, .inl (.inl (.inl h1)), fun n hn => hp _ F _ (Go.hid le hn _) ⟨n, rfl, hn, le.free hn, .inl ⟨_, _, rfl, upd_same, r⟩⟩⟩
  | scr xs =>
    obtain ⟨p, vs, rfl, h1, r⟩ := ar_scr le q
    exact ⟨_, call_list_of, p, vs, rfl, .inl h1, fun n hn => hp _ F _ (Go.hid le hn _) ⟨n, rfl, hn, le.free hn, .inl ⟨_, _, rfl, upd_same, r⟩⟩⟩
  | tup xs =>
    obtain ⟨p, vs, rfl, h1, r⟩ := ar_tup q
    exact ⟨_, call_list_of, p, vs, rfl, .inr (le.t h1.t), fun n hn => hp _ F _ (Go.hid le hn _) ⟨n, rfl, hn, le.free hn, .inl ⟨_, _, rfl, upd_same, r⟩⟩⟩
  | _ => exact hp.elim
def dTuple : D → R D
  | .lst xs => .ok (.tup xs)
  | .scr xs => .ok (.tup xs)
  | .tup xs => .ok (.tup xs)
  | _ => .bad
theorem cv_tuple : CV ca X [.r] .v (.type "tuple") (fn1 dTuple) := cv1 fun E F H v d Q le q hp => by
  cases d with
  | lst xs =>
    obtain ⟨p, vs, rfl, h1, r⟩ := ar_lst le q
    exact ⟨_, call_tupleN (m := ca tmK), p, vs, rfl, .inl ⟨.inl (.inl h1), fun n u hn hu => hp _ _ _ (Go.new le hn _) (.tup (SqN.new hu) (r.mono (Le.new (le.free hn))))⟩⟩
  | scr xs =>
    obtain ⟨p, vs, rfl, h1, r⟩ := ar_scr le q
    exact ⟨_, call_tupleN (m := ca tmK), p, vs, rfl, .inl ⟨h1, fun n u hn hu => hp _ _ _ (Go.new le hn _) (.tup (SqN.new hu) (r.mono (Le.new (le.free hn))))⟩⟩
  | tup xs =>
    obtain ⟨p, vs, rfl, h1, r⟩ := ar_tup q
    exact ⟨_, call_tupleN (m := ca tmK), p, vs, rfl, .inr ⟨le.t h1.t, hp _ F H (Go.refl le) (.tup h1 r)⟩⟩
  | _ => exact hp.elim
def dInt : D → R D
  | .int i => .ok (.int i)
  | .bl b => .ok (.int (if b then 1 else 0))
  | _ => .bad
theorem cv_int : CV ca X [.r] .v (.type "int") (fn1 dInt) := cv1 fun E F H v d Q le q hp => by
  cases d with
  | int i => rw [ar_int q]; exact ⟨_, call_int1, .inl ⟨i, rfl, hp _ F H (Go.refl le) (.int _)⟩⟩
  | bl i => rw [ar_bl q]; exact ⟨_, call_int1, .inr ⟨i, rfl, hp _ F H (Go.refl le) (.int _)⟩⟩
  | _ => exact hp.elim
def dMax2 : D → D → R D
  | .int i, .int j => .ok (.int (if j > i then j else i))
  | _, _ => .bad
def dMin2 : D → D → R D
  | .int i, .int j => .ok (.int (if j < i then j else i))
  | _, _ => .bad
theorem cv_max2 (hc : X.calm = true) : CV ca X [.r, .r] .v (.builtin "max") (fn2 dMax2) := cv2 fun E F H v w d e Q le q1 q2 hp => by
  unfold dMax2 at hp
  split at hp
  · rw [ar_int q1, ar_int q2]; exact ⟨_, call_max2 hc, _, _, rfl, hp _ F H (Go.refl le) (.int _)⟩
  · exact hp.elim
theorem cv_min2 (hc : X.calm = true) : CV ca X [.r, .r] .v (.builtin "min") (fn2 dMin2) := cv2 fun E F H v w d e Q le q1 q2 hp => by
  unfold dMin2 at hp
  split at hp
  · rw [ar_int q1, ar_int q2]; exact ⟨_, call_min2 hc, _, _, rfl, hp _ F H (Go.refl le) (.int _)⟩
  · exact hp.elim
/-! ### isinstance -/
def tyName : D → String
  | .non => "NoneType"
  | .bl _ => "bool"
  | .int _ => "int"
  | .str _ => "str"
  | .lst _ => "list"
  | .scr _ => "list"
  | .tup _ => "tuple"
  | .dic _ _ => "dict"
  | _ => ""
def okTy (a b : String) : Option Bool :=
  if a ∈ ["NoneType", "bool", "int", "str", "list", "tuple", "dict"] ∧ b ∈ ["bool", "int", "str", "list", "tuple", "dict"] then some (a == b || (a == "bool" && b == "int")) else none
theorem okTy_kit {K : PySem.W.Frag} {a b : String} {k : Bool} (h : okTy a b = some k) : PySem.W.kitOne K (.type a) (.type b) = some k := by
  unfold okTy at h
  split at h
  · rename_i hm
    obtain ⟨h1, h2⟩ := hm
    simp only [List.mem_cons, List.not_mem_nil, or_false] at h1 h2
    rcases h1 with rfl | rfl | rfl | rfl | rfl | rfl | rfl <;> rcases h2 with rfl | rfl | rfl | rfl | rfl | rfl <;> cases h <;> exact kit_ty (by decide +kernel)
  · cases h
/-- isinstance(x, T), T a built-in class -/
def dIsT (T : String) (d : D) : R D := match okTy (tyName d) T with
  | some k => .ok (.bl k)
  | none => .bad
def dIsI (cs : List Str) : D → D → R D
  | x, .ty T => dIsT T x
  | .ins c _ _, .cl c' => if c = c' ∧ c ∈ cs then .ok (.bl true) else .bad
  | _, _ => .bad
structure InsK (K : PySem.W.Frag) (C : Addr) : Prop where
  cls : Cls K C
  fc : PySem.W.findIn K (.ref C) (Str.ofString "__class__") = some (some (Value.builtin "object.__class__"))
  sp : PySem.W.specialIn K (Value.builtin "object.__class__") (Str.ofString "__get__") = some (some (Value.builtin "getset_descriptor.__get__"))
  tk : PySem.W.takesIn K (Value.builtin "object.__class__") = some true
  mr : PySem.W.mroIn K C (Value.type "object") = some true
theorem kit_same {K : PySem.W.Frag} {t : Value} (h : (t == t) = true := by first | rfl | simp) : PySem.W.kitOne K t t = some true := by
  unfold PySem.W.kitOne; rw [if_pos h]
theorem ar_ty {K : PySem.W.Frag} {v : V} {d : D} (le : Le F H) (h : AR K ca F H v d) (hn : tyName d ≠ "") : TyX K H v (.type (tyName d)) := by
  cases d with
  | non => rw [ar_non h]; exact .base .non
  | bl b => rw [ar_bl h]; exact .base (.bl b)
  | int b => rw [ar_int h]; exact .base (.int b)
  | str b => rw [ar_str h]; exact .base (.str b)
  | lst xs => obtain ⟨p, vs, rfl, h1, r⟩ := ar_lst le h; exact .base (.lst h1)
  | scr xs =>
    obtain ⟨p, vs, rfl, h1, r⟩ := ar_scr le h
    rcases h1 with (h1 | ⟨o, h1⟩) | ⟨o, its, n, k, c, _⟩
    · exact .base (.lst h1)
    · exact .base (.frz h1)
    · exact .kList k c
  | tup xs =>
    obtain ⟨p, vs, rfl, h1, r⟩ := ar_tup h
    rcases le.t h1.t with (h1 | ⟨o, h1⟩) | ⟨o, its, n, k, c, _⟩
    · exact .base (.tup h1)
    · exact .fTuple h1
    · exact .kTuple k c
  | dic ks xs => obtain ⟨p, kvs, rfl, h1, _⟩ := ar_dic le h; exact .base (.dK h1)
  | _ => exact absurd rfl hn
theorem cv_isi (cs : List Str) (hI : ∀ c ∈ cs, InsK X.K (ca c)) : CV ca X [.r, .v] .v (.builtin "isinstance") (fn2 (dIsI cs)) := fun E F H vs ds Q le q hp => by
  cases q with
  | consR h1 h2 => cases h2 with | consV h3 h4 =>
  cases h4
  rename_i v d w e
  cases h3 with
  | ty T =>
    have hp' : Post X.K ca .v E F H (dIsT T d) Q := by cases d <;> exact hp
    unfold dIsT at hp'
    split at hp'
    · rename_i k hk
      have hn : tyName d ≠ "" := by
        intro z
        rw [z] at hk
        unfold okTy at hk
        simp at hk
      exact ⟨_, call_isi, v, _, _, _, k, rfl, .ty T, ar_ty le h1 hn, okTy_kit hk, hp' _ F H (Go.refl le) (.bl k)⟩
    · exact hp'.elim
  | cl c =>
    cases d with
    | ins c' ns xs =>
      have hp' : Post X.K ca .v E F H (if c' = c ∧ c' ∈ cs then .ok (.bl true) else .bad) Q := hp
      split at hp'
      · rename_i hc
        obtain ⟨hc, hm⟩ := hc
        subst hc
        obtain ⟨p, dx, fs, rfl, h6, hn, r⟩ := ar_ins le h1
        have k := hI c' hm
        exact ⟨_, call_isi, _, _, _, _, true, rfl, .own _, .base (.ins h6 k.cls k.fc k.sp k.tk k.mr), kit_same, hp' _ F H (Go.refl le) (.bl true)⟩
      · exact hp'.elim
    | _ => exact hp.elim
  | _ => cases d <;> exact hp.elim
theorem se_ty {T : String} {x : Str} {p : Pos} (hm : X.mg x = none) (hg : Gl X x := by rfl) (hv : bootBuiltins x = some (.type T) := by decide +kernel) (hn : x ≠ "__name__" := by decide) (hdb : (x == ("__debug__" : Str)) = false := by decide) :
    SE ca X W H0 .v env (.Name x p) (.ok (.ty T)) := fun F H σ Q le ok hp => ⟨_, pe_bltn (v := .ty T) hg hm hv rfl hn hdb, hp _ F H (Go.refl le) (.ty T)⟩
theorem se_cls {c x : Str} {p : Pos} (hm : X.mg x = some (.ref (ca c))) (hg : Gl X x := by rfl) (hdb : (x == ("__debug__" : Str)) = false := by decide) :
    SE ca X W H0 .v env (.Name x p) (.ok (.cl c)) := fun F H σ Q le ok hp => ⟨_, pe_glob (v := .ref (ca c)) hg hm rfl hdb, hp _ F H (Go.refl le) (.cl c)⟩
end
end Um

namespace Um
open L2 PySem PySem.Spec PyProof.Rows

/-! ## Statements -/
/-- what is fixed through a body: res is what the body comes to; ret says what a returned value is in it; envH what a handler leans on -/
structure Pt (α : Type) where
  ca : Ca
  X : Cx
  W : WX
  F0 : Hp
  H0 : Hp
  envH : En
  res : R α
  ret : D → R α
  m : Md
  Q : VK
/-- the handler leans on data alone -/
def SlH (K : PySem.W.Frag) (ca : Ca) (H0 F : Hp) (v : V) : Sl → Prop
  | .d x => Rep K ca F v x
  | .b x => Rep K ca F v x ∨ ∃ p, v = .ref p ∧ OwnAt K ca F H0 p x
  | .o _ => True
  | .p u => v = u
  | .e a dd x => v = .ref a ∧ ExcRep K ca F (.ref (ca x.cls)) dd x
theorem SlH.mono {K : PySem.W.Frag} {ca : Ca} {H0 F F' : Hp} {v : V} {s : Sl} (g : Le F F') (h : SlH K ca H0 F v s) : SlH K ca H0 F' v s := by
  cases s with
  | d x => exact Rep.mono g h
  | b x =>
    rcases h with h | ⟨p, e, h⟩
    · exact .inl (h.mono g)
    · exact .inr ⟨p, e, h.monoF g⟩
  | o x => trivial
  | p u => exact h
  | e a dd x => exact ⟨h.1, ExcRep.mono _ _ g h.2⟩
def HOk {α : Type} (P : Pt α) (F H : Hp) (σ : L2.St) : Prop := (P.envH.length ≤ 1 ∨ σ.length = P.envH.length) ∧ ∀ (i : Nat) s, P.envH[i]? = some (some s) → ∃ v, σ[i]? = some (some v) ∧ SlH P.X.K P.ca P.H0 F v s
structure Pt.Good {α : Type} (P : Pt α) : Prop where
  nd : P.X.N.Nodup
  calm : P.X.calm = true
  hp : PassesOwn (model P.X.prog P.X.w) P.X.A P.X.env P.X.xe
  rt : ∀ d v F H, P.res = P.ret d → Go P.F0 P.H0 F H → Res P.X.K P.ca P.m P.H0 F H v d → P.Q v H
  er : ∀ x F H σ, P.res = .er x → Go P.F0 P.H0 F H → HOk P F H σ → ekOf P.X.K P.ca P.W σ x F H
  nb : P.res ≠ .bad
  rb : ∀ d, P.ret d ≠ .bad
  st : StK P.X.K P.ca P.F0 P.H0
/-- the same where an exception is handled -/
structure Pt.GoodH {α : Type} (P : Pt α) : Prop where
  nd : P.X.N.Nodup
  hp : PassesOwn (model P.X.prog P.X.w) P.X.A P.X.env P.X.xe
  rt : ∀ d v F H, P.res = P.ret d → Go P.F0 P.H0 F H → Res P.X.K P.ca P.m P.H0 F H v d → P.Q v H
  er : ∀ x F H σ, P.res = .er x → Go P.F0 P.H0 F H → HOk P F H σ → ekOf P.X.K P.ca P.W σ x F H
  nb : P.res ≠ .bad
  rb : ∀ d, P.ret d ≠ .bad
  st : StK P.X.K P.ca P.F0 P.H0
theorem Pt.Good.h {α : Type} {P : Pt α} (G : P.Good) : P.GoodH := ⟨G.nd, G.hp, G.rt, G.er, G.nb, G.rb, G.st⟩
instance {α : Type} {P : Pt α} : CoeOut P.Good P.GoodH := ⟨Pt.Good.h⟩
structure AtF {α : Type} (P : Pt α) (F : Hp) (env : En) (r : R α) (σ : L2.St) (H : Hp) : Prop where
  go : Go P.F0 P.H0 F H
  en : EnOk P.X.K P.ca P.H0 F H σ env
  ho : HOk P F H σ
  eq : r = P.res
def At {α : Type} (P : Pt α) (env : En) (r : R α) : L2.St → Hp → Prop := fun σ H => ∃ F, AtF P F env r σ H
abbrev Jp (α : Type) := En → R α → Prop
def SSs {α : Type} (P : Pt α) (nx bk ct : Jp α) (env : En) (ss : List Stmt) (r : R α) : Prop := ∀ D : Ends, D.rt = P.Q →
  (∀ e' r', nx e' r' → ∀ σ H, At P e' r' σ H → D.nx σ H) → (∀ e' r', bk e' r' → ∀ σ H, At P e' r' σ H → D.bk σ H) → (∀ e' r', ct e' r' → ∀ σ H, At P e' r' σ H → D.ct σ H) →
  ∀ σ H, At P env r σ H → WSs P.X ss D σ H
def jNo {α : Type} : Jp α := fun _ _ => False
/-- e' knows what e knows -/
inductive EnLe : En → En → Prop
  | nil : EnLe [] []
  | s {x : Option Sl} {e e' : En} (h : EnLe e e') : EnLe (x :: e) (x :: e')
  | n {x : Option Sl} {e e' : En} (h : EnLe e e') : EnLe (none :: e) (x :: e')
theorem EnLe.length {e e' : En} (h : EnLe e e') : e.length = e'.length := by
  induction h with
  | nil => rfl
  | s _ ih => rw [List.length_cons, List.length_cons, ih]
  | n _ ih => rw [List.length_cons, List.length_cons, ih]
theorem EnLe.get {e e' : En} (h : EnLe e e') : ∀ (i : Nat) s, e[i]? = some (some s) → e'[i]? = some (some s) := by
  induction h with
  | nil => intro i s q; simp at q
  | s h ih =>
    intro i s q
    cases i with
    | zero => exact q
    | succ i => exact ih i s (by simpa using q)
  | n h ih =>
    intro i s q
    cases i with
    | zero => simp at q
    | succ i => exact ih i s (by simpa using q)
theorem EnOk.weak {K : PySem.W.Frag} {ca : Ca} {H0 F H : Hp} {σ : L2.St} {e e' : En} (h : EnLe e e') (q : EnOk K ca H0 F H σ e') : EnOk K ca H0 F H σ e :=
  ⟨q.h0, q.len.trans h.length.symm, fun i s hs => q.at_ i s (h.get i s hs), fun i j x y h1 h2 => q.own i j x y (h.get _ _ h1) (h.get _ _ h2), q.st⟩
theorem EnLe.refl : ∀ e : En, EnLe e e
  | [] => .nil
  | _ :: e => .s (EnLe.refl e)
/-- slot i may be stored -/
def noH (envH : En) (i : Nat) : Bool := match envH[i]? with
  | some (some _) => false
  | _ => true
section
variable {α : Type} {P : Pt α} {nx bk ct : Jp α} {env : En} {rest : List Stmt} {F H F' H' : Hp} {σ : L2.St}
theorem HOk.mono (g : Go F H F' H') (h : HOk P F H σ) : HOk P F' H' σ := ⟨h.1, fun i s q => by
  obtain ⟨v, h1, h2⟩ := h.2 i s q
  exact ⟨v, h1, h2.mono g.f⟩⟩
theorem HOk.set {i : Nat} {x : Option V} (h : HOk P F H σ) (n : noH P.envH i = true) : HOk P F H (σ.set i x) := ⟨by rw [List.length_set]; exact h.1, fun j s q => by
  obtain ⟨v, h1, h2⟩ := h.2 j s q
  refine ⟨v, ?_, h2⟩
  have hij : i ≠ j := by
    rintro rfl
    unfold noH at n
    rw [q] at n
    cases n
  rw [List.getElem?_set_ne hij]; exact h1⟩
theorem AtF.mono {r : R α} (h : AtF P F env r σ H) (g : Go F H F' H') : AtF P F' env r σ H' := ⟨h.go.trans g, h.en.mono g, h.ho.mono g, h.eq⟩
theorem AtF.weak {r : R α} {e : En} (h : AtF P F env r σ H) (l : EnLe e env) : AtF P F e r σ H := ⟨h.go, h.en.weak l, h.ho, h.eq⟩
/-- an expression in a statement -/
theorem AtF.ev (G : P.GoodH) {m : Md} {e : Expr} {re : R D} {k : D → R α} {Q : VK} (h : SE P.ca P.X P.W P.H0 m env e re) (a : AtF P F env (re.bind k) σ H)
    (hg : ∀ d v F' H', re = .ok d → Go F H F' H' → Res P.X.K P.ca m H F' H' v d → AtF P F' env (k d) σ H' → Q v H') : Um.WE P.X e σ H Q := by
  refine h F H σ Q a.go.fh a.en ?_
  have ae := a.eq
  cases re with
  | ok d => exact fun v F' H' g q => hg d v F' H' rfl g q ((⟨a.go, a.en, a.ho, ae⟩ : AtF P F env (k d) σ H).mono g)
  | er x => exact fun F' H' g => G.er x F' H' σ ae.symm (a.go.trans g) (a.ho.mono g)
  | bad => exact G.nb ae.symm
theorem AtF.evT (G : P.GoodH) {e : Expr} {re : R Bool} {k : Bool → R α} {Q : Bool → Hp → Prop} (h : ST P.ca P.X P.W P.H0 env e re) (a : AtF P F env (re.bind k) σ H)
    (hg : ∀ b F' H', re = .ok b → Go F H F' H' → AtF P F' env (k b) σ H' → Q b H') : WT P.X e σ H Q := by
  refine h F H σ Q a.go.fh a.en ?_
  have ae := a.eq
  cases re with
  | ok d => exact fun F' H' g => hg d F' H' rfl g ((⟨a.go, a.en, a.ho, ae⟩ : AtF P F env (k d) σ H).mono g)
  | er x => exact fun F' H' g => G.er x F' H' σ ae.symm (a.go.trans g) (a.ho.mono g)
  | bad => exact G.nb ae.symm
theorem set_some {β : Type} {l : List (Option β)} {i j : Nat} {x : Option β} {s : β} (h : (l.set i x)[j]? = some (some s)) : (i = j ∧ x = some s) ∨ (i ≠ j ∧ l[j]? = some (some s)) := by
  by_cases e : i = j
  · subst e
    rw [List.getElem?_set_self'] at h
    cases q : l[i]? with
    | none => rw [q] at h; simp at h
    | some u => rw [q] at h; exact .inl ⟨rfl, by simpa using h⟩
  · rw [List.getElem?_set_ne e] at h
    exact .inr ⟨e, h⟩
theorem lt_of_set {β : Type} {l : List (Option β)} {i : Nat} {x : Option β} {s : Option β} (h : (l.set i x)[i]? = some s) : i < l.length := by
  have := (List.getElem?_eq_some_iff.mp h).1
  rwa [List.length_set] at this
/-- a slot is stored with data -/
theorem EnOk.setD {K : PySem.W.Frag} {ca : Ca} {H0 : Hp} {i : Nat} {v : V} {d : D} (h : EnOk K ca H0 F H σ env) (q : Rep K ca F v d) : EnOk K ca H0 F H (σ.set i (some v)) (env.set i (some (.d d))) := by
  refine ⟨h.h0, by rw [List.length_set, List.length_set, h.len], fun j s hj => ?_, fun j k x y hj hk e => ?_, h.st⟩
  · have hl : (env.set i (some (Sl.d d))).length = env.length := List.length_set ..
    rcases set_some hj with ⟨rfl, e⟩ | ⟨ne, hj'⟩
    · cases e
      refine ⟨v, ?_, q⟩
      rw [List.getElem?_set_self (by rw [h.len]; exact lt_of_set hj)]
    · obtain ⟨u, h1, h2⟩ := h.at_ j s hj'
      exact ⟨u, by rw [List.getElem?_set_ne ne]; exact h1, h2⟩
  · rcases set_some hj with ⟨_, e1⟩ | ⟨n1, hj'⟩
    · cases e1
    · rcases set_some hk with ⟨_, e2⟩ | ⟨n2, hk'⟩
      · cases e2
      · rw [List.getElem?_set_ne n1, List.getElem?_set_ne n2] at e
        exact h.own j k x y hj' hk' e
/-- .. with a new thing -/
theorem EnOk.setO {K : PySem.W.Frag} {ca : Ca} {H0 Hb : Hp} {i : Nat} {p : Addr} {d : D} (h : EnOk K ca H0 F H σ env) (hb : ∀ (j : Nat) q, σ[j]? = some (some (.ref q)) → (∃ x, env[j]? = some (some (.o x))) → q ≠ p) (n : H0 p = none) (f : F p = none) (o : OwnAt K ca F H p d) :
    EnOk K ca H0 F H (σ.set i (some (.ref p))) (env.set i (some (.o d))) := by
  refine ⟨h.h0, by rw [List.length_set, List.length_set, h.len], fun j s hj => ?_, fun j k x y hj hk e => ?_, h.st⟩
  · rcases set_some hj with ⟨rfl, e⟩ | ⟨ne, hj'⟩
    · cases e
      refine ⟨.ref p, ?_, ⟨p, rfl, n, f, o⟩⟩
      rw [List.getElem?_set_self (by rw [h.len]; exact lt_of_set hj)]
    · obtain ⟨u, h1, h2⟩ := h.at_ j s hj'
      exact ⟨u, by rw [List.getElem?_set_ne ne]; exact h1, h2⟩
  · rcases set_some hj with ⟨e0, e1⟩ | ⟨n1, hj'⟩
    · rcases set_some hk with ⟨e2, e3⟩ | ⟨n2, hk'⟩
      · exact e0.symm.trans e2
      · subst e0
        rw [List.getElem?_set_self (by rw [h.len]; exact lt_of_set hj), List.getElem?_set_ne n2] at e
        exact absurd rfl (hb k p e.symm ⟨_, hk'⟩)
    · rcases set_some hk with ⟨e2, e3⟩ | ⟨n2, hk'⟩
      · subst e2
        rw [List.getElem?_set_self (by rw [h.len]; exact lt_of_set hk), List.getElem?_set_ne n1] at e
        exact absurd rfl (hb j p e ⟨_, hj'⟩)
      · rw [List.getElem?_set_ne n1, List.getElem?_set_ne n2] at e
        exact h.own j k x y hj' hk' e
theorem own_ne {K : PySem.W.Frag} {ca : Ca} {H0 : Hp} {p : Addr} {Hb Fb : Hp} (h : EnOk K ca H0 Fb Hb σ env) (hp : Hb p = none) : ∀ (j : Nat) q, σ[j]? = some (some (.ref q)) → (∃ x, env[j]? = some (some (.o x))) → q ≠ p := fun j q hj ⟨x, hx⟩ e => by
  obtain ⟨v, h1, p', e1, _, _, o⟩ := h.at_ j _ hx
  rw [hj] at h1
  cases h1
  cases e1
  obtain ⟨u, hu⟩ := o.some
  rw [e, hp] at hu
  cases hu
/-- a thing of one's own changes -/
theorem EnOk.mut {K : PySem.W.Frag} {ca : Ca} {H0 : Hp} {i : Nat} {p : Addr} {x d : D} {ob : HO} (h : EnOk K ca H0 F H σ env) (he : env[i]? = some (some (.o x))) (hs : σ[i]? = some (some (.ref p))) (n : H0 p = none) (f : F p = none) (o : OwnAt K ca F (upd H p ob) p d) :
    EnOk K ca H0 F (upd H p ob) σ (env.set i (some (.o d))) := by
  refine ⟨fun a u q => ?_, by rw [List.length_set, h.len], fun j s hj => ?_, fun j k x y hj hk e => ?_, h.st⟩
  · rw [upd_ne (ne_of_none q n)]; exact h.h0 a u q
  · rcases set_some hj with ⟨rfl, e⟩ | ⟨ne, hj'⟩
    · cases e
      exact ⟨.ref p, hs, p, rfl, n, f, o⟩
    · obtain ⟨u, h1, h2⟩ := h.at_ j s hj'
      refine ⟨u, h1, ?_⟩
      cases s with
      | d y => exact h2
      | b y => exact h2
      | p u => exact h2
      | e a dd x => exact h2
      | o y =>
        obtain ⟨p', e1, n', f', o'⟩ := h2
        refine ⟨p', e1, n', f', ?_⟩
        have hne : p' ≠ p := by
          rintro rfl
          exact ne (h.own i j _ _ he hj' (by rw [hs, h1, e1]))
        rcases o' with ⟨vs, ds, e2, h3, r⟩ | ⟨kvs, ks, ds, e2, h3, q, r⟩ | ⟨c, dx, ns, fs, ds, e2, h3, q, r⟩ | ⟨xs4, ks4, ds4, e4, h4, n4, k4, r4⟩
        · exact .inl ⟨vs, ds, e2, by rw [upd_ne hne]; exact h3, r⟩
        · exact .inr (.inl ⟨kvs, ks, ds, e2, by rw [upd_ne hne]; exact h3, q, r⟩)
        · exact .inr (.inr (.inl ⟨c, dx, ns, fs, ds, e2, by rw [upd_ne hne]; exact h3, q, r⟩))
        · exact .inr (.inr (.inr ⟨xs4, ks4, ds4, e4, by rw [upd_ne hne]; exact h4, n4, k4, r4⟩))
  · rcases set_some hj with ⟨e0, e1⟩ | ⟨n1, hj'⟩
    · rcases set_some hk with ⟨e2, e3⟩ | ⟨n2, hk'⟩
      · exact e0.symm.trans e2
      · exact e0.symm.trans (h.own i k _ _ he hk' (e0 ▸ e))
    · rcases set_some hk with ⟨e2, e3⟩ | ⟨n2, hk'⟩
      · exact (h.own j i _ _ hj' he (e2 ▸ e)).trans e2
      · exact h.own j k _ _ hj' hk' e
end

section
variable {α : Type} {P : Pt α} {nx bk ct : Jp α} {env : En} {rest : List Stmt}
theorem WSs.cons {X : Cx} {st : Stmt} {rest : List Stmt} {D : Ends} {σ : L2.St} {H : Hp} {t : TS} (h : PS X st t) (q : t { D with nx := fun σ' H' => WSs X rest D σ' H' } σ H) : WSs X (st :: rest) D σ H := ⟨_, pss_cons h pss_W, q⟩
theorem ss_nil {r : R α} (h : nx env r) : SSs P nx bk ct env [] r := fun D _ hn _ _ σ H a => ⟨_, pss_nil, hn env r h σ H a⟩
theorem ss_pass {r : R α} {pos : Pos} (h : SSs P nx bk ct env rest r) : SSs P nx bk ct env (.Pass pos :: rest) r := fun D hr hn hb hc σ H a => .cons ps_pass (h D hr hn hb hc σ H a)
theorem ss_break {r : R α} {pos : Pos} (h : bk env r) : SSs P nx bk ct env (.Break pos :: rest) r := fun D _ _ hb _ σ H a => .cons ps_break (hb env r h σ H a)
theorem ss_cont {r : R α} {pos : Pos} (h : ct env r) : SSs P nx bk ct env (.Continue pos :: rest) r := fun D _ _ _ hc σ H a => .cons ps_continue (hc env r h σ H a)
theorem ss_weak {r : R α} {e : En} {ss : List Stmt} (l : EnLe e env) (h : SSs P nx bk ct e ss r) : SSs P nx bk ct env ss r := fun D hr hn hb hc σ H ⟨F, a⟩ => h D hr hn hb hc σ H ⟨F, a.weak l⟩
theorem ss_ret (G : P.GoodH) {e : Expr} {re : R D} {pos : Pos} (h : SE P.ca P.X P.W P.H0 P.m env e re) : SSs P nx bk ct env (.Return (some e) pos :: rest) (re.bind P.ret) := fun D hr hn hb hc σ H ⟨F, a⟩ => by
  refine .cons (ps_ret pe_W) ?_
  show Um.WE P.X e σ H D.rt
  rw [hr]
  refine a.ev G h fun d v F' H' _ g q a' => G.rt d v F' H' a'.eq.symm a'.go ?_
  cases hm : P.m with
  | v => rw [hm] at q; exact q
  | r => rw [hm] at q; exact q
  | o =>
    rw [hm] at q
    obtain ⟨p, e1, n, f, o⟩ := q
    exact ⟨p, e1, a.en.h0.free n, f, o⟩
  | q s =>
    rw [hm] at q
    obtain ⟨cs, nd, n, o⟩ := q
    exact ⟨cs, nd, fun p hp => ⟨a.en.h0.free (n p hp).1, (n p hp).2⟩, o⟩
theorem ss_retN (G : P.GoodH) {pos : Pos} (hm : P.m = .v := by rfl) : SSs P nx bk ct env (.Return none pos :: rest) (P.ret .non) := fun D hr hn hb hc σ H ⟨F, a⟩ => by
  refine .cons ps_retN ?_
  show D.rt .non H
  rw [hr]
  refine G.rt .non .non F H a.eq.symm a.go ?_
  rw [hm]; exact Rep.non
/-- return x, x of one's own -/
theorem ss_retO (G : P.GoodH) {i : Nat} {x : Str} {pos pos' : Pos} {d : D} (he : env[i]? = some (some (.o d)) := by rfl) (hm : P.m = .o := by rfl) (hN : P.X.N[i]? = some x := by rfl)
    (hv : Vis P.X.env.scope x := by first | exact Or.inl rfl | exact Or.inr (Or.inl rfl) | exact Or.inr (Or.inr rfl)) (hd : (x == ("__debug__" : Str)) = false := by decide) (hcd : (x == ("__classdict__" : Str)) = false := by decide) :
    SSs P nx bk ct env (.Return (some (.Name x pos')) pos :: rest) (P.ret d) := fun D hr hn hb hc σ H ⟨F, a⟩ => by
  obtain ⟨v, h1, p, e, n, f, o⟩ := a.en.at_ i _ he
  refine .cons (ps_ret (pe_var hN hv hd hcd)) ⟨v, h1, ?_⟩
  show D.rt v H
  rw [hr, e]
  refine G.rt d (.ref p) F H a.eq.symm a.go ?_
  rw [hm]
  exact ⟨p, rfl, n, f, o⟩
/-- what is of one's own becomes data -/
theorem ss_freeze {i : Nat} {d : D} {ss : List Stmt} {r : R α} (he : env[i]? = some (some (.o d)) := by rfl) (hh : noH P.envH i = true := by rfl) (h : SSs P nx bk ct (env.set i (some (.d d))) ss r) : SSs P nx bk ct env ss r := fun D hr hn hb hc σ H ⟨F, a⟩ => by
  refine h D hr hn hb hc σ H ?_
  obtain ⟨v, h1, p, e, n, f, o⟩ := a.en.at_ i _ he
  subst e
  obtain ⟨u, hu⟩ := o.some
  refine ⟨upd F p u, ⟨a.go.f.trans (Le.new f), a.go.h, fun b w hb => ?_, fun b w hb hn' => ?_⟩, ?_, ?_, a.eq⟩
  · by_cases hbp : b = p
    · subst hbp; rw [upd_same] at hb; cases hb; exact hu
    · rw [upd_ne hbp] at hb; exact a.go.fh b w hb
  · rw [upd_ne (ne_of_none hb n)]; exact a.go.fr b w hb hn'
  · have le : Le F (upd F p u) := Le.new f
    refine ⟨a.en.h0, by rw [List.length_set, a.en.len], fun j s hj => ?_, fun j k x y hj hk e => ?_, (a.en.st.monoF le)⟩
    · rcases set_some hj with ⟨rfl, e⟩ | ⟨ne, hj'⟩
      · cases e
        refine ⟨.ref p, h1, ?_⟩
        rcases o with ⟨vs, ds, e, h, r⟩ | ⟨kvs, ks, ds, e, h, q, r⟩ | ⟨c, dx, ns, fs, ds, e, h, q, r⟩ | ⟨xs4, ks4, ds4, e4, h4, n4, k4, r4⟩
        · rw [h] at hu; cases hu; subst e
          exact Rep.lst upd_same (r.mono le)
        · rw [h] at hu; cases hu; subst e
          exact Rep.dic upd_same q (r.mono le)
        · rw [h] at hu; cases hu; subst e
          exact Rep.ins upd_same q (r.mono le)
        · rw [h4] at hu; cases hu; subst e4
          exact Rep.tdic upd_same n4 (fun x hx => le.t (k4 x hx)) (r4.mono le)
      · obtain ⟨w, h2, h3⟩ := a.en.at_ j s hj'
        refine ⟨w, h2, ?_⟩
        cases s with
        | p u => exact h3
        | e a dd x => exact ⟨h3.1, ExcRep.mono _ _ le h3.2⟩
        | d y => exact Rep.mono le h3
        | b y =>
          rcases h3 with h3 | ⟨q, e, h3⟩
          · exact .inl (h3.mono le)
          · exact .inr ⟨q, e, h3.monoF le⟩
        | o y =>
          obtain ⟨p', e1, n', f', o'⟩ := h3
          have hne : p' ≠ p := by
            rintro rfl
            exact ne (a.en.own i j _ _ he hj' (by rw [h1, h2, e1]))
          exact ⟨p', e1, n', by rw [upd_ne hne]; exact f', o'.monoF le⟩
    · rcases set_some hj with ⟨_, e1⟩ | ⟨n1, hj'⟩
      · cases e1
      · rcases set_some hk with ⟨_, e2⟩ | ⟨n2, hk'⟩
        · cases e2
        · exact a.en.own j k x y hj' hk' e
  · refine ⟨a.ho.1, fun j s hj => ?_⟩
    obtain ⟨w, h2, h3⟩ := a.ho.2 j s hj
    exact ⟨w, h2, h3.mono (Le.new f)⟩
end
end Um

namespace Um
open L2 PySem PySem.Spec PyProof.Rows

def joinC {S β : Type} (f : (S → β) → β) (k : S → β) : β := f k
def jOf {S α : Type} (envL : S → En) (k : S → R α) : Jp α := fun e r => ∃ s, EnLe (envL s) e ∧ r = k s
theorem jOf.mk {S α : Type} {envL : S → En} {k : S → R α} (s : S) {e : En} (l : EnLe (envL s) e) : jOf envL k e (k s) := ⟨s, l, rfl⟩

section
variable {α : Type} {P : Pt α} {nx bk ct : Jp α} {env : En} {rest : List Stmt}
/-! ### x = e -/
theorem ss_set (G : P.GoodH) {i : Nat} {x : Str} {e : Expr} {re : R D} {k : D → R α} {pos pos' : Pos} (h : SE P.ca P.X P.W P.H0 .v env e re) (hk : ∀ d, SSs P nx bk ct (env.set i (some (.d d))) rest (k d))
    (hi : P.X.N[i]? = some x := by rfl) (hx : Loc P.X.env.scope x := by first | exact .inl rfl | exact .inr rfl) (hh : noH P.envH i = true := by rfl)
    (hs : swapsWith e (some (.Name x pos')) pos.line P.X.env = pure false := by rfl) (hf : P.X.fn x = true ∨ P.X.env.scope.names.lookup x = some .local := by first | exact .inl rfl | exact .inr rfl) :
    SSs P nx bk ct env (.Assign [.Name x pos'] e pos :: rest) (re.bind k) := fun D hr hn hb hc σ H ⟨F, a⟩ => by
  refine .cons (ps_set G.nd hi hx pe_W hs hf) ?_
  refine a.ev G h fun d v F' H' _ g q a' => hk d D hr hn hb hc _ _ ⟨F', a'.go, a'.en.setD q, a'.ho.set hh, a'.eq⟩
theorem ss_setO (G : P.GoodH) {i : Nat} {x : Str} {e : Expr} {re : R D} {k : D → R α} {pos pos' : Pos} (h : SE P.ca P.X P.W P.H0 .o env e re) (hk : ∀ d, SSs P nx bk ct (env.set i (some (.o d))) rest (k d))
    (hi : P.X.N[i]? = some x := by rfl) (hx : Loc P.X.env.scope x := by first | exact .inl rfl | exact .inr rfl) (hh : noH P.envH i = true := by rfl)
    (hs : swapsWith e (some (.Name x pos')) pos.line P.X.env = pure false := by rfl) (hf : P.X.fn x = true ∨ P.X.env.scope.names.lookup x = some .local := by first | exact .inl rfl | exact .inr rfl) :
    SSs P nx bk ct env (.Assign [.Name x pos'] e pos :: rest) (re.bind k) := fun D hr hn hb hc σ H ⟨F, a⟩ => by
  refine .cons (ps_set G.nd hi hx pe_W hs hf) ?_
  refine a.ev G h fun d v F' H' _ g q a' => ?_
  obtain ⟨p, e1, n, f, o⟩ := q
  subst e1
  exact hk d D hr hn hb hc _ _ ⟨F', a'.go, a'.en.setO (Hb := H) (own_ne a.en n) (a.en.h0.free n) f o, a'.ho.set hh, a'.eq⟩
/-- x += e -/
theorem ss_aug (G : P.GoodH) {i : Nat} {x : Str} {e : Expr} {re : R D} {k : D → R α} {pos pos' : Pos} {d0 : D} (h : SE P.ca P.X P.W P.H0 .r env e re) (he : env[i]? = some (some (.d d0)) := by rfl) (hk : ∀ d, SSs P nx bk ct (env.set i (some (.d d))) rest (k d))
    (hi : P.X.N[i]? = some x := by rfl) (hx : Loc P.X.env.scope x := by first | exact .inl rfl | exact .inr rfl) (hh : noH P.envH i = true := by rfl)
    (hf : P.X.fn x = true ∨ P.X.env.scope.names.lookup x = some .local := by first | exact .inl rfl | exact .inr rfl)
    {op : Operator} {f : Int → Int → Int} (ho : PIp P.X op (ipI f)) :
    SSs P nx bk ct env (.AugAssign (.Name x pos') op e pos :: rest) (re.bind fun d => (match d0, d with | .int a, .int b => .ok (.int (f a b)) | _, _ => .bad : R D).bind k) := fun D hr hn hb hc σ H ⟨F, a⟩ => by
  obtain ⟨v, h1, h2⟩ := a.en.at_ i _ he
  refine .cons (ps_aug G.nd hi hx pe_W ho) ⟨v, h1, ?_⟩
  refine a.ev G h fun d w F' H' _ g q a' => ?_
  have ae := a'.eq
  cases d0 with
  | int x0 =>
    cases d with
    | int y0 =>
      cases h2
      rw [ar_int q]
      exact ⟨x0, y0, rfl, rfl, hk _ D hr hn hb hc _ _ ⟨F', a'.go, a'.en.setD (.int _), a'.ho.set hh, ae⟩⟩
    | _ => exact absurd ae.symm G.nb
  | _ => exact absurd ae.symm G.nb
/-! ### if -/
theorem ss_if (G : P.GoodH) {S : Type} {c : Expr} {A B : List Stmt} {tc : R Bool} {rA rB : (S → R α) → R α} {k : S → R α} {pos : Pos} (envJ : S → En) (h : ST P.ca P.X P.W P.H0 env c tc)
    (hA : SSs P (jOf envJ k) bk ct env A (rA k)) (hB : SSs P (jOf envJ k) bk ct env B (rB k)) (hk : ∀ s, SSs P nx bk ct (envJ s) rest (k s)) :
    SSs P nx bk ct env (.If c A B pos :: rest) (joinC (fun k => tc.bind fun b => if b = true then rA k else rB k) k) := fun D hr hn hb hc σ H ⟨F, a⟩ => by
  refine .cons (ps_if pt_W pss_W pss_W) ?_
  refine a.evT G h fun b F' H' _ g a' => ?_
  have hj : ∀ e' r', jOf envJ k e' r' → ∀ σ H, At P e' r' σ H → WSs P.X rest D σ H := fun e' r' ⟨s, l, e⟩ σ H ⟨F, a⟩ => by
    subst e
    exact hk s D hr hn hb hc σ H ⟨F, a.weak l⟩
  cases b with
  | true => exact hA { D with nx := fun σ' H' => WSs P.X rest D σ' H' } hr hj hb hc σ H' ⟨F', a'⟩
  | false => exact hB { D with nx := fun σ' H' => WSs P.X rest D σ' H' } hr hj hb hc σ H' ⟨F', a'⟩
/-- an if whose first branch never goes on, without else -/
theorem ss_if1 (G : P.GoodH) {c : Expr} {A : List Stmt} {tc : R Bool} {rA rB : R α} {pos : Pos} (h : ST P.ca P.X P.W P.H0 env c tc)
    (hA : SSs P jNo bk ct env A rA) (hB : SSs P nx bk ct env rest rB) :
    SSs P nx bk ct env (.If c A [] pos :: rest) (tc.bind fun b => if b = true then rA else rB) := fun D hr hn hb hc σ H ⟨F, a⟩ => by
  refine .cons (ps_if pt_W pss_W pss_W) ?_
  refine a.evT G h fun b F' H' _ g a' => ?_
  cases b with
  | true => exact hA { D with nx := fun σ' H' => WSs P.X rest D σ' H' } hr (fun _ _ z => z.elim) hb hc σ H' ⟨F', a'⟩
  | false => exact ⟨_, pss_nil, hB D hr hn hb hc σ H' ⟨F', a'⟩⟩
/-- both branches end for themselves (the last statement) -/
theorem ss_if2 (G : P.GoodH) {c : Expr} {A B : List Stmt} {tc : R Bool} {rA rB : R α} {pos : Pos} (h : ST P.ca P.X P.W P.H0 env c tc)
    (hA : SSs P nx bk ct env A rA) (hB : SSs P nx bk ct env B rB) :
    SSs P nx bk ct env [.If c A B pos] (tc.bind fun b => if b = true then rA else rB) := fun D hr hn hb hc σ H ⟨F, a⟩ => by
  refine ⟨_, pss_one (ps_if pt_W pss_W pss_W), ?_⟩
  refine a.evT G h fun b F' H' _ g a' => ?_
  cases b with
  | true => exact hA D hr hn hb hc σ H' ⟨F', a'⟩
  | false => exact hB D hr hn hb hc σ H' ⟨F', a'⟩

/-! ### what is walked -/
def ItOk (K : PySem.W.Frag) (ca : Ca) (H0 F : Hp) (J : It) (ds : List D) : Prop := ∀ F' H', Le F F' → Le F' H' → Le H0 H' →
  (∀ (i : Nat) d, ds[i]? = some d → J.go i H' ∧ ∀ x H'', J.yld i H' x H'' → ∃ F'', Go F' H' F'' H'' ∧ Rep K ca F'' x d) ∧ J.stop ds.length H'
end
def PostI (ca : Ca) (X : Cx) (H0 : Hp) (E : Ek) (F H : Hp) (r : R (List D)) (Q : It → Hp → Prop) : Prop := match r with
  | .ok ds => ∀ J F' H', Go F H F' H' → ItOk X.K ca H0 F' J ds → Q J H'
  | .er x => ∀ F' H', Go F H F' H' → E x F' H'
  | .bad => False
def SI (ca : Ca) (X : Cx) (W : WX) (H0 : Hp) (env : En) (tg it : Expr) (r : R (List D)) : Prop := ∀ F H σ (Q : It → Hp → Prop), Le F H → EnOk X.K ca H0 F H σ env →
  PostI ca X H0 (ekOf X.K ca W σ) F H r Q → WI X tg it σ H Q
section
variable {ca : Ca} {X : Cx} {W : WX} {H0 : Hp} {env : En} {tg it a b c : Expr} {ra rb rc : R D} {p pos : Pos}
theorem PostI.mono {E : Ek} {F H F' H' : Hp} {r : R (List D)} {Q : It → Hp → Prop} (g : Go F H F' H') (h : PostI ca X H0 E F H r Q) : PostI ca X H0 E F' H' r Q := by
  cases r with
  | ok b => exact fun J F2 H2 g2 => h J F2 H2 (g.trans g2)
  | er x => exact fun F2 H2 g2 => h F2 H2 (g.trans g2)
  | bad => exact h
theorem itok_list {F : Hp} {q : Addr} {vs : List V} {ds : List D} (hs : ∀ F' H', Le F F' → Le F' H' → Le H0 H' → SqL X.K H' q vs) (r : Reps X.K ca F vs ds) : ItOk X.K ca H0 F (Itl X.K q) ds := fun F' H' l1 l2 l3 => by
  have h := hs F' H' l1 l2 l3
  refine ⟨fun i d hd => ?_, ⟨vs, h, by rw [r.length]; exact Nat.le_refl _⟩⟩
  obtain ⟨v, h1, h2⟩ := r.get hd
  refine ⟨⟨vs, v, h, h1⟩, fun x H'' ⟨e, f⟩ => ?_⟩
  subst e
  have e2 : x = v := Option.some.inj ((f _ h).symm.trans h1)
  subst e2
  exact ⟨F', Go.refl l2, h2.mono l1⟩
theorem itok_tup {F : Hp} {q : Addr} {vs : List V} {ds : List D} (hs : SqT X.K F q vs) (r : Reps X.K ca F vs ds) : ItOk X.K ca H0 F (Itt X.K q) ds := fun F' H' l1 l2 l3 => by
  have h := l2.t (l1.t hs)
  refine ⟨fun i d hd => ?_, ⟨vs, h, by rw [r.length]; exact Nat.le_refl _⟩⟩
  obtain ⟨v, h1, h2⟩ := r.get hd
  refine ⟨⟨vs, v, h, h1⟩, fun x H'' ⟨e, f⟩ => ?_⟩
  subst e
  have e2 : x = v := Option.some.inj ((f _ h).symm.trans h1)
  subst e2
  exact ⟨F', Go.refl l2, h2.mono l1⟩
def dItems : D → R (List D)
  | .lst xs => .ok xs
  | .scr xs => .ok xs
  | .tup xs => .ok xs
  | _ => .bad
/-- a list or a tuple that is data -/
theorem si_v (h : SE ca X W H0 .v env a ra) : SI ca X W H0 env tg a (ra.bind dItems) := fun F H σ Q le ok hp => by
  cases ra with
  | er x => exact ⟨_, pi_list pe_W, h F H σ _ le ok hp⟩
  | bad => exact hp.elim
  | ok d =>
    cases d with
    | lst xs =>
      refine ⟨_, pi_list pe_W, h F H σ _ le ok fun v F' H' g q => ?_⟩
      cases q with
      | lst h1 r => exact ⟨_, rfl, ⟨_, .inl (.inl (g.fh _ _ h1))⟩, hp _ F' H' g (itok_list (fun F2 H2 l1 l2 _ => .inl (.inl (l2 _ _ (l1 _ _ h1)))) r)⟩
    | scr xs =>
      refine ⟨_, pi_list pe_W, h F H σ _ le ok fun v F' H' g q => ?_⟩
      cases q with
      | scr h1 r => exact ⟨_, rfl, ⟨_, g.fh.l h1⟩, hp _ F' H' g (itok_list (fun F2 H2 l1 l2 _ => l2.l (l1.l h1)) r)⟩
    | tup xs =>
      refine ⟨_, pi_tup pe_W, h F H σ _ le ok fun v F' H' g q => ?_⟩
      cases q with
      | tup h1 r => exact ⟨_, rfl, ⟨_, g.fh.t h1.t⟩, hp _ F' H' g (itok_tup h1.t r)⟩
    | _ => exact hp.elim
/-- a parameter -/
theorem si_b {i : Nat} {x : Str} {d : D} (he : env[i]? = some (some (.b d)) := by rfl) (hN : X.N[i]? = some x := by rfl)
    (hv : Vis X.env.scope x := by first | exact Or.inl rfl | exact Or.inr (Or.inl rfl) | exact Or.inr (Or.inr rfl)) (hd : (x == ("__debug__" : Str)) = false := by decide) (hcd : (x == ("__classdict__" : Str)) = false := by decide) :
    SI ca X W H0 env tg (.Name x pos) (dItems d) := fun F H σ Q le ok hp => by
  obtain ⟨v, h1, h2⟩ := ok.at_ i _ he
  cases d with
  | lst xs =>
    rcases h2 with h | ⟨q, e, ⟨vs, ds, e2, h, r⟩ | ⟨kvs, ks, ds, e2, _⟩ | ⟨_, _, _, _, _, e2, _⟩ | ⟨_, _, _, e2, _⟩⟩
    · cases h with
      | lst h3 r => exact ⟨_, pi_list (pe_var hN hv hd hcd), _, h1, _, rfl, ⟨_, .inl (.inl (le _ _ h3))⟩, hp _ F H (Go.refl le) (itok_list (fun F2 H2 l1 l2 _ => .inl (.inl (l2 _ _ (l1 _ _ h3)))) r)⟩
    · cases e2
      exact ⟨_, pi_list (pe_var hN hv hd hcd), _, h1, _, e, ⟨_, .inl (.inl (ok.h0 _ _ h))⟩, hp _ F H (Go.refl le) (itok_list (fun F2 H2 l1 l2 l3 => .inl (.inl (l3 _ _ h))) r)⟩
    · cases e2
    · cases e2
    · cases e2
  | scr xs =>
    rcases h2 with h | ⟨q, e, ⟨vs, ds, e2, h, r⟩ | ⟨kvs, ks, ds, e2, _⟩ | ⟨_, _, _, _, _, e2, _⟩ | ⟨_, _, _, e2, _⟩⟩
    · cases h with
      | scr h3 r => exact ⟨_, pi_list (pe_var hN hv hd hcd), _, h1, _, rfl, ⟨_, le.l h3⟩, hp _ F H (Go.refl le) (itok_list (fun F2 H2 l1 l2 _ => l2.l (l1.l h3)) r)⟩
    · cases e2
    · cases e2
    · cases e2
    · cases e2
  | tup xs =>
    rcases h2 with h | ⟨q, e, ⟨vs, ds, e2, h, r⟩ | ⟨kvs, ks, ds, e2, _⟩ | ⟨_, _, _, _, _, e2, _⟩ | ⟨_, _, _, e2, _⟩⟩
    · cases h with
      | tup h3 r => exact ⟨_, pi_tup (pe_var hN hv hd hcd), _, h1, _, rfl, ⟨_, le.t h3.t⟩, hp _ F H (Go.refl le) (itok_tup h3.t r)⟩
    · cases e2
    · cases e2
    · cases e2
    · cases e2
  | _ => exact hp.elim
/-! ranges -/
def inR (i : Int) : Prop := -(2 ^ 62) ≤ i ∧ i < 2 ^ 62
instance (i : Int) : Decidable (inR i) := inferInstanceAs (Decidable (_ ∧ _))
def rngD (lo c : Int) (n : Nat) : List D := (List.range n).map fun (i : Nat) => D.int (lo + (i : Int) * c)
theorem rngD_length (lo c : Int) (n : Nat) : (rngD lo c n).length = n := by unfold rngD; rw [List.length_map, List.length_range]
theorem rngD_get {lo c : Int} {n i : Nat} {d : D} (h : (rngD lo c n)[i]? = some d) : i < n ∧ d = .int (lo + (i : Int) * c) := by
  unfold rngD at h
  rw [List.getElem?_map] at h
  obtain ⟨j, h1, h2⟩ := Option.map_eq_some_iff.mp h
  obtain ⟨hl, e⟩ := List.getElem?_eq_some_iff.mp h1
  rw [List.getElem_range] at e
  rw [List.length_range] at hl
  subst e
  exact ⟨hl, h2.symm⟩
theorem itok_rng {F : Hp} {lo : Int} {n : Nat} : ItOk X.K ca H0 F (Itr lo n) (rngD lo 1 n) := fun F' H' l1 l2 l3 => by
  refine ⟨fun i d hd => ?_, by rw [rngD_length]; exact Nat.le_refl n⟩
  obtain ⟨h1, h2⟩ := rngD_get hd
  subst h2
  refine ⟨h1, fun x H'' ⟨e1, e2⟩ => ?_⟩
  subst e1 e2
  rw [Int.mul_one]
  exact ⟨F', Go.refl l2, .int _⟩
theorem itok_rngC {F : Hp} {lo c : Int} {n : Nat} : ItOk X.K ca H0 F (Itc lo c n) (rngD lo c n) := fun F' H' l1 l2 l3 => by
  refine ⟨fun i d hd => ?_, by rw [rngD_length]; exact Nat.le_refl n⟩
  obtain ⟨h1, h2⟩ := rngD_get hd
  subst h2
  refine ⟨h1, fun x H'' ⟨e1, e2⟩ => ?_⟩
  subst e1 e2
  exact ⟨F', Go.refl l2, .int _⟩
def dRng1 : List D → R (List D)
  | [.int n] => if inR n then .ok (rngD 0 1 n.toNat) else .bad
  | _ => .bad
def dRng2 : List D → R (List D)
  | [.int m, .int n] => if inR m ∧ inR n then .ok (rngD m 1 (n - m).toNat) else .bad
  | _ => .bad
def dRng3 : List D → R (List D)
  | [.int m, .int n, .int c] => if inR m ∧ inR n ∧ c = -1 then .ok (rngD m (-1) (m - n).toNat) else .bad
  | _ => .bad
theorem SA.thenI {ms : List Md} {es : List Expr} {r : R (List D)} {k : List D → R (List D)} {F H : Hp} {σ : L2.St} {Q : It → Hp → Prop} {G : List V → Hp → Prop} (h : SA ca X W H0 ms env es r) (le : Le F H) (ok : EnOk X.K ca H0 F H σ env)
    (hp : PostI ca X H0 (ekOf X.K ca W σ) F H (r.bind k) Q)
    (hg : ∀ ds vs F' H', r = .ok ds → Go F H F' H' → ARs X.K ca F' H' ms vs ds → EnOk X.K ca H0 F' H' σ env → PostI ca X H0 (ekOf X.K ca W σ) F' H' (k ds) Q → G vs H') : WA X es σ H G := by
  refine h F H σ G le ok ?_
  cases r with
  | ok d => exact fun v F' H' g q => hg d v F' H' rfl g q (ok.mono g) (hp.mono g)
  | er x => exact hp
  | bad => exact hp
theorem si_r1 {rs : R (List D)} (h : SA ca X W H0 [.r] env [a] rs) (hm : X.mg "range" = none) (hg : Gl X "range" := by rfl)
    (hs : starEach [a] X.env = [(false, eval a X.env)] := by rfl) : SI ca X W H0 env tg (.Call (.Name "range" p) [a] [] pos) (rs.bind dRng1) := fun F H σ Q le ok hp => by
  refine ⟨_, pi_range1 hg hm pa_W hs, h.thenI le ok hp fun ds vs F' H' _ g q _ hp' => ?_⟩
  unfold dRng1 at hp'
  split at hp'
  · split at hp'
    · rename_i hr
      cases q with
      | consR q1 q2 => cases q2; rw [ar_int q1]; exact ⟨_, rfl, hr.1, hr.2, hp' _ F' H' (Go.refl g.fh) itok_rng⟩
    · exact hp'.elim
  · exact hp'.elim
theorem si_r2 {rs : R (List D)} (h : SA ca X W H0 [.r, .r] env [a, b] rs) (hm : X.mg "range" = none) (hg : Gl X "range" := by rfl)
    (hs : starEach [a, b] X.env = [(false, eval a X.env), (false, eval b X.env)] := by rfl) (hs2 : starEach [b] X.env = [(false, eval b X.env)] := by rfl) :
    SI ca X W H0 env tg (.Call (.Name "range" p) [a, b] [] pos) (rs.bind dRng2) := fun F H σ Q le ok hp => by
  refine ⟨_, pi_range2 hg hm pa_W hs hs2, h.thenI le ok hp fun ds vs F' H' _ g q _ hp' => ?_⟩
  unfold dRng2 at hp'
  split at hp'
  · split at hp'
    · rename_i hr
      cases q with
      | consR q1 q2 => cases q2 with | consR q3 q4 => cases q4; rw [ar_int q1, ar_int q3]; exact ⟨_, _, rfl, ⟨hr.1.1, hr.1.2, hr.2.1, hr.2.2⟩, hp' _ F' H' (Go.refl g.fh) itok_rng⟩
    · exact hp'.elim
  · exact hp'.elim
theorem si_r3 {rs : R (List D)} (h : SA ca X W H0 [.r, .r, .r] env [a, b, c] rs) (hm : X.mg "range" = none) (hg : Gl X "range" := by rfl)
    (hs : starEach [a, b, c] X.env = (false, eval a X.env) :: starEach [b, c] X.env := by rfl) (hpl : (backTo pos (starEach [b, c] X.env)).any (·.1) = false := by rfl) :
    SI ca X W H0 env tg (.Call (.Name "range" p) [a, b, c] [] pos) (rs.bind dRng3) := fun F H σ Q le ok hp => by
  refine ⟨_, pi_range3 hg hm pa_W hs hpl, h.thenI le ok hp fun ds vs F' H' _ g q _ hp' => ?_⟩
  unfold dRng3 at hp'
  split at hp'
  · split at hp'
    · rename_i hr
      obtain ⟨h1, h2, rfl⟩ := hr
      cases q with
      | consR q1 q2 => cases q2 with | consR q3 q4 => cases q4 with | consR q5 q6 => cases q6; rw [ar_int q1, ar_int q3, ar_int q5]; exact ⟨_, _, -1, _, rfl, RgC.neg h1.1 h1.2 h2.1 h2.2, hp' _ F' H' (Go.refl g.fh) itok_rngC⟩
    · exact hp'.elim
  · exact hp'.elim
end

/-! ### for -/
def forC {S α : Type} : List D → S → (D → S → (S → R α) → (S → R α) → R α) → (S → R α) → R α
  | [], s, _, after => after s
  | d :: ds, s, body, after => body d s (fun s' => forC ds s' body after) after
def Pt.at {α : Type} (P : Pt α) (F : Hp) : Pt α := { P with F0 := F }
section
variable {α : Type} {P : Pt α} {nx bk ct : Jp α} {env : En} {rest : List Stmt}
theorem go_at {F0 H0 F1 H1 F H : Hp} (a : Go F0 H0 F1 H1) (b : Go F1 H0 F H) : Go F0 H0 F H := ⟨a.f.trans b.f, b.h, b.fh, fun p o h n => b.fr p o h (a.fr p o h n)⟩
theorem Pt.GoodH.at {F1 H1 : Hp} (G : P.GoodH) (g : Go P.F0 P.H0 F1 H1) : (P.at F1).GoodH :=
  ⟨G.nd, G.hp, fun d v F H e g2 q => G.rt d v F H e (go_at g g2) q, fun x F H σ e g2 h => G.er x F H σ e (go_at g g2) h, G.nb, G.rb, G.st.monoF g.f⟩
theorem Pt.Good.at {F1 H1 : Hp} (G : P.Good) (g : Go P.F0 P.H0 F1 H1) : (P.at F1).Good :=
  ⟨G.nd, G.calm, G.hp, fun d v F H e g2 q => G.rt d v F H e (go_at g g2) q, fun x F H σ e g2 h => G.er x F H σ e (go_at g g2) h, G.nb, G.rb, G.st.monoF g.f⟩
theorem AtF.up {F1 H1 F H : Hp} {σ : L2.St} {r : R α} (g : Go P.F0 P.H0 F1 H1) (a : AtF (P.at F1) F env r σ H) : AtF P F env r σ H := ⟨go_at g a.go, a.en, a.ho, a.eq⟩
theorem AtF.at {F H : Hp} {σ : L2.St} {r : R α} (a : AtF P F env r σ H) : AtF (P.at F) F env r σ H :=
  ⟨⟨Le.refl F, a.go.h, a.go.fh, fun _ _ _ n => n⟩, a.en, a.ho, a.eq⟩
/-- the core: g stores the item -/
theorem ss_forG (G : P.Good) {S : Type} {tg it : Expr} {body : List Stmt} {ri : R (List D)} {bodyM : D → S → (S → R α) → (S → R α) → R α} {after : S → R α} {pos : Pos} {g : TG} (envL : S → En) (s0 : S)
    (hi : SI P.ca P.X P.W P.H0 env tg it ri) (hg : PG P.X tg g)
    (hst : ∀ F1, (P.at F1).Good → ∀ d s nxt brk, ∀ (D : Ends) σ H F v, D.rt = P.Q → (∀ e' r', jOf envL nxt e' r' → ∀ σ H, At (P.at F1) e' r' σ H → D.nx σ H) → (∀ e' r', jOf envL brk e' r' → ∀ σ H, At (P.at F1) e' r' σ H → D.bk σ H) →
      (∀ e' r', jOf envL nxt e' r' → ∀ σ H, At (P.at F1) e' r' σ H → D.ct σ H) → Rep P.X.K P.ca F v d → AtF (P.at F1) F (envL s) (bodyM d s nxt brk) σ H → g v σ H (fun σ2 H2 => WSs P.X body D σ2 H2))
    (h0 : EnLe (envL s0) env) (hk : ∀ s, SSs P nx bk ct (envL s) rest (after s)) (hs : ∀ x, foldedSetIterable it P.X.env x = pure x := by intro _; rfl) :
    SSs P nx bk ct env (.For tg it body [] pos :: rest) (ri.bind fun ds => forC ds s0 bodyM after) := fun D hr hn hb hc σ H ⟨F, a⟩ => by
  refine .cons (ps_for G.hp G.calm pi_W hg pss_W hs) ?_
  have ae := a.eq
  refine hi F H σ _ a.go.fh a.en ?_
  cases ri with
  | er x => exact fun F' H' g => G.er x F' H' σ ae.symm (a.go.trans g) (a.ho.mono g)
  | bad => exact G.nb ae.symm
  | ok ds =>
    intro J F1 H1 g1 io
    have a1 : AtF P F env (forC ds s0 bodyM after) σ H := ⟨a.go, a.en, a.ho, ae⟩
    have a1 := (a1.mono g1).weak h0
    have g01 := a1.go
    have G1 := G.at g01
    refine ⟨fun i m σ H => m = ds.length - i ∧ i ≤ ds.length ∧ ∃ s, ∃ F2, AtF (P.at F1) F2 (envL s) (forC (ds.drop i) s bodyM after) σ H, ⟨ds.length, by omega, Nat.zero_le _, s0, F1, a1.at⟩, ?_⟩
    rintro i m σ2 H2 ⟨rfl, hi2, s, F2, a2⟩
    have io2 := io F2 H2 a2.go.f a2.go.fh a2.en.h0
    by_cases hlt : i < ds.length
    · refine .inr ?_
      have hd : ds[i]? = some ds[i] := List.getElem?_eq_getElem hlt
      obtain ⟨hgo, hy⟩ := io2.1 i _ hd
      refine ⟨hgo, fun σ' H' => i + 1 ≤ ds.length ∧ ∃ s, ∃ F2, AtF (P.at F1) F2 (envL s) (forC (ds.drop (i + 1)) s bodyM after) σ' H', fun σ' H' ⟨h1, h2⟩ => ⟨_, by omega, rfl, h1, h2⟩, fun x H3 hyd => ?_⟩
      obtain ⟨F3, g3, q3⟩ := hy x H3 hyd
      have a3 := a2.mono g3
      have e3 : forC (ds.drop i) s bodyM after = bodyM ds[i] s (fun s' => forC (ds.drop (i + 1)) s' bodyM after) after := by
        rw [List.drop_eq_getElem_cons hlt]; rfl
      rw [e3] at a3
      refine hst F1 G1 ds[i] s (fun s' => forC (ds.drop (i + 1)) s' bodyM after) after _ σ2 H3 F3 x hr ?_ ?_ ?_ q3 a3
      · rintro e' r' ⟨s', l, rfl⟩ σ4 H4 ⟨F4, a4⟩
        exact ⟨hlt, s', F4, a4.weak l⟩
      · rintro e' r' ⟨s', l, rfl⟩ σ4 H4 ⟨F4, a4⟩
        exact hk s' D hr hn hb hc σ4 H4 ⟨F4, (a4.weak l).up g01⟩
      · rintro e' r' ⟨s', l, rfl⟩ σ4 H4 ⟨F4, a4⟩
        exact ⟨hlt, s', F4, a4.weak l⟩
    · have e : i = ds.length := by omega
      subst e
      refine .inl ⟨io2.2, ?_⟩
      rw [List.drop_length] at a2
      exact hk s D hr hn hb hc σ2 H2 ⟨F2, a2.up g01⟩
theorem ss_for (G : P.Good) {S : Type} {x : Str} {it : Expr} {body : List Stmt} {ri : R (List D)} {bodyM : D → S → (S → R α) → (S → R α) → R α} {after : S → R α} {pos pos' : Pos} {j : Nat} (envL : S → En) (s0 : S)
    (hi : SI P.ca P.X P.W P.H0 env (.Name x pos') it ri)
    (hb : ∀ F1, (P.at F1).Good → ∀ d s nxt brk, SSs (P.at F1) (jOf envL nxt) (jOf envL brk) (jOf envL nxt) ((envL s).set j (some (.d d))) body (bodyM d s nxt brk))
    (h0 : EnLe (envL s0) env) (hk : ∀ s, SSs P nx bk ct (envL s) rest (after s)) (hs : ∀ x, foldedSetIterable it P.X.env x = pure x := by intro _; rfl)
    (hj : P.X.N[j]? = some x := by rfl) (hx : Loc P.X.env.scope x := by first | exact .inl rfl | exact .inr rfl) (hh : noH P.envH j = true := by rfl)
    (hf : P.X.fn x = true ∨ P.X.env.scope.names.lookup x = some .local := by first | exact .inl rfl | exact .inr rfl) :
    SSs P nx bk ct env (.For (.Name x pos') it body [] pos :: rest) (ri.bind fun ds => forC ds s0 bodyM after) :=
  ss_forG G envL s0 hi (pg_name G.nd hj hx hf) (fun F1 G1 d s nxt brk D σ H F v hr hn hbk hc q a => hb F1 G1 d s nxt brk D hr hn hbk hc _ _ ⟨F, a.go, a.en.setD q, a.ho.set hh, a.eq⟩) h0 hk hs
def unp2 {β : Type} (d : D) (k : D → D → R β) : R β := match d with
  | .tup [a, b] => k a b
  | _ => .bad
def unp3 {β : Type} (d : D) (k : D → D → D → R β) : R β := match d with
  | .tup [a, b, c] => k a b c
  | _ => .bad

/-! ### while -/
def whileC {S α : Type} : Nat → S → (S → R Bool) → (S → (S → R α) → (S → R α) → R α) → (S → R α) → R α
  | 0, _, _, _, _ => .bad
  | n + 1, s, c, body, after => (c s).bind fun b => if b = true then body s (fun s' => whileC n s' c body after) after else after s
theorem ss_while (G : P.GoodH) {S : Type} {c : Expr} {body : List Stmt} {cM : S → R Bool} {bodyM : S → (S → R α) → (S → R α) → R α} {after : S → R α} {pos : Pos} {n : Nat} (envL : S → En) (s0 : S)
    (hc : ∀ s, ST P.ca P.X P.W P.H0 (envL s) c (cM s))
    (hb : ∀ s nxt brk, SSs P (jOf envL nxt) (jOf envL brk) (jOf envL nxt) (envL s) body (bodyM s nxt brk))
    (h0 : EnLe (envL s0) env) (hk : ∀ s, SSs P nx bk ct (envL s) rest (after s)) :
    SSs P nx bk ct env (.While c body [] pos :: rest) (whileC n s0 cM bodyM after) := fun D hr hn hbk hct σ H ⟨F, a⟩ => by
  refine .cons (ps_while G.hp pt_W pss_W) ?_
  refine ⟨fun m σ H => ∃ s F, AtF P F (envL s) (whileC m s cM bodyM after) σ H, ⟨n, s0, F, a.weak h0⟩, ?_⟩
  rintro m σ2 H2 ⟨s, F2, a2⟩
  cases m with
  | zero => exact absurd a2.eq.symm G.nb
  | succ m =>
    have a3 : AtF P F2 (envL s) ((cM s).bind fun b => if b = true then bodyM s (fun s' => whileC m s' cM bodyM after) after else after s) σ2 H2 := ⟨a2.go, a2.en, a2.ho, a2.eq⟩
    refine a3.evT G (hc s) fun b F' H' _ g a' => ?_
    cases b with
    | false => exact hk s D hr hn hbk hct σ2 H' ⟨F', a'⟩
    | true =>
      refine ⟨fun σ' H' => ∃ s F, AtF P F (envL s) (whileC m s cM bodyM after) σ' H', fun σ' H' h => ⟨m, Nat.lt_succ_self m, h⟩, ?_⟩
      refine hb s (fun s' => whileC m s' cM bodyM after) after { nx := fun σ' H' => ∃ s F, AtF P F (envL s) (whileC m s cM bodyM after) σ' H', rt := D.rt, bk := fun σ' H' => WSs P.X rest D σ' H', ct := fun σ' H' => ∃ s F, AtF P F (envL s) (whileC m s cM bodyM after) σ' H' } hr ?_ ?_ ?_ σ2 H' ⟨F', a'⟩
      · rintro e' r' ⟨s', l, rfl⟩ σ4 H4 ⟨F4, a4⟩
        exact ⟨s', F4, a4.weak l⟩
      · rintro e' r' ⟨s', l, rfl⟩ σ4 H4 ⟨F4, a4⟩
        exact hk s' D hr hn hbk hct σ4 H4 ⟨F4, a4.weak l⟩
      · rintro e' r' ⟨s', l, rfl⟩ σ4 H4 ⟨F4, a4⟩
        exact ⟨s', F4, a4.weak l⟩
end
end Um

namespace Um
open L2 PySem PySem.Spec PyProof.Rows

/-! ## Comprehensions -/
def noEr {β : Type} : R β → R β
  | .er _ => .bad
  | r => r
@[simp] theorem noEr_ok {β : Type} (a : β) : noEr (.ok a) = .ok a := (Eq.refl _).trans (Eq.refl _)
def compC : List D → (D → R Bool) → (D → R D) → R (List D)
  | [], _, _ => .ok []
  | d :: ds, c, e => (noEr (c d)).bind fun b => if b = true then (noEr (e d)).bind fun x => (compC ds c e).bind fun xs => .ok (x :: xs) else compC ds c e
def yes : D → R Bool := fun _ => .ok true
abbrev W0 : WX := fun _ _ _ _ => False
abbrev BX (X : Cx) (s : Shared) (H : Hp) (scope : Scope) (C : Addr) (cl : List (Str × Addr)) (fp : List Addr) : Cx := X.blk s H scope (compEnvC scope cl C X.env) fp
def wipeE (env : En) : List Nat → En
  | [] => env
  | v :: vs => (wipeE env vs).set v none
section
variable {K : PySem.W.Frag} {ca : Ca} {X : Cx} {W : WX} {H0 F H : Hp} {env : En} {σ : L2.St}
theorem EnOk.setN {i : Nat} (h : EnOk K ca H0 F H σ env) : EnOk K ca H0 F H (σ.set i none) (env.set i none) := by
  refine ⟨h.h0, by rw [List.length_set, List.length_set, h.len], fun j s hj => ?_, fun j k x y hj hk e => ?_, h.st⟩
  · rcases set_some hj with ⟨_, e⟩ | ⟨ne, hj'⟩
    · cases e
    · obtain ⟨u, h1, h2⟩ := h.at_ j s hj'
      exact ⟨u, by rw [List.getElem?_set_ne ne]; exact h1, h2⟩
  · rcases set_some hj with ⟨_, e1⟩ | ⟨n1, hj'⟩
    · cases e1
    · rcases set_some hk with ⟨_, e2⟩ | ⟨n2, hk'⟩
      · cases e2
      · rw [List.getElem?_set_ne n1, List.getElem?_set_ne n2] at e
        exact h.own j k x y hj' hk' e
theorem EnOk.wipe (h : EnOk K ca H0 F H σ env) : ∀ vs : List Nat, EnOk K ca H0 F H (L2.wipe σ vs) (wipeE env vs)
  | [] => h
  | v :: vs => (EnOk.wipe h vs).setN
/-- the tests of a comprehension -/
def WTs (X : Cx) (ifs : List Expr) : TT := fun σ H Q => ∃ t, PTs X ifs t ∧ t σ H Q
def STs (ca : Ca) (X : Cx) (W : WX) (H0 : Hp) (env : En) (ifs : List Expr) (r : R Bool) : Prop := ∀ F H σ Q, Le F H → EnOk X.K ca H0 F H σ env → PostB (ekOf X.K ca W σ) F H r Q → WTs X ifs σ H Q
theorem sts_nil : STs ca X W H0 env [] (.ok true) := fun F H σ Q le ok hp => ⟨_, pts_nil, hp F H (Go.refl le)⟩
theorem sts_one {c : Expr} {tc : R Bool} (h : ST ca X W H0 env c tc) : STs ca X W H0 env [c] tc := fun F H σ Q le ok hp => ⟨_, pts_one pt_W, h F H σ Q le ok hp⟩
/-- a comprehension's reading -/
def lcT (X : Cx) (scope : Scope) (elt : Expr) : TE := fun σ H Q => ∀ (s : Shared) (Hb : Hp) (C : Addr) (cl : List (Str × Addr)) (fp : List Addr), Um.WE (BX X s Hb scope C cl fp) elt σ H Q
def lcTT (X : Cx) (scope : Scope) (ifs : List Expr) : TT := fun σ H Q => ∀ (s : Shared) (Hb : Hp) (C : Addr) (cl : List (Str × Addr)) (fp : List Addr), WTs (BX X s Hb scope C cl fp) ifs σ H Q
theorem lcT_ok {scope : Scope} {elt : Expr} (s : Shared) (Hb : Hp) (C : Addr) (cl : List (Str × Addr)) (fp : List Addr) : PE (BX X s Hb scope C cl fp) elt (lcT X scope elt) := ⟨fun pins s1 σ H Q I h => by
  obtain ⟨t, p, q⟩ := h s Hb C cl fp
  exact p.run pins s1 σ H Q I q⟩
theorem lcTT_ok {scope : Scope} {ifs : List Expr} (s : Shared) (Hb : Hp) (C : Addr) (cl : List (Str × Addr)) (fp : List Addr) : PTs (BX X s Hb scope C cl fp) ifs (lcTT X scope ifs) := ⟨fun pins s1 σ H Q I h => by
  obtain ⟨t, p, q⟩ := h s Hb C cl fp
  exact p.run pins s1 σ H Q I q⟩
theorem compC_noer {c : D → R Bool} {e : D → R D} {z : Exc} : ∀ {ds : List D}, compC ds c e = .er z → False
  | [], h => by cases h
  | d :: ds, h => by
    unfold compC at h
    cases hc : c d with
    | er y => rw [hc] at h; cases h
    | bad => rw [hc] at h; cases h
    | ok b =>
      rw [hc] at h
      cases b with
      | false => exact compC_noer h
      | true =>
        have h' : ((noEr (e d)).bind fun x => (compC ds c e).bind fun xs => .ok (x :: xs)) = .er z := h
        cases he : e d with
        | er y => rw [he] at h'; cases h'
        | bad => rw [he] at h'; cases h'
        | ok x =>
          rw [he] at h'
          cases hq : compC ds c e with
          | er y => exact compC_noer hq
          | bad => rw [hq] at h'; cases h'
          | ok xs => rw [hq] at h'; cases h'
def finC (xs : List D) : R D := if short xs then .ok (.lst xs) else .bad
/-- the item goes to one name -/
theorem lc_reading {x : Str} {px : Pos} {j : Nat} {it elt : Expr} {ifs : List Expr} {scope : Scope} {ri : R (List D)} {cM : D → R Bool} {eM : D → R D}
    (hi : SI ca X W H0 env (.Name x px) it ri)
    (hc : ∀ d s Hb C cl fp, STs ca (BX X s Hb scope C cl fp) W0 H0 ((env.set j none).set j (some (.d d))) ifs (cM d))
    (he : ∀ d s Hb C cl fp, SE ca (BX X s Hb scope C cl fp) W0 H0 .v ((env.set j none).set j (some (.d d))) elt (eM d)) :
    ∀ F H σ Q, Le F H → EnOk X.K ca H0 F H σ env → Post X.K ca .o (ekOf X.K ca W σ) F H (ri.bind fun ds => (compC ds cM eM).bind finC) Q →
      tLc (WI X (.Name x px) it) (gName j) (lcTT X scope ifs) (lcT X scope elt) [j] σ H Q := fun F H σ Q le ok hp => by
  refine hi F H σ _ le ok ?_
  cases ri with
  | er x => exact hp
  | bad => exact hp.elim
  | ok ds =>
    intro J F1 H1 g1 io Dl hD
    have hp1 : Post X.K ca .o (ekOf X.K ca W σ) F1 H1 ((compC ds cM eM).bind finC) Q := Post.mono g1 hp
    have ok1 := ok.mono g1
    have nb : (compC ds cM eM).bind finC ≠ .bad := fun z => by rw [z] at hp1; exact hp1
    have hF1 : F1 Dl = none := g1.fh.free hD
    refine ⟨fun i m H' => m = ds.length - i ∧ i ≤ ds.length ∧ ∃ F2 vs acc, Go F1 H1 F2 H' ∧ F2 Dl = none ∧ H' Dl = some (.lst vs) ∧ Reps X.K ca F2 vs acc ∧ (((compC (ds.drop i) cM eM).bind fun xs => finC (acc ++ xs)) = (compC ds cM eM).bind finC), ?_, ?_⟩
    · refine ⟨ds.length, by omega, Nat.zero_le _, F1, [], [], ⟨Le.refl F1, Le.new hD, g1.fh.trans (Le.new hD), fun _ _ _ n => n⟩, hF1, upd_same, .nil, rfl⟩
    · rintro i m H' ⟨rfl, hil, F2, ws, acc, g2, hn, hl, r, eq⟩
      have io2 := io F2 H' g2.f g2.fh (ok1.h0.trans g2.h)
      by_cases hlt : i < ds.length
      · refine .inr ?_
        have hd : ds[i]? = some ds[i] := List.getElem?_eq_getElem hlt
        obtain ⟨hgo, hy⟩ := io2.1 i _ hd
        refine ⟨hgo, fun H' => i + 1 ≤ ds.length ∧ ∃ F2 vs acc, Go F1 H1 F2 H' ∧ F2 Dl = none ∧ H' Dl = some (.lst vs) ∧ Reps X.K ca F2 vs acc ∧ (((compC (ds.drop (i + 1)) cM eM).bind fun xs => finC (acc ++ xs)) = (compC ds cM eM).bind finC), fun H' ⟨a, b⟩ => ⟨_, by omega, rfl, a, b⟩, fun v H3 hyd => ?_⟩
        obtain ⟨F3, g3, q3⟩ := hy v H3 hyd
        have g13 := g2.trans g3
        have hn3 : F3 Dl = none := g3.fr Dl _ hl hn
        have hl3 := g3.h _ _ hl
        have r3 := r.mono g3.f
        have ok3 : EnOk X.K ca H0 F3 H3 ((L2.wipe σ [j]).set j (some v)) ((env.set j none).set j (some (.d ds[i]))) := ((ok1.mono g13).wipe [j]).setD q3
        show L2.wipe ((L2.wipe σ [j]).set j (some v)) [j] = L2.wipe σ [j] ∧ lcTT X scope ifs ((L2.wipe σ [j]).set j (some v)) H3 _
        refine ⟨by show (((σ.set j none).set j (some v)).set j none) = σ.set j none; rw [List.set_set, List.set_set], fun s Hb C cl fp => ?_⟩
        rw [List.drop_eq_getElem_cons hlt] at eq
        have eq' : ((noEr (cM ds[i])).bind fun b => if b = true then (noEr (eM ds[i])).bind fun x => (compC (ds.drop (i + 1)) cM eM).bind fun xs => finC (acc ++ (x :: xs)) else (compC (ds.drop (i + 1)) cM eM).bind fun xs => finC (acc ++ xs)) = (compC ds cM eM).bind finC := by
          rw [← eq]
          show _ = (((noEr (cM ds[i])).bind fun b => if b = true then (noEr (eM ds[i])).bind fun x => (compC (ds.drop (i + 1)) cM eM).bind fun xs => .ok (x :: xs) else compC (ds.drop (i + 1)) cM eM).bind fun xs => finC (acc ++ xs))
          cases noEr (cM ds[i]) with
          | ok b =>
            cases b with
            | true =>
              show (noEr (eM ds[i])).bind _ = ((noEr (eM ds[i])).bind _).bind _
              cases noEr (eM ds[i]) with
              | ok x =>
                show (compC _ cM eM).bind _ = ((compC _ cM eM).bind _).bind _
                cases compC (ds.drop (i + 1)) cM eM <;> rfl
              | er x => rfl
              | bad => rfl
            | false => rfl
          | er x => rfl
          | bad => rfl
        refine hc ds[i] s Hb C cl fp F3 H3 _ _ g13.fh ok3 ?_
        cases hcd : cM ds[i] with
        | er z => rw [hcd] at eq'; exact absurd eq'.symm nb
        | bad => rw [hcd] at eq'; exact absurd eq'.symm nb
        | ok b =>
          rw [hcd] at eq'
          intro F4 H4 g4
          have hn4 : F4 Dl = none := g4.fr Dl _ hl3 hn3
          cases b with
          | false => exact ⟨hlt, F4, ws, acc, g13.trans g4, hn4, g4.h _ _ hl3, r3.mono g4.f, eq'⟩
          | true =>
            intro s Hb C cl fp
            refine he ds[i] s Hb C cl fp F4 H4 _ _ g4.fh (ok3.mono g4) ?_
            cases hed : eM ds[i] with
            | er z => rw [hed] at eq'; exact absurd eq'.symm nb
            | bad => rw [hed] at eq'; exact absurd eq'.symm nb
            | ok y =>
              rw [hed] at eq'
              intro w F5 H5 g5 q5
              have hn5 : F5 Dl = none := g5.fr Dl _ (g4.h _ _ hl3) hn4
              have g15 := (g13.trans g4).trans g5
              have eq2 : ((compC (ds.drop (i + 1)) cM eM).bind fun xs => finC (acc ++ [y] ++ xs)) = (compC ds cM eM).bind finC := by
                rw [← eq']
                show _ = (compC (ds.drop (i + 1)) cM eM).bind fun xs => finC (acc ++ (y :: xs))
                simp only [List.append_assoc, List.singleton_append]
              refine ⟨ws, g5.h _ _ (g4.h _ _ hl3), ?_, hlt, F5, ws ++ [w], acc ++ [y], ⟨g15.f, fun a u e => ?_, fun a u e => ?_, g15.fr⟩, hn5, upd_same, (r3.mono (g4.f.trans g5.f)).snoc q5, eq2⟩
              · rw [r.length]
                cases hq : compC (ds.drop (i + 1)) cM eM with
                | er z =>
                  -- no error comes out of a comprehension
                  rw [hq] at eq2
                  exact absurd eq2.symm (fun z2 => by rw [z2] at hp1; exact (compC_noer (z := z) hq).elim)
                | bad => rw [hq] at eq2; exact absurd eq2.symm nb
                | ok xs =>
                  rw [hq] at eq2
                  have e3 : finC (acc ++ [y] ++ xs) = (compC ds cM eM).bind finC := eq2
                  unfold finC at e3
                  split at e3
                  · rename_i hs
                    unfold short at hs
                    rw [List.length_append, List.length_append, List.length_singleton] at hs
                    omega
                  · exact absurd e3.symm nb
              · rw [upd_ne (ne_of_none e hD)]; exact g15.h a u e
              · rw [upd_ne (ne_of_none e hn5)]; exact g15.fh a u e
      · have e : i = ds.length := by omega
        subst e
        refine .inl ⟨io2.2, ?_⟩
        rw [List.drop_length] at eq
        have e2 : finC acc = (compC ds cM eM).bind finC := by rw [← eq]; show _ = finC (acc ++ []); rw [List.append_nil]
        rw [← e2] at hp1 nb
        unfold finC at hp1 nb
        split at hp1
        · exact hp1 _ F2 H' g2 ⟨Dl, rfl, hD, hn, .inl ⟨ws, acc, rfl, hl, r⟩⟩
        · exact hp1.elim
end
end Um

namespace Um
open L2 PySem PySem.Spec PyProof.Rows
section
variable {ca : Ca} {X : Cx} {W : WX} {H0 : Hp} {env : En}
theorem se_comp {x : Str} {px pos : Pos} {j : Nat} {it elt : Expr} {ifs : List Expr} {scope : Scope} {ri : R (List D)} {cM : D → R Bool} {eM : D → R D} (hN : X.N.Nodup) (hcm : X.calm = true)
    (ok : BlkOk X.N X.env.scope scope [(x, j)]) (hi : SI ca X W H0 env (.Name x px) it ri)
    (hc : ∀ d s Hb C cl fp, STs ca (BX X s Hb scope C cl fp) W0 H0 ((env.set j none).set j (some (.d d))) ifs (cM d))
    (he : ∀ d s Hb C cl fp, SE ca (BX X s Hb scope C cl fp) W0 H0 .v ((env.set j none).set j (some (.d d))) elt (eM d))
    (hj : X.N[j]? = some x := by rfl) (hx : ∀ s Hb C cl fp, Loc (BX X s Hb scope C cl fp).env.scope x := by intro s Hb C cl fp; first | exact .inl rfl | exact .inr rfl) (hf : ∀ s Hb C cl fp, (BX X s Hb scope C cl fp).fn x = true ∨ (BX X s Hb scope C cl fp).env.scope.names.lookup x = some .local := by intro s Hb C cl fp; first | exact .inr rfl | exact .inl rfl)
    (hs : ∀ x, foldedSetIterable it X.env x = pure x := by intro _; rfl) :
    SE ca X W H0 .o env (.ListComp elt [⟨.Name x px, it, ifs, 0⟩] scope pos) (ri.bind fun ds => (compC ds cM eM).bind finC) := fun F H σ Q le okE hp =>
  ⟨_, pe_lc (own := [(x, j)]) hcm hN pi_W ok (fun s H C cl fp => pg_name (X := BX X s H scope C cl fp) hN hj (hx s H C cl fp) (hf s H C cl fp)) (fun s H C cl fp => lcTT_ok s H C cl fp) (fun s H C cl fp => lcT_ok s H C cl fp) hs, lc_reading hi hc he F H σ Q le okE hp⟩
end
section
variable {α : Type} {P : Pt α} {nx bk ct : Jp α} {env : En} {rest : List Stmt}
/-- y = [e for x in it if ..], y a local of the frame -/
theorem ss_setLcO (G : P.Good) {i : Nat} {y x : Str} {py px pos spos : Pos} {j : Nat} {it elt : Expr} {ifs : List Expr} {scope : Scope} {ri : R (List D)} {cM : D → R Bool} {eM : D → R D} {k : D → R α}
    (ok : BlkOk P.X.N P.X.env.scope scope [(x, j)]) (hi : SI P.ca P.X P.W P.H0 env (.Name x px) it ri)
    (hc : ∀ d s Hb C cl fp, STs P.ca (BX P.X s Hb scope C cl fp) W0 P.H0 ((env.set j none).set j (some (.d d))) ifs (cM d))
    (he : ∀ d s Hb C cl fp, SE P.ca (BX P.X s Hb scope C cl fp) W0 P.H0 .v ((env.set j none).set j (some (.d d))) elt (eM d))
    (hk : ∀ d, SSs P nx bk ct (env.set i (some (.o d))) rest (k d))
    (hy : P.X.N[i]? = some y := by rfl) (hyl : P.X.env.scope.names.lookup y = some .local := by rfl) (hh : noH P.envH i = true := by rfl)
    (hsw : swapsWith (.ListComp elt [⟨.Name x px, it, ifs, 0⟩] scope pos) (some (.Name y py)) spos.line P.X.env = pure true := by exact sw_true rfl rfl rfl (by decide +kernel))
    (hj : P.X.N[j]? = some x := by rfl) (hx : ∀ s Hb C cl fp, Loc (BX P.X s Hb scope C cl fp).env.scope x := by intro s Hb C cl fp; first | exact .inl rfl | exact .inr rfl) (hf : ∀ s Hb C cl fp, (BX P.X s Hb scope C cl fp).fn x = true ∨ (BX P.X s Hb scope C cl fp).env.scope.names.lookup x = some .local := by intro s Hb C cl fp; first | exact .inr rfl | exact .inl rfl)
    (hs : ∀ x, foldedSetIterable it P.X.env x = pure x := by intro _; rfl) :
    SSs P nx bk ct env (.Assign [.Name y py] (.ListComp elt [⟨.Name x px, it, ifs, 0⟩] scope pos) spos :: rest) ((ri.bind fun ds => (compC ds cM eM).bind finC).bind k) := fun D hr hn hb hct σ H ⟨F, a⟩ => by
  refine .cons (ps_setLc (own := [(x, j)]) G.calm G.nd hy hyl hsw pi_W ok (fun s H C cl fp => pg_name (X := BX P.X s H scope C cl fp) G.nd hj (hx s H C cl fp) (hf s H C cl fp)) (fun s H C cl fp => lcTT_ok s H C cl fp) (fun s H C cl fp => lcT_ok s H C cl fp) hs) ?_
  refine lc_reading (W := P.W) (Q := fun v H' => WSs P.X rest D (σ.set i (some v)) H') hi hc he F H σ a.go.fh a.en ?_
  have ae := a.eq
  cases hq : (ri.bind fun ds => (compC ds cM eM).bind finC) with
  | er z =>
    rw [hq] at ae
    exact fun F' H' g => G.er z F' H' σ ae.symm (a.go.trans g) (a.ho.mono g)
  | bad => rw [hq] at ae; exact G.nb ae.symm
  | ok d =>
    rw [hq] at ae
    intro v F' H' g q
    obtain ⟨p, e1, n, f, o⟩ := q
    subst e1
    have a' := (⟨a.go, a.en, a.ho, ae⟩ : AtF P F env (k d) σ H).mono g
    exact hk d D hr hn hb hct _ _ ⟨F', a'.go, a'.en.setO (Hb := H) (own_ne a.en n) (a.en.h0.free n) f o, a'.ho.set hh, a'.eq⟩
/-! ### a list of one's own changes -/
def lstOf (x : D) : R (List D) := match x with
  | .lst xs => .ok xs
  | _ => .bad
@[simp] theorem lstOf_lst (xs : List D) : lstOf (.lst xs) = .ok xs := (Eq.refl _).trans (Eq.refl _)
def dApp (xs : List D) (d : D) : R D := if xs.length < sizeLine then .ok (.lst (xs ++ [d])) else .bad
theorem ownLst {K : PySem.W.Frag} {ca : Ca} {F H : Hp} {p : Addr} {xs : List D} (o : OwnAt K ca F H p (.lst xs)) : ∃ vs, H p = some (.lst vs) ∧ Reps K ca F vs xs := by
  rcases o with ⟨vs, ds, e, h, r⟩ | ⟨kvs, ks, ds, e, h, q, r⟩ | ⟨_, _, _, _, _, e, _⟩ | ⟨_, _, _, e, _⟩
  · cases e; exact ⟨vs, h, r⟩
  · cases e
  · cases e
  · cases e
theorem lstOf_ok {x : D} {k : List D → R α} (h : (lstOf x).bind k ≠ .bad) : ∃ xs, x = .lst xs := by
  cases x with
  | lst xs => exact ⟨xs, rfl⟩
  | _ => exact absurd rfl h
/-- behind e, the list changes -/
theorem AtF.mut {F H : Hp} {σ : L2.St} {i : Nat} {p : Addr} {x d : D} {ob : HO} {r : R α} (a : AtF P F env r σ H) (he : env[i]? = some (some (.o x))) (hs : σ[i]? = some (some (.ref p))) (n : P.H0 p = none) (f : F p = none) (o : OwnAt P.X.K P.ca F (upd H p ob) p d) :
    AtF P F (env.set i (some (.o d))) r σ (upd H p ob) := by
  refine ⟨⟨a.go.f, fun b u e => ?_, fun b u e => ?_, a.go.fr⟩, a.en.mut he hs n f o, a.ho, a.eq⟩
  · rw [upd_ne (ne_of_none e n)]; exact a.go.h b u e
  · rw [upd_ne (ne_of_none e f)]; exact a.go.fh b u e
theorem ss_app (G : P.GoodH) {i : Nat} {x : Str} {e : Expr} {re : R D} {k : D → R α} {d0 : D} {px apos cpos pos : Pos} (h : SE P.ca P.X P.W P.H0 .v env e re) (he : env[i]? = some (some (.o d0)) := by rfl)
    (hk : ∀ d, SSs P nx bk ct (env.set i (some (.o d))) rest (k d)) (hN : P.X.N[i]? = some x := by rfl)
    (hv : Vis P.X.env.scope x := by first | exact Or.inl rfl | exact Or.inr (Or.inl rfl) | exact Or.inr (Or.inr rfl)) (hd : (x == ("__debug__" : Str)) = false := by decide) (hcd : (x == ("__classdict__" : Str)) = false := by decide)
    (hs : starEach [e] P.X.env = (false, eval e P.X.env) :: starEach [] P.X.env := by rfl)
    (hbase : attributeBase (.Name x px) "append" P.X.env (eval (.Name x px) P.X.env) = eval (.Name x px) P.X.env := by rfl)
    (hfew : ((backTo cpos (starEach [e] P.X.env)).all (fun x => !x.1) && (backToKw cpos (keywordEach [] P.X.env)).all (fun x => x.1.isSome)
      && decide ([e].length + ([] : List Keyword).length + (if ([] : List Keyword).isEmpty then 0 else 1) < 30)) = true := by rfl)
    (hline : (apos.endLine == cpos.line) = true := by rfl) (hplain : (backTo cpos (starEach [] P.X.env)).any (·.1) = false := by rfl) :
    SSs P nx bk ct env (.Expr (.Call (.Attribute (.Name x px) "append" apos) [e] [] cpos) pos :: rest) ((lstOf d0).bind fun xs => re.bind fun d => (dApp xs d).bind k) := fun D hr hn hb hct σ H ⟨F, a⟩ => by
  obtain ⟨v, h1, p, e1, n, f, o⟩ := a.en.at_ i _ he
  subst e1
  obtain ⟨xs, rfl⟩ := lstOf_ok (by rw [a.eq]; exact G.nb)
  refine .cons (ps_expr (pe_bm PySem.F.plainAttrs_list PySem.F.slot_list_append PySem.F.type_list_append mt_append (pe_var hN hv hd hcd) (pa_cons pe_W pa_nil hs) hbase hfew hline hs hplain)) ?_
  obtain ⟨vs, hl, r⟩ := ownLst o
  refine ⟨_, h1, .inl ⟨rfl, vs, .inl (.inl hl)⟩, ?_⟩
  have a0 : AtF P F env (re.bind fun d => (dApp xs d).bind k) σ H := ⟨a.go, a.en, a.ho, a.eq⟩
  refine a0.ev G h fun d w F' H' _ g q a' => ?_
  have ae := a'.eq
  unfold dApp at ae
  split at ae
  · rename_i hz
    refine ⟨p, vs, w, rfl, rfl, g.h _ _ hl, by rw [r.length]; exact hz, ?_⟩
    exact hk _ D hr hn hb hct σ _ ⟨F', (⟨a'.go, a'.en, a'.ho, ae⟩ : AtF P F' env (k (.lst (xs ++ [d]))) σ H').mut he h1 n (g.fr p _ hl f) (.inl ⟨_, _, rfl, upd_same, (r.mono g.f).snoc q⟩)⟩
  · exact absurd ae.symm G.nb
/-- x[i] = e -/
def dSet (xs : List D) (i d : D) : R D := match i with
  | .int k => match ixN xs.length k with
    | some j => .ok (.lst (xs.set j d))
    | none => .bad
  | _ => .bad
theorem ss_setIx (G : P.GoodH) {i : Nat} {x : Str} {e ix : Expr} {re ri : R D} {k : D → R α} {d0 : D} {px tpos pos : Pos} (h : SE P.ca P.X P.W P.H0 .v env e re) (hi : SE P.ca P.X P.W P.H0 .r env ix ri) (he : env[i]? = some (some (.o d0)) := by rfl)
    (hk : ∀ d, SSs P nx bk ct (env.set i (some (.o d))) rest (k d)) (hN : P.X.N[i]? = some x := by rfl)
    (hv : Vis P.X.env.scope x := by first | exact Or.inl rfl | exact Or.inr (Or.inl rfl) | exact Or.inr (Or.inr rfl)) (hd : (x == ("__debug__" : Str)) = false := by decide) (hcd : (x == ("__classdict__" : Str)) = false := by decide)
    (ha : ∀ v, assign (.Subscript (.Name x px) ix tpos) P.X.env v = (do
      let ov ← holding [v] (eval (.Name x px) P.X.env)
      let iv ← holding [v, ov] (eval ix P.X.env)
      PySem.standAt tpos
      holding [v, ov, iv] (setItem ov iv v)
      release [v, ov, iv] []) := by intro _; rfl)
    (hs1 : swapsWithSole [.Subscript (.Name x px) ix tpos] e pos.line P.X.env = pure false := by rfl) (hw : swappedStores [.Subscript (.Name x px) ix tpos] e P.X.env = pure none := by rfl)
    (h1 : (assignEach [.Subscript (.Name x px) ix tpos] P.X.env).map (·.2) = [assign (.Subscript (.Name x px) ix tpos) P.X.env] := by rfl) :
    SSs P nx bk ct env (.Assign [.Subscript (.Name x px) ix tpos] e pos :: rest) ((lstOf d0).bind fun xs => re.bind fun d => ri.bind fun j => (dSet xs j d).bind k) := fun D hr hn hb hct σ H ⟨F, a⟩ => by
  obtain ⟨v, hs, p, e1, n, f, o⟩ := a.en.at_ i _ he
  subst e1
  obtain ⟨xs, rfl⟩ := lstOf_ok (by rw [a.eq]; exact G.nb)
  refine .cons (ps_asg pe_W (pg_sub (pe_var hN hv hd hcd) pe_W set_list ha) hs1 hw h1) ?_
  obtain ⟨vs, hl, r⟩ := ownLst o
  have a0 : AtF P F env (re.bind fun d => ri.bind fun j => (dSet xs j d).bind k) σ H := ⟨a.go, a.en, a.ho, a.eq⟩
  refine a0.ev G h fun d w F' H' _ g q a' => ⟨_, hs, ?_⟩
  refine a'.ev G hi fun j u F2 H2 _ g2 q2 a2 => ?_
  have ae := a2.eq
  have g3 := g.trans g2
  unfold dSet at ae
  split at ae
  · split at ae
    · rename_i jj hj
      refine ⟨p, vs, _, jj, rfl, ar_int q2, g3.h _ _ hl, by rw [r.length]; exact hj, ?_⟩
      exact hk _ D hr hn hb hct σ _ ⟨F2, (⟨a2.go, a2.en, a2.ho, ae⟩ : AtF P F2 env (k (.lst (xs.set jj d))) σ H2).mut he hs n (g3.fr p _ hl f) (.inl ⟨_, _, rfl, upd_same, (r.mono g3.f).set (Rep.mono g2.f q) jj⟩)⟩
    · exact absurd ae.symm G.nb
  · exact absurd ae.symm G.nb
end

/-! ## Defs -/
def spOf (K : PySem.W.Frag) (ca : Ca) (ms : List Md) (m : Md) (f : List D → R D) : Sp := fun vs H Q E =>
  ∃ F ds, Le F H ∧ ARs K ca F H ms vs ds ∧ StK K ca F H ∧ Post K ca m (fun x F' H' => ∀ c d, ExcRep K ca F' c d x → E c d H') F H (f ds) Q
def argSl : Md → D → Option Sl
  | .r, d => some (.b d)
  | _, d => some (.d d)
def argEnv : List Md → List D → Nat → En
  | m :: ms, d :: ds, n + 1 => argSl m d :: argEnv ms ds n
  | _, _, n => List.replicate n none
theorem argEnv_length : ∀ (ms : List Md) (ds : List D) (n : Nat), (argEnv ms ds n).length = n
  | [], _, n => by simp [argEnv]
  | _ :: _, [], n => by simp [argEnv]
  | m :: ms, d :: ds, 0 => by simp [argEnv]
  | m :: ms, d :: ds, n + 1 => by simp [argEnv, argEnv_length ms ds n]
structure Def (P : Program) (w : World) (K : PySem.W.Frag) (mg : Str → Option Value) (base : Heap) (ca : Ca) (x : Str) (n : Nat) (ms : List Md) (m : Md) (f : List D → R D) : Prop where
  ex : ∃ (a : Addr) (fd : FuncData) (ps : List Str), FnOk P w K mg base (L2N.CX P w) n a fd ps (spOf K ca ms m f) ∧ mg x = some (.ref a) ∧ PySem.W.keepIn K (.ref a) = true ∧ Binds K fd ps []
section
variable {ca : Ca} {X : Cx} {W : WX} {H0 : Hp} {env : En}
theorem se_call {x : Str} {n k : Nat} {ms : List Md} {m : Md} {f : List D → R D} {e : Expr} {es : List Expr} {rs : R (List D)} {p pos : Pos} (Df : Def X.prog X.w X.K X.mg X.base ca x n ms m f) (hr : Room k X.A) (tk : L2N.Takes X W) (ha : SA ca X W H0 ms env (e :: es) rs)
    (hnk : n ≤ k := by decide) (hg : Gl X x := by rfl) (hdb : (x == ("__debug__" : Str)) = false := by decide)
    (he : starEach (e :: es) X.env = (false, eval e X.env) :: starEach es X.env := by rfl) (hpl : (backTo pos (starEach es X.env)).any (·.1) = false := by rfl) :
    SE ca X W H0 m env (.Call (.Name x p) (e :: es) [] pos) (rs.bind f) := fun F H σ Q le ok hp => by
  obtain ⟨a, fd, ps, G, gm, kp, b⟩ := Df.ex
  refine ⟨_, pe_callS G (hr.mono hnk) hg gm kp b (fun σ => L2N.passAt tk σ) pa_W hdb he hpl, ?_⟩
  refine ha.then le ok hp fun ds vs F1 H1 _ g1 q1 ok1 hp1 => ?_
  exact ⟨F1, ds, g1.fh, q1, ok1.st.monoH ok1.h0, hp1⟩
end
def jEnd (m : Md) : Jp D := fun _ r => r = .ok .non ∧ m = .v
theorem getElem_argEnv : ∀ {ms : List Md} {ds : List D} {n i : Nat} {s : Sl}, (argEnv ms ds n)[i]? = some (some s) → ∃ m d, ms[i]? = some m ∧ ds[i]? = some d ∧ argSl m d = some s
  | [], ds, n, i, s, h => by
    have : (List.replicate n (none : Option Sl))[i]? = some (some s) := by cases n <;> exact h
    rw [List.getElem?_replicate] at this
    split at this <;> cases this
  | m :: ms, [], n, i, s, h => by
    have : (List.replicate n (none : Option Sl))[i]? = some (some s) := by cases n <;> exact h
    rw [List.getElem?_replicate] at this
    split at this <;> cases this
  | m :: ms, d :: ds, 0, i, s, h => by simp [argEnv] at h
  | m :: ms, d :: ds, n + 1, 0, s, h => by simp [argEnv] at h; exact ⟨m, d, rfl, rfl, h⟩
  | m :: ms, d :: ds, n + 1, i + 1, s, h => by simpa using getElem_argEnv (n := n) (i := i) (by simpa [argEnv] using h)
theorem ARs.get {K : PySem.W.Frag} {ca : Ca} {F H : Hp} {ms : List Md} {vs : List V} {ds : List D} (q : ARs K ca F H ms vs ds) : ∀ {i : Nat} {m : Md} {d : D}, ms[i]? = some m → ds[i]? = some d → ∃ v, vs[i]? = some v ∧ ((m = .r ∧ AR K ca F H v d) ∨ (m = .v ∧ Rep K ca F v d)) := by
  induction q with
  | nil => intro i m d h; simp at h
  | consR h r ih =>
    intro i m d h1 h2
    cases i with
    | zero => simp at h1 h2; subst h1 h2; exact ⟨_, rfl, .inl ⟨rfl, h⟩⟩
    | succ i => simpa using ih (by simpa using h1) (by simpa using h2)
  | consV h r ih =>
    intro i m d h1 h2
    cases i with
    | zero => simp at h1 h2; subst h1 h2; exact ⟨_, rfl, .inr ⟨rfl, h⟩⟩
    | succ i => simpa using ih (by simpa using h1) (by simpa using h2)
theorem en_start {K : PySem.W.Frag} {ca : Ca} {F H : Hp} {ms : List Md} {vs : List V} {ds : List D} {N : List Str} (q : ARs K ca F H ms vs ds) (hl : vs.length ≤ N.length) (st : StK K ca F H) : EnOk K ca H F H (L2.start N vs) (argEnv ms ds N.length) := by
  have hno : ∀ (i : Nat) x, (argEnv ms ds N.length)[i]? ≠ some (some (Sl.o x)) := fun i x h => by
    obtain ⟨m, d, _, _, e⟩ := getElem_argEnv h
    cases m <;> cases e
  refine ⟨Le.refl H, ?_, fun i s h => ?_, fun i j x y h => absurd h (hno i x), st⟩
  · rw [argEnv_length]
    unfold L2.start
    rw [List.length_append, List.length_map, List.length_replicate]
    omega
  · obtain ⟨m, d, h1, h2, e⟩ := getElem_argEnv h
    obtain ⟨v, h3, h4⟩ := q.get h1 h2
    refine ⟨v, ?_, ?_⟩
    · unfold L2.start
      rw [List.getElem?_append_left (by rw [List.length_map]; exact (List.getElem?_eq_some_iff.mp h3).1), List.getElem?_map, h3]
      rfl
    · rcases h4 with ⟨rfl, h4⟩ | ⟨rfl, h4⟩
      · cases e; exact h4
      · cases e; exact h4
theorem okN {P : Program} {w : World} {K : PySem.W.Frag} {mg : Str → Option Value} {base : Heap} {CX : CXT} {x qual : Str} {st : Stmt} {f : Addr} {fd : FuncData} {N ps : List Str} {k : Nat} {sp : Sp} (F : Fun K x qual st f fd) (S : FnScope N ps (defScope st)) (len : ∀ vs H Q E, sp vs H Q E → vs.length = ps.length)
    (hbody : ∀ (cdv : Value) (A : Around) (outer : List Env) (s : Shared) (H : Hp) (vs : List V) (Q : VK) (E : XK), Room k (A.deeper (envOfC qual (defScope st) s.heap.objs.size f cdv)) → sp vs H Q E →
      ∃ t, PSs (cxOf CX P w K mg base N qual (defScope st) f cdv A outer s H E) (defBody st) t ∧ t { nx := fun _ H' => Q .non H', rt := Q } (start N vs) H) : FnOk P w K mg base CX (k + 1) f fd ps sp := by
  obtain ⟨oc, od, kV, doc, pm, an, cdv, ct, osl, rfl, lk, hcd⟩ := F.ex
  exact fn_of lk hcd S len fun A outer s H vs Q E hr hsp => hbody cdv A outer s H vs Q E hr hsp
/-- a def keeps its promise -/
theorem def_okF {P : Program} {w : World} {K : PySem.W.Frag} {mg : Str → Option Value} {base : Heap} {ca : Ca} {x qual : Str} {st : Stmt} {a : Addr} {fd : FuncData} {N ps : List Str} {k : Nat} {ms : List Md} {m : Md} {f : List D → R D}
    (F : Fun K x qual st a fd) (S : FnScope N ps (defScope st)) (hm : ms.length = ps.length) (hN : ps.length ≤ N.length)
    (body : ∀ (cdv : Value) (A : Around) (outer : List Env) (s : Shared) (H : Hp) (Q : VK) (E : XK) (F0 : Hp) (ds : List D), ds.length = ps.length → Room k (A.deeper (envOfC qual (defScope st) s.heap.objs.size a cdv)) →
      (Pt.mk ca (cxOf (L2N.CX P w) P w K mg base N qual (defScope st) a cdv A outer s H E) (fun c d _ H' => E c d H') F0 H [] (f ds) R.ok m Q).Good →
      SSs (Pt.mk ca (cxOf (L2N.CX P w) P w K mg base N qual (defScope st) a cdv A outer s H E) (fun c d _ H' => E c d H') F0 H [] (f ds) R.ok m Q) (jEnd m) jNo jNo (argEnv ms ds N.length) (defBody st) (f ds)) :
    FnOk P w K mg base (L2N.CX P w) (k + 1) a fd ps (spOf K ca ms m f) := by
  have lenA : ∀ {F H : Hp} {ms : List Md} {vs : List V} {ds : List D}, ARs K ca F H ms vs ds → ms.length = vs.length := fun q => by
    induction q with
    | nil => rfl
    | consR _ _ ih => rw [List.length_cons, List.length_cons, ih]
    | consV _ _ ih => rw [List.length_cons, List.length_cons, ih]
  refine okN F S (fun vs H Q E h => ?_) (fun cdv A outer s H vs Q E hr h => ?_)
  · obtain ⟨F0, ds, _, q, _, _⟩ := h
    rw [← hm, lenA q]
  · obtain ⟨F0, ds, le, q, hst, hp⟩ := h
    have hl : ds.length = ps.length := by rw [← q.length, ← lenA q, hm]
    refine ⟨_, pss_W, ?_⟩
    have G : (Pt.mk ca (cxOf (L2N.CX P w) P w K mg base N qual (defScope st) a cdv A outer s H E) (fun c d _ H' => E c d H') F0 H [] (f ds) R.ok m Q).Good := by
      refine ⟨S.nd, rfl, passes_of rfl, fun d v F1 H1 e g r => ?_, fun z F1 H1 σ e g _ => ?_, fun e => ?_, (fun d e => nomatch e), hst⟩
      · have e' : f ds = .ok d := e
        rw [e'] at hp
        exact hp v F1 H1 g r
      · have e' : f ds = .er z := e
        rw [e'] at hp
        exact hp F1 H1 g
      · have e' : f ds = .bad := e
        rw [e'] at hp
        exact hp
    refine body cdv A outer s H Q E F0 ds hl hr G _ rfl ?_ (fun _ _ z => z.elim) (fun _ _ z => z.elim) _ _ ⟨F0, Go.refl le, en_start q (by rw [q.length, hl]; exact hN) hst, ⟨.inl (Nat.zero_le _), fun i s h => by simp at h⟩, rfl⟩
    rintro e' r' ⟨rfl, rfl⟩ σ H1 ⟨F1, a1⟩
    exact G.rt .non .non F1 H1 a1.eq.symm a1.go Rep.non
theorem def_ok {P : Program} {w : World} {K : PySem.W.Frag} {mg : Str → Option Value} {base : Heap} {ca : Ca} {x qual : Str} {st : Stmt} {a : Addr} {fd : FuncData} {N ps : List Str} {k : Nat} {ms : List Md} {m : Md} {f : List D → R D}
    (F : Fun K x qual st a fd) (S : FnScope N ps (defScope st)) (hm : ms.length = ps.length) (hN : ps.length ≤ N.length)
    (gm : mg x = some (.ref a)) (b : Binds K fd ps [])
    (body : ∀ (cdv : Value) (A : Around) (outer : List Env) (s : Shared) (H : Hp) (Q : VK) (E : XK) (F0 : Hp) (ds : List D), ds.length = ps.length → Room k (A.deeper (envOfC qual (defScope st) s.heap.objs.size a cdv)) →
      (Pt.mk ca (cxOf (L2N.CX P w) P w K mg base N qual (defScope st) a cdv A outer s H E) (fun c d _ H' => E c d H') F0 H [] (f ds) R.ok m Q).Good →
      SSs (Pt.mk ca (cxOf (L2N.CX P w) P w K mg base N qual (defScope st) a cdv A outer s H E) (fun c d _ H' => E c d H') F0 H [] (f ds) R.ok m Q) (jEnd m) jNo jNo (argEnv ms ds N.length) (defBody st) (f ds)) :
    Def P w K mg base ca x (k + 1) ms m f := ⟨a, fd, ps, def_okF F S hm hN body, gm, F.kp, b⟩
end Um

namespace Um
open L2 PySem PySem.Spec PyProof.Rows

def bNot (k : Bool) : R Bool := .ok (!k)
@[simp] theorem bNot_def (k : Bool) : bNot k = .ok (!k) := (Eq.refl _).trans (Eq.refl _)
def dNot : D → R D
  | .bl k => .ok (.bl (!k))
  | _ => .bad
theorem room64 {k : Nat} {A : Around} (h : Room k A) : A.units + 64 < cLine := h.units
section
variable {ca : Ca} {X : Cx} {W : WX} {H0 F H F' H' : Hp} {env : En} {a b c e : Expr} {ra rb rc : R D} {ta tb tc : R Bool} {pos : Pos} {m : Md}
theorem st_notD (h : ST ca X W H0 env a ta) : ST ca X W H0 env (.UnaryOp .Not a pos) (ta.bind bNot) := st_not h
theorem se_notD (h : SE ca X W H0 .r env a ra) : SE ca X W H0 .v env (.UnaryOp .Not a pos) (ra.bind dNot) := fun F H σ Q le ok hp => by
  refine ⟨_, pe_not pe_W, h.then le ok hp fun d v F1 H1 _ g q _ hp1 => ?_⟩
  cases d with
  | bl k => exact ⟨k, ar_bl q, hp1 _ F1 H1 (Go.refl g.fh) (.bl _)⟩
  | _ => exact hp1.elim
end
def fn3 (g : D → D → D → R D) : List D → R D
  | [a, b, c] => g a b c
  | _ => .bad
def fn4 (g : D → D → D → D → R D) : List D → R D
  | [a, b, c, d] => g a b c d
  | _ => .bad
def fn5 (g : D → D → D → D → D → R D) : List D → R D
  | [a, b, c, d, e] => g a b c d e
  | _ => .bad
def fn6 (g : D → D → D → D → D → D → R D) : List D → R D
  | [a, b, c, d, e, f] => g a b c d e f
  | _ => .bad
def fn0 (g : R D) : List D → R D
  | [] => g
  | _ => .bad
end Um
namespace Um
open L2 PySem PySem.Spec PyProof.Rows
theorem room65 {k : Nat} {A : Around} (h : Room k A) : A.units + 65 < cLine := by have := h.un; omega
end Um

namespace Um
open L2 PySem PySem.Spec PyProof.Rows

section
variable {K : PySem.W.Frag} {ca : Ca} {F H F' H' : Hp}
theorem Its.mono (e : Le F F') {cs : List Addr} {vs : List V} {ds : List D} (h : Its K ca F H cs vs ds) (hc : ∀ p, p ∈ cs → ∀ o, H p = some o → H' p = some o) : Its K ca F' H' cs vs ds := by
  induction h with
  | nil => exact .nil
  | data h n r ih => exact .data (h.mono e) n (ih hc)
  | own h q r ih => exact .own (hc _ List.mem_cons_self _ h) (q.mono e) (ih fun p hp => hc p (List.mem_cons_of_mem _ hp))
theorem Its.here {cs : List Addr} {vs : List V} {ds : List D} (h : Its K ca F H cs vs ds) : ∀ p, p ∈ cs → ∃ xs, H p = some (.lst xs) := by
  induction h with
  | nil => intro p hp; cases hp
  | data h n r ih => exact ih
  | own h q r ih =>
    intro p hp
    rcases List.mem_cons.mp hp with e | hp
    · subst e; exact ⟨_, h⟩
    · exact ih p hp
theorem Its.length {cs : List Addr} {vs : List V} {ds : List D} (h : Its K ca F H cs vs ds) : vs.length = ds.length := by
  induction h with
  | nil => rfl
  | data h n r ih => rw [List.length_cons, List.length_cons, ih]
  | own h q r ih => rw [List.length_cons, List.length_cons, ih]
mutual
theorem Own.mono (e : Le F F') : ∀ {s : Sh} {cs : List Addr} {v : V} {d : D}, (∀ p, p ∈ cs → ∀ o, H p = some o → H' p = some o) → Own K ca F H s cs v d → Own K ca F' H' s cs v d
  | _, _, _, _, _, .leaf h => .leaf (h.mono e)
  | _, _, _, _, hc, .lst o => .lst (by
      rcases o with ⟨vs, ds, e2, h, r⟩ | ⟨kvs, ks, ds, e2, h, q, r⟩ | ⟨c, dx, ns, fs, ds, e2, h, q, r⟩ | ⟨xs4, ks4, ds4, e4, h4, n4, k4, r4⟩
      · exact .inl ⟨vs, ds, e2, hc _ List.mem_cons_self _ h, r.mono e⟩
      · exact .inr (.inl ⟨kvs, ks, ds, e2, hc _ List.mem_cons_self _ h, q, r.mono e⟩)
      · exact .inr (.inr (.inl ⟨c, dx, ns, fs, ds, e2, hc _ List.mem_cons_self _ h, q, r.mono e⟩))
      · exact .inr (.inr (.inr ⟨xs4, ks4, ds4, e4, hc _ List.mem_cons_self _ h4, n4, fun x hx => e.t (k4 x hx), r4.mono e⟩)))
  | _, _, _, _, hc, .tup hu h r => .tup hu (hc _ List.mem_cons_self _ h) (Owns.mono e (fun p hp => hc p (List.mem_cons_of_mem _ hp)) r)
  | _, _, _, _, _, .wd h n => .wd (h.mono e) n
  | _, _, _, _, hc, .wl h r => .wl (hc _ List.mem_cons_self _ h) (r.mono e fun p hp => hc p (List.mem_cons_of_mem _ hp))
theorem Owns.mono (e : Le F F') : ∀ {s : Sh} {cs : List Addr} {vs : List V} {ds : List D}, (∀ p, p ∈ cs → ∀ o, H p = some o → H' p = some o) → Owns K ca F H s cs vs ds → Owns K ca F' H' s cs vs ds
  | _, _, _, _, _, .nil => .nil
  | _, _, _, _, hc, .cons a r => .cons (Own.mono e (fun p hp => hc p (List.mem_append_left _ hp)) a) (Owns.mono e (fun p hp => hc p (List.mem_append_right _ hp)) r)
end
mutual
theorem Own.here : ∀ {s : Sh} {cs : List Addr} {v : V} {d : D}, Own K ca F H s cs v d → ∀ p, p ∈ cs → ∃ o, H p = some o
  | _, _, _, _, .leaf _, p, hp => by cases hp
  | _, _, _, _, .lst o, p, hp => by
      rw [List.mem_singleton] at hp; subst hp; exact OwnAt.some o
  | _, _, _, _, .tup hu h r, p, hp => by
      rcases List.mem_cons.mp hp with e | hp
      · subst e; exact ⟨_, h⟩
      · exact Owns.here r p hp
  | _, _, _, _, .wd _ _, p, hp => by cases hp
  | _, _, _, _, .wl h r, p, hp => by
      rcases List.mem_cons.mp hp with e | hp
      · subst e; exact ⟨_, h⟩
      · obtain ⟨xs, hx⟩ := r.here p hp
        exact ⟨_, hx⟩
theorem Owns.here : ∀ {s : Sh} {cs : List Addr} {vs : List V} {ds : List D}, Owns K ca F H s cs vs ds → ∀ p, p ∈ cs → ∃ o, H p = some o
  | _, _, _, _, .nil, p, hp => by cases hp
  | _, _, _, _, .cons a r, p, hp => by
      rcases List.mem_append.mp hp with hp | hp
      · exact Own.here a p hp
      · exact Owns.here r p hp
end
theorem Owns.length {s : Sh} {cs : List Addr} {vs : List V} {ds : List D} (h : Owns K ca F H s cs vs ds) : vs.length = ds.length := by
  induction vs generalizing ds s cs with
  | nil => cases h; rfl
  | cons v vs ih => cases h with | cons a r => rw [List.length_cons, List.length_cons, ih r]
/-- F with the cells S of H -/
noncomputable def lent (F H : Hp) (S : List Addr) : Hp := open Classical in fun a => if a ∈ S then H a else F a
theorem lent_in {S : List Addr} {a : Addr} (h : a ∈ S) : lent F H S a = H a := by unfold lent; rw [if_pos h]
theorem lent_out {S : List Addr} {a : Addr} (h : ¬ a ∈ S) : lent F H S a = F a := by unfold lent; rw [if_neg h]
theorem lent_le {S : List Addr} (hs : ∀ p, p ∈ S → F p = none) : Le F (lent F H S) := fun a o e => by
  have : ¬ a ∈ S := fun h => by rw [hs a h] at e; cases e
  rw [lent_out this]; exact e
theorem lent_leH {S : List Addr} (le : Le F H) : Le (lent F H S) H := fun a o e => by
  by_cases h : a ∈ S
  · rw [lent_in h] at e; exact e
  · rw [lent_out h] at e; exact le a o e
theorem Its.rep {S : List Addr} (hs : ∀ p, p ∈ S → F p = none) {cs : List Addr} {vs : List V} {ds : List D} (h : Its K ca F H cs vs ds) (hc : ∀ p, p ∈ cs → p ∈ S) : Reps K ca (lent F H S) vs ds := by
  induction h with
  | nil => exact .nil
  | data h n r ih => exact .cons (h.mono (lent_le hs)) (ih hc)
  | own h q r ih => exact .cons (.lst (by rw [lent_in (hc _ List.mem_cons_self)]; exact h) (q.mono (lent_le hs))) (ih fun p hp => hc p (List.mem_cons_of_mem _ hp))
mutual
theorem Own.rep {S : List Addr} (hs : ∀ p, p ∈ S → F p = none) : ∀ {s : Sh} {cs : List Addr} {v : V} {d : D}, (∀ p, p ∈ cs → p ∈ S) → Own K ca F H s cs v d → Rep K ca (lent F H S) v d
  | _, _, _, _, _, .leaf h => h.mono (lent_le hs)
  | _, [p], _, _, hc, .lst o => by
      have hp : p ∈ S := hc _ List.mem_cons_self
      rcases o with ⟨vs, ds, e2, h, r⟩ | ⟨kvs, ks, ds, e2, h, q, r⟩ | ⟨c, dx, ns, fs, ds, e2, h, q, r⟩ | ⟨xs4, ks4, ds4, e4, h4, n4, k4, r4⟩
      · subst e2; exact .lst (by rw [lent_in hp]; exact h) (r.mono (lent_le hs))
      · subst e2; exact .dic (by rw [lent_in hp]; exact h) q (r.mono (lent_le hs))
      · subst e2; exact .ins (by rw [lent_in hp]; exact h) q (r.mono (lent_le hs))
      · subst e4; exact .tdic (by rw [lent_in hp]; exact h4) n4 (fun x hx => (lent_le hs).t (k4 x hx)) (r4.mono (lent_le hs))
  | _, _, _, _, hc, .tup hu h r => .tup (SqN.at hu (by rw [lent_in (hc _ List.mem_cons_self)]; exact h)) (Owns.rep hs (fun p hp => hc p (List.mem_cons_of_mem _ hp)) r)
  | _, _, _, _, _, .wd h n => h.mono (lent_le hs)
  | _, _, _, _, hc, .wl h r => .lst (by rw [lent_in (hc _ List.mem_cons_self)]; exact h) (r.rep hs fun p hp => hc p (List.mem_cons_of_mem _ hp))
theorem Owns.rep {S : List Addr} (hs : ∀ p, p ∈ S → F p = none) : ∀ {s : Sh} {cs : List Addr} {vs : List V} {ds : List D}, (∀ p, p ∈ cs → p ∈ S) → Owns K ca F H s cs vs ds → Reps K ca (lent F H S) vs ds
  | _, _, _, _, _, .nil => .nil
  | _, _, _, _, hc, .cons a r => .cons (Own.rep hs (fun p hp => hc p (List.mem_append_left _ hp)) a) (Owns.rep hs (fun p hp => hc p (List.mem_append_right _ hp)) r)
end
end

/-! ## what is handed back: a tree of one's own -/
section
variable (ca : Ca) (X : Cx) (W : WX) (H0 : Hp)
def PostQ (us : List Nat) (s : Sh) (env : En) (σ : L2.St) (E : Ek) (F H : Hp) (r : R D) (Q : VK) : Prop := match r with
  | .ok d => ∀ v F' H' cs, Go F H F' H' → cs.Nodup → (∀ p, p ∈ cs → H0 p = none ∧ F' p = none ∧ (H p = none ∨ ∃ i x, i ∈ us ∧ σ[i]? = some (some (.ref p)) ∧ env[i]? = some (some (Sl.o x)))) → Own X.K ca F' H' s cs v d → Q v H'
  | .er x => ∀ F' H', Go F H F' H' → E x F' H'
  | .bad => False
def PostQA (us : List Nat) (s : Sh) (env : En) (σ : L2.St) (E : Ek) (F H : Hp) (r : R (List D)) (Q : List V → Hp → Prop) : Prop := match r with
  | .ok d => ∀ v F' H' cs, Go F H F' H' → cs.Nodup → (∀ p, p ∈ cs → H0 p = none ∧ F' p = none ∧ (H p = none ∨ ∃ i x, i ∈ us ∧ σ[i]? = some (some (.ref p)) ∧ env[i]? = some (some (Sl.o x)))) → Owns X.K ca F' H' s cs v d → Q v H'
  | .er x => ∀ F' H', Go F H F' H' → E x F' H'
  | .bad => False
def SQ (env : En) (e : Expr) (us : List Nat) (s : Sh) (r : R D) : Prop := ∀ F H σ Q, Le F H → EnOk X.K ca H0 F H σ env → PostQ ca X H0 us s env σ (ekOf X.K ca W σ) F H r Q → WE X e σ H Q
def SQA (env : En) (es : List Expr) (us : List Nat) (s : Sh) (r : R (List D)) : Prop := ∀ F H σ Q, Le F H → EnOk X.K ca H0 F H σ env → PostQA ca X H0 us s env σ (ekOf X.K ca W σ) F H r Q → WA X es σ H Q
end
section
variable {ca : Ca} {X : Cx} {W : WX} {H0 F H F' H' : Hp} {env : En} {e : Expr} {es : List Expr} {r : R D} {rs : R (List D)} {us us' : List Nat} {s s' : Sh}
theorem sq_o (h : SE ca X W H0 .o env e r) : SQ ca X W H0 env e [] .o r := fun F H σ Q le ok hp => by
  refine h F H σ Q le ok ?_
  cases r with
  | ok d =>
    rintro v F' H' g ⟨p, rfl, n, f, o⟩
    refine hp _ F' H' [p] g (List.nodup_cons.mpr ⟨by simp, List.nodup_nil⟩) (fun q hq => ?_) (.lst o)
    rw [List.mem_singleton] at hq; subst hq
    exact ⟨ok.h0.free n, f, .inl n⟩
  | er x => exact hp
  | bad => exact hp
theorem sq_v (h : SE ca X W H0 .v env e r) : SQ ca X W H0 env e [] .v r := fun F H σ Q le ok hp => by
  refine h F H σ Q le ok ?_
  cases r with
  | ok d => exact fun v F' H' g q => hp _ F' H' [] g List.nodup_nil (fun q hq => by cases hq) (.leaf q)
  | er x => exact hp
  | bad => exact hp
theorem sq_q (h : SE ca X W H0 (.q s) env e r) : SQ ca X W H0 env e [] s r := fun F H σ Q le ok hp => by
  refine h F H σ Q le ok ?_
  cases r with
  | ok d =>
    rintro v F' H' g ⟨cs, nd, n, o⟩
    exact hp _ F' H' cs g nd (fun q hq => ⟨ok.h0.free (n q hq).1, (n q hq).2, .inl (n q hq).1⟩) o
  | er x => exact hp
  | bad => exact hp
theorem sq_n {i : Nat} {x : Str} {pos : Pos} {d : D} (he : env[i]? = some (some (.o d)) := by rfl) (hN : X.N[i]? = some x := by rfl)
    (hv : Vis X.env.scope x := by first | exact Or.inl rfl | exact Or.inr (Or.inl rfl) | exact Or.inr (Or.inr rfl)) (hd : (x == ("__debug__" : Str)) = false := by decide) (hcd : (x == ("__classdict__" : Str)) = false := by decide) :
    SQ ca X W H0 env (.Name x pos) [i] .o (.ok d) := fun F H σ Q le ok hp => by
  obtain ⟨v, h1, h2⟩ := ok.at_ i _ he
  obtain ⟨p, e, n, f, h⟩ := h2
  subst e
  refine ⟨_, pe_var hN hv hd hcd, _, h1, hp _ F H [p] (Go.refl le) (List.nodup_cons.mpr ⟨by simp, List.nodup_nil⟩) (fun q hq => ?_) (.lst h)⟩
  rw [List.mem_singleton] at hq; subst hq
  exact ⟨n, f, .inr ⟨i, d, List.mem_singleton.mpr rfl, h1, he⟩⟩
theorem sqa_nil : SQA ca X W H0 env [] [] .n (.ok []) := fun F H σ Q le ok hp => ⟨_, pa_nil, hp [] F H [] (Go.refl le) List.nodup_nil (fun q hq => by cases hq) .nil⟩
theorem sqa_cons (h : SQ ca X W H0 env e us s r) (hr : SQA ca X W H0 env es us' s' rs) (hd : ∀ i, i ∈ us → ¬ i ∈ us' := by decide)
    (hs : starEach (e :: es) X.env = (false, eval e X.env) :: starEach es X.env := by rfl) : SQA ca X W H0 env (e :: es) (us ++ us') (.c s s') (R.cons r rs) := fun F H σ Q le ok hp => by
  refine ⟨_, pa_cons pe_W pa_W hs, h F H σ _ le ok ?_⟩
  cases r with
  | er x => exact hp
  | bad => exact hp
  | ok d =>
    intro v F1 H1 cs g nd hc o
    refine hr F1 H1 σ _ g.fh (ok.mono g) ?_
    cases rs with
    | er x => exact fun F2 H2 g2 => hp F2 H2 (g.trans g2)
    | bad => exact hp
    | ok ds =>
      intro vs F2 H2 cs2 g2 nd2 hc2 o2
      refine hp (v :: vs) F2 H2 (cs ++ cs2) (g.trans g2) (List.nodup_append.mpr ⟨nd, nd2, fun a ha b hb e => ?_⟩) (fun p hp' => ?_) (.cons (o.mono g2.f fun p _ o e => g2.h p o e) o2)
      · subst e
        obtain ⟨u, hu⟩ := o.here a ha
        obtain ⟨_, _, h4⟩ := hc a ha
        rcases (hc2 a hb).2.2 with h3 | ⟨j, y, hj, h3, h5⟩
        · rw [h3] at hu; cases hu
        · obtain ⟨w, h6, p', h7, _, _, ow⟩ := ok.at_ j _ h5
          rw [h3] at h6; cases h6; cases h7
          obtain ⟨u', hu'⟩ := ow.some
          rcases h4 with h4 | ⟨i, x, hi, h8, h9⟩
          · rw [h4] at hu'; cases hu'
          · have := ok.own i j x y h9 h5 (by rw [h8, h3])
            subst this
            exact hd i hi hj
      · rcases List.mem_append.mp hp' with hp' | hp'
        · obtain ⟨a1, a2, a3⟩ := hc p hp'
          obtain ⟨u, hu⟩ := o.here p hp'
          refine ⟨a1, g2.fr p u hu a2, ?_⟩
          rcases a3 with a3 | ⟨i, x, a3, a4, a5⟩
          · exact .inl a3
          · exact .inr ⟨i, x, List.mem_append_left _ a3, a4, a5⟩
        · obtain ⟨a1, a2, a3⟩ := hc2 p hp'
          refine ⟨a1, a2, ?_⟩
          rcases a3 with a3 | ⟨i, x, a3, a4, a5⟩
          · exact .inl (g.h.free a3)
          · exact .inr ⟨i, x, List.mem_append_right _ a3, a4, a5⟩
theorem sq_tup {x1 : _} {pos : Pos} (h : SQA ca X W H0 env es us s rs) : SQ ca X W H0 env (.Tuple es x1 pos) us (.t s) (rs.bind dTup) := fun F H σ Q le ok hp => by
  refine ⟨_, pe_tupN (m := ca tmK) pa_W, h F H σ _ le ok ?_⟩
  cases rs with
  | er x => exact hp
  | bad => exact hp
  | ok ds =>
    intro vs F1 H1 cs g nd hc o
    have hp' : PostQ ca X H0 us (.t s) env σ (ekOf X.K ca W σ) F H (dTup ds) Q := hp
    unfold dTup at hp'
    split at hp'
    · rename_i hs
      refine ⟨by rw [o.length]; exact hs, fun p u0 hpn hu0 => ?_⟩
      have hnp : ∀ q, q ∈ cs → q ≠ p := fun q hq e => by
        obtain ⟨u, hu⟩ := o.here q hq
        rw [e, hpn] at hu; cases hu
      refine hp' _ F1 _ (p :: cs) (g.trans (Go.hid g.fh hpn _)) (List.nodup_cons.mpr ⟨fun hm => hnp p hm rfl, nd⟩) (fun q hq => ?_) (.tup hu0 upd_same (o.mono (Le.refl _) fun q hq u hu => by rw [upd_ne (hnp q hq)]; exact hu))
      rcases List.mem_cons.mp hq with e | hq
      · subst e; exact ⟨ok.h0.free (g.h.free hpn), g.fh.free hpn, .inl (g.h.free hpn)⟩
      · exact hc q hq
    · exact hp'.elim
end
section
variable {α : Type} {P : Pt α} {nx bk ct : Jp α} {env : En} {rest : List Stmt}
theorem ss_retQ (G : P.GoodH) {e : Expr} {re : R D} {pos : Pos} {us : List Nat} {s : Sh} (h : SQ P.ca P.X P.W P.H0 env e us s re) (hm : P.m = .q s := by rfl) : SSs P nx bk ct env (.Return (some e) pos :: rest) (re.bind P.ret) := fun D hr hn hb hc σ H ⟨F, a⟩ => by
  refine .cons (ps_ret pe_W) ?_
  show Um.WE P.X e σ H D.rt
  rw [hr]
  refine h F H σ _ a.go.fh a.en ?_
  have ae := a.eq
  cases re with
  | er x => exact fun F' H' g => G.er x F' H' σ ae.symm (a.go.trans g) (a.ho.mono g)
  | bad => exact G.nb ae.symm
  | ok d =>
    intro v F' H' cs g nd hc o
    refine G.rt d v F' H' ae.symm (a.go.trans g) ?_
    rw [hm]
    exact ⟨cs, nd, fun p hp => ⟨(hc p hp).1, (hc p hp).2.1⟩, o⟩

/-! ## a name that holds a tree of one's own -/
structure AtQF (P : Pt α) (F : Hp) (env : En) (i : Nat) (s : Sh) (d : D) (r : R α) (σ : L2.St) (H : Hp) : Prop where
  at_ : AtF P F env r σ H
  no : ∀ (j : Nat) x, env[j]? ≠ some (some (.o x))
  ow : ∃ cs v, σ[i]? = some (some v) ∧ cs.Nodup ∧ (∀ p, p ∈ cs → F p = none ∧ P.H0 p = none) ∧ Own P.X.K P.ca F H s cs v d
def AtQ (P : Pt α) (env : En) (i : Nat) (s : Sh) (d : D) (r : R α) : L2.St → Hp → Prop := fun σ H => ∃ F, AtQF P F env i s d r σ H
def SSsQ (P : Pt α) (nx bk ct : Jp α) (env : En) (i : Nat) (s : Sh) (d : D) (ss : List Stmt) (r : R α) : Prop := ∀ D : Ends, D.rt = P.Q →
  (∀ e' r', nx e' r' → ∀ σ H, At P e' r' σ H → D.nx σ H) → (∀ e' r', bk e' r' → ∀ σ H, At P e' r' σ H → D.bk σ H) → (∀ e' r', ct e' r' → ∀ σ H, At P e' r' σ H → D.ct σ H) →
  ∀ σ H, AtQ P env i s d r σ H → WSs P.X ss D σ H
def noO : En → Bool
  | [] => true
  | some (.o _) :: _ => false
  | _ :: e => noO e
theorem noO_at : ∀ {e : En}, noO e = true → ∀ (j : Nat) x, e[j]? ≠ some (some (.o x))
  | [], _, j, x => by simp
  | some (.o _) :: _, h, _, _ => by cases h
  | none :: e, h, 0, x => by simp
  | none :: e, h, j + 1, x => by simpa using noO_at (e := e) h j x
  | some (.d y) :: e, h, 0, x => by simp
  | some (.d y) :: e, h, j + 1, x => by simpa using noO_at (e := e) h j x
  | some (.b y) :: e, h, 0, x => by simp
  | some (.b y) :: e, h, j + 1, x => by simpa using noO_at (e := e) h j x
  | some (.p y) :: e, h, 0, x => by simp
  | some (.p y) :: e, h, j + 1, x => by simpa using noO_at (e := e) h j x
  | some (.e _ _ _) :: e, h, 0, x => by simp
  | some (.e _ _ _) :: e, h, j + 1, x => by simpa using noO_at (e := e) h j x
theorem EnOk.setNx {K : PySem.W.Frag} {ca : Ca} {H0 F H : Hp} {σ : L2.St} {i : Nat} {x : Option V} (h : EnOk K ca H0 F H σ env) : EnOk K ca H0 F H (σ.set i x) (env.set i none) := by
  refine ⟨h.h0, by rw [List.length_set, List.length_set, h.len], fun j s hj => ?_, fun j k x y hj hk e => ?_, h.st⟩
  · rcases set_some hj with ⟨_, e⟩ | ⟨ne, hj'⟩
    · cases e
    · obtain ⟨u, h1, h2⟩ := h.at_ j s hj'
      exact ⟨u, by rw [List.getElem?_set_ne ne]; exact h1, h2⟩
  · rcases set_some hj with ⟨_, e1⟩ | ⟨n1, hj'⟩
    · cases e1
    · rcases set_some hk with ⟨_, e2⟩ | ⟨n2, hk'⟩
      · cases e2
      · rw [List.getElem?_set_ne n1, List.getElem?_set_ne n2] at e
        exact h.own j k x y hj' hk' e
/-- with no own slots, the heap may shrink -/
theorem EnOk.shrink {K : PySem.W.Frag} {ca : Ca} {H0 F H F' H' : Hp} {σ : L2.St} (h : EnOk K ca H0 F H σ env) (no : ∀ (j : Nat) x, env[j]? ≠ some (some (.o x))) (le : Le F F') (h0 : Le H0 H') : EnOk K ca H0 F' H' σ env :=
  ⟨h0, h.len, fun j s hj => by
    obtain ⟨v, h1, h2⟩ := h.at_ j s hj
    refine ⟨v, h1, ?_⟩
    cases s with
    | d x => exact Rep.mono le h2
    | b x =>
      rcases h2 with h2 | ⟨p, e, h2⟩
      · exact .inl (h2.mono le)
      · exact .inr ⟨p, e, h2.monoF le⟩
    | p u => exact h2
    | e a dd x => exact ⟨h2.1, ExcRep.mono _ _ le h2.2⟩
    | o x => exact absurd hj (no j x), h.own, h.st.monoF le⟩
theorem sq_drop {i : Nat} {s : Sh} {d : D} {ss : List Stmt} {r : R α} (h : SSs P nx bk ct env ss r) : SSsQ P nx bk ct env i s d ss r := fun D hr hn hb hc σ H ⟨F, a⟩ => h D hr hn hb hc σ H ⟨F, a.at_⟩
theorem sq_enter (G : P.GoodH) {i : Nat} {s : Sh} {x : Str} {e : Expr} {re : R D} {k : D → R α} {pos pos' : Pos} (h : SE P.ca P.X P.W P.H0 (.q s) env e re) (hk : ∀ d, SSsQ P nx bk ct (env.set i none) i s d rest (k d)) (hno : noO env = true := by rfl)
    (hi : P.X.N[i]? = some x := by rfl) (hx : Loc P.X.env.scope x := by first | exact .inl rfl | exact .inr rfl) (hh : noH P.envH i = true := by rfl)
    (hl : decide (i < env.length) = true := by rfl)
    (hs : swapsWith e (some (.Name x pos')) pos.line P.X.env = pure false := by rfl) (hf : P.X.fn x = true ∨ P.X.env.scope.names.lookup x = some .local := by first | exact .inl rfl | exact .inr rfl) :
    SSs P nx bk ct env (.Assign [.Name x pos'] e pos :: rest) (re.bind k) := fun D hr hn hb hc σ H ⟨F, a⟩ => by
  refine .cons (ps_set G.nd hi hx pe_W hs hf) ?_
  refine a.ev G h fun d v F' H' _ g q a' => ?_
  obtain ⟨cs, nd, n, o⟩ := q
  refine hk d D hr hn hb hc _ _ ⟨F', ⟨a'.go, a'.en.setNx, a'.ho.set hh, a'.eq⟩, fun j x hj => ?_, cs, v, ?_, nd, fun p hp => ⟨(n p hp).2, a.en.h0.free (n p hp).1⟩, o⟩
  · rcases set_some hj with ⟨_, e⟩ | ⟨_, hj'⟩
    · cases e
    · exact noO_at hno j x hj'
  · rw [List.getElem?_set_self (by rw [a.en.len]; exact of_decide_eq_true hl)]
/-- the tree is lent while e is evaluated -/
theorem AtQF.lend {F H : Hp} {σ : L2.St} {i : Nat} {s : Sh} {d : D} {r : R α} (a : AtQF P F env i s d r σ H) (hn : env[i]? = some none) :
    ∃ F1, Le F F1 ∧ AtF P F1 (env.set i (some (.d d))) r σ H ∧ (∀ F' H', Go F1 H F' H' → AtQF P F env i s d r σ H') := by
  obtain ⟨cs, v, hv, nd, hc, o⟩ := a.ow
  have hF : ∀ p, p ∈ cs → F p = none := fun p hp => (hc p hp).1
  refine ⟨lent F H cs, lent_le hF, ⟨⟨a.at_.go.f.trans (lent_le hF), a.at_.go.h, lent_leH a.at_.go.fh, fun p u hu hn' => ?_⟩, ?_, ?_, a.at_.eq⟩, fun F' H' g => ⟨⟨⟨a.at_.go.f, a.at_.go.h.trans g.h, a.at_.go.fh.trans g.h, a.at_.go.fr⟩, a.at_.en.shrink a.no (Le.refl _) (a.at_.en.h0.trans g.h), a.at_.ho, a.at_.eq⟩, a.no, cs, v, hv, nd, hc, o.mono (Le.refl _) fun p _ u hu => g.h p u hu⟩⟩
  · have : ¬ p ∈ cs := fun hp => by rw [(hc p hp).2] at hu; cases hu
    rw [lent_out this]
    exact a.at_.go.fr p u hu hn'
  · have e1 := a.at_.en.shrink a.no (lent_le (H := H) hF) a.at_.en.h0
    have e2 := e1.setD (i := i) (o.rep hF fun p hp => hp)
    have hσ : σ.set i (some v) = σ := by
      obtain ⟨h1, h2⟩ := List.getElem?_eq_some_iff.mp hv
      rw [← h2]; exact List.set_getElem_self h1
    rw [hσ] at e2
    exact e2
  · exact ⟨a.at_.ho.1, fun j t hj => by
      obtain ⟨w, h1, h2⟩ := a.at_.ho.2 j t hj
      exact ⟨w, h1, h2.mono (lent_le hF)⟩⟩
theorem sq_if1 (G : P.GoodH) {i : Nat} {s : Sh} {d : D} {c : Expr} {A : List Stmt} {tc : R Bool} {rA rB : R α} {pos : Pos} (h : ST P.ca P.X P.W P.H0 (env.set i (some (.d d))) c tc)
    (hA : SSs P jNo bk ct env A rA) (hB : SSsQ P nx bk ct env i s d rest rB) (hn : env[i]? = some none := by rfl) :
    SSsQ P nx bk ct env i s d (.If c A [] pos :: rest) (tc.bind fun b => if b = true then rA else rB) := fun D hr hn' hb hc σ H ⟨F, a⟩ => by
  refine .cons (ps_if pt_W pss_W pss_W) ?_
  obtain ⟨F1, _, a1, back⟩ := a.lend hn
  refine a1.evT G h fun b F' H' _ g a' => ?_
  have a2 := back F' H' g
  have ae := a'.eq
  cases b with
  | true => exact hA { D with nx := fun σ' H' => WSs P.X rest D σ' H' } hr (fun _ _ z => z.elim) hb hc σ H' ⟨F, a2.at_.go, a2.at_.en, a2.at_.ho, ae⟩
  | false => exact ⟨_, pss_nil, hB D hr hn' hb hc σ H' ⟨F, ⟨a2.at_.go, a2.at_.en, a2.at_.ho, ae⟩, a2.no, a2.ow⟩⟩
/-- y = e, e a new list of ints -/
def flat : D → R D
  | .lst xs => (match intsOf xs with | some _ => .ok (.lst xs) | none => .bad)
  | _ => .bad
theorem sq_set (G : P.GoodH) {i j : Nat} {s : Sh} {d : D} {x : Str} {e : Expr} {re : R D} {k : D → R α} {pos pos' : Pos} (h : SE P.ca P.X P.W P.H0 .o (env.set i (some (.d d))) e re) (hk : ∀ y, SSsQ P nx bk ct (env.set j (some (.d y))) i s d rest (k y)) (hn : env[i]? = some none := by rfl) (hij : j ≠ i := by decide)
    (hi : P.X.N[j]? = some x := by rfl) (hx : Loc P.X.env.scope x := by first | exact .inl rfl | exact .inr rfl) (hh : noH P.envH j = true := by rfl)
    (hs : swapsWith e (some (.Name x pos')) pos.line P.X.env = pure false := by rfl) (hf : P.X.fn x = true ∨ P.X.env.scope.names.lookup x = some .local := by first | exact .inl rfl | exact .inr rfl) :
    SSsQ P nx bk ct env i s d (.Assign [.Name x pos'] e pos :: rest) ((re.bind flat).bind k) := fun D hr hn' hb hc σ H ⟨F, a⟩ => by
  refine .cons (ps_set G.nd hi hx pe_W hs hf) ?_
  obtain ⟨F1, lF, a1, back⟩ := a.lend hn
  have a1' : AtF P F1 (env.set i (some (.d d))) (re.bind fun y => (flat y).bind k) σ H := ⟨a1.go, a1.en, a1.ho, by
    have := a1.eq
    rw [← this]; cases re <;> rfl⟩
  refine a1'.ev G h fun y v F' H' _ g q a' => ?_
  have ae := a'.eq
  obtain ⟨p, e1, pn, pf, o⟩ := q
  subst e1
  unfold flat at ae
  split at ae
  · split at ae
    · rename_i ys _ ns hys
      rw [intsOf_eq hys] at o ae
      obtain ⟨vs, hv, rr⟩ := ownLst o
      have hvs := rr.ints_inv
      subst hvs
      have hpF : F p = none := a.at_.go.fh.free pn
      have b2 := back F' H' g
      refine hk _ D hr hn' hb hc _ _ ⟨upd F p (.lst (ns.map V.int)), ⟨⟨b2.at_.go.f.trans (Le.new hpF), b2.at_.go.h, fun b u hb => ?_, fun b u hb hbn => ?_⟩, ?_, ?_, ae⟩, fun jj xx hjj => ?_, ?_⟩
      · by_cases hbp : b = p
        · subst hbp; rw [upd_same] at hb; cases hb; exact hv
        · rw [upd_ne hbp] at hb; exact b2.at_.go.fh b u hb
      · rw [upd_ne (ne_of_none hb (a.at_.en.h0.free pn))]; exact b2.at_.go.fr b u hb hbn
      · exact (b2.at_.en.shrink b2.no (Le.new hpF) b2.at_.en.h0).setD (.lst upd_same (Reps.ints ns))
      · exact HOk.set ⟨b2.at_.ho.1, fun jj t hjj => by
          obtain ⟨w, h1, h2⟩ := b2.at_.ho.2 jj t hjj
          exact ⟨w, h1, h2.mono (Le.new hpF)⟩⟩ hh
      · rcases set_some hjj with ⟨_, e⟩ | ⟨_, hj'⟩
        · cases e
        · exact b2.no jj xx hj'
      · obtain ⟨cs, w, h1, nd, h2, o2⟩ := b2.ow
        obtain ⟨cs0, w0, k1, k0, k2, o0⟩ := a.ow
        refine ⟨cs0, w0, by rw [List.getElem?_set_ne hij]; exact k1, k0, fun q hq => ⟨?_, (k2 q hq).2⟩, o0.mono (Le.new hpF) fun q _ u hu => g.h q u hu⟩
        obtain ⟨u, hu⟩ := o0.here q hq
        rw [upd_ne (ne_of_none hu pn)]
        exact (k2 q hq).1
    · exact absurd ae.symm G.nb
  · exact absurd ae.symm G.nb
end
end Um
namespace Um
open L2 PySem PySem.Spec PyProof.Rows
theorem se_q2v {ca : Ca} {X : Cx} {W : WX} {H0 : Hp} {env : En} {e : Expr} {r : R D} {s : Sh} (h : SE ca X W H0 (.q s) env e r) : SE ca X W H0 .v env e r := fun F H σ Q le ok hp => by
  refine h F H σ Q le ok ?_
  cases r with
  | ok d =>
    rintro v F' H' g ⟨cs, nd, n, o⟩
    have hF : ∀ p, p ∈ cs → F' p = none := fun p hp => (n p hp).2
    refine hp v (lent F' H' cs) H' ⟨g.f.trans (lent_le hF), g.h, lent_leH g.fh, fun p u hu hn => ?_⟩ (o.rep hF fun p hp => hp)
    have : ¬ p ∈ cs := fun hp => by rw [(n p hp).1] at hu; cases hu
    rw [lent_out this]
    exact g.fr p u hu hn
  | er x => exact hp
  | bad => exact hp
theorem se_q2r {ca : Ca} {X : Cx} {W : WX} {H0 : Hp} {env : En} {e : Expr} {r : R D} {s : Sh} (h : SE ca X W H0 (.q s) env e r) : SE ca X W H0 .r env e r := se_v2r (se_q2v h)
end Um

namespace Um
open L2 PySem PySem.Spec PyProof.Rows

def shAt : Sh → Nat → Option Sh
  | .c h _, 0 => some h
  | .c _ s, k + 1 => shAt s k
  | _, _ => none
section
variable {K : PySem.W.Frag} {ca : Ca} {F H F' H' : Hp}
theorem owns_at : ∀ {s : Sh} {cs : List Addr} {vs : List V} {ds : List D} {k : Nat}, Owns K ca F H s cs vs ds → shAt s k = some .o → ∃ p d, vs[k]? = some (.ref p) ∧ ds[k]? = some d ∧ p ∈ cs ∧ OwnAt K ca F H p d
  | _, _, _, _, k, .nil, h => by cases k <;> cases h
  | _, _, _, _, 0, .cons a r, h => by
      cases h
      cases a with
      | lst o => exact ⟨_, _, rfl, rfl, List.mem_append_left _ List.mem_cons_self, o⟩
  | _, _, _, _, k + 1, .cons a r, h => by
      obtain ⟨p, d, h1, h2, h3, h4⟩ := owns_at r (k := k) h
      exact ⟨p, d, by simpa using h1, by simpa using h2, List.mem_append_right _ h3, h4⟩
theorem owns_set {ob : HO} : ∀ {s : Sh} {cs : List Addr} {vs : List V} {ds : List D} {k : Nat} {p : Addr} {d : D}, Owns K ca F H s cs vs ds → cs.Nodup → shAt s k = some .o → vs[k]? = some (.ref p) → OwnAt K ca F (upd H p ob) p d → Owns K ca F (upd H p ob) s cs vs (ds.set k d)
  | _, _, _, _, k, p, d, .nil, _, h, _, _ => by cases k <;> cases h
  | _, _, _, _, 0, p, d, .cons a r, nd, h, hv, o => by
      cases h
      cases a with
      | lst o0 =>
        have e := Option.some.inj hv
        cases e
        have nd' : (p :: _).Nodup := nd
        rw [List.nodup_cons] at nd'
        exact .cons (.lst o) (r.mono (Le.refl _) fun q hq u hu => by
          have : q ≠ p := fun e => nd'.1 (e ▸ hq)
          rw [upd_ne this]; exact hu)
  | _, _, _, _, k + 1, p, d, .cons a r, nd, h, hv, o => by
      have hv' := (by simpa using hv : _ = some (V.ref p))
      obtain ⟨nd1, nd2, nd3⟩ := List.nodup_append.mp nd
      obtain ⟨p', d', h1, _, h3, _⟩ := owns_at r (k := k) h
      rw [hv'] at h1
      cases h1
      have := owns_set (k := k) r nd2 h hv' o
      simpa using Owns.cons (a.mono (Le.refl _) fun q hq u hu => by
        have : q ≠ p := fun e => nd3 q hq p h3 e
        rw [upd_ne this]; exact hu) this
end
def qAt (d : D) (k : Nat) : R (List D) := match d with
  | .tup ds => (match ds[k]? with | some (.lst xs) => .ok xs | _ => .bad)
  | _ => .bad
def qSet (d : D) (k : Nat) (z : D) : D := match d with
  | .tup ds => .tup (ds.set k z)
  | d => d
section
variable {α : Type} {P : Pt α} {nx bk ct : Jp α} {env : En} {rest : List Stmt}
/-- x[k].append(e) -/
theorem sq_app (G : P.GoodH) {i k : Nat} {s : Sh} {d : D} {x : Str} {e : Expr} {re : R D} {kk : D → R α} {px apos cpos pos spos ipos : Pos} {jj : Nat} (h : SE P.ca P.X P.W P.H0 .v env e re)
    (hk : ∀ y, SSsQ P nx bk ct env i (.t s) (qSet d k y) rest (kk y)) (hsh : shAt s k = some .o := by rfl) (hn : env[i]? = some none := by rfl) (hN : P.X.N[i]? = some x := by rfl)
    (hv : Vis P.X.env.scope x := by first | exact Or.inl rfl | exact Or.inr (Or.inl rfl) | exact Or.inr (Or.inr rfl)) (hd : (x == ("__debug__" : Str)) = false := by decide) (hcd : (x == ("__classdict__" : Str)) = false := by decide)
    (hpi : PlainIx (.Constant (.int (k : Int)) jj ipos) := by exact fun _ _ => rfl)
    (hs : starEach [e] P.X.env = (false, eval e P.X.env) :: starEach [] P.X.env := by rfl)
    (hbase : attributeBase (.Subscript (.Name x px) (.Constant (.int (k : Int)) jj ipos) spos) "append" P.X.env (eval (.Subscript (.Name x px) (.Constant (.int (k : Int)) jj ipos) spos) P.X.env) = eval (.Subscript (.Name x px) (.Constant (.int (k : Int)) jj ipos) spos) P.X.env := by rfl)
    (hfew : ((backTo cpos (starEach [e] P.X.env)).all (fun x => !x.1) && (backToKw cpos (keywordEach [] P.X.env)).all (fun x => x.1.isSome)
      && decide ([e].length + ([] : List Keyword).length + (if ([] : List Keyword).isEmpty then 0 else 1) < 30)) = true := by rfl)
    (hline : (apos.endLine == cpos.line) = true := by rfl) (hplain : (backTo cpos (starEach [] P.X.env)).any (·.1) = false := by rfl) :
    SSsQ P nx bk ct env i (.t s) d (.Expr (.Call (.Attribute (.Subscript (.Name x px) (.Constant (.int (k : Int)) jj ipos) spos) "append" apos) [e] [] cpos) pos :: rest) ((qAt d k).bind fun xs => re.bind fun y => (dApp xs y).bind kk) := fun D hr hn' hb hct σ H ⟨F, a⟩ => by
  obtain ⟨cs, v, h1, nd, hc, o⟩ := a.ow
  obtain ⟨p, vs, ds, cs, rfl, rfl, rfl, ht, r⟩ : ∃ (p : Addr) (vs : List V) (ds : List Um.D) (cs' : List Addr), v = .ref p ∧ d = .tup ds ∧ cs = p :: cs' ∧ (∃ u, TupHO (P.ca tmK) vs u ∧ H p = some u) ∧ Owns P.X.K P.ca F H s cs' vs ds := by
    cases o with
    | tup hu ht r => exact ⟨_, _, _, _, rfl, rfl, rfl, ⟨_, hu, ht⟩, r⟩
  obtain ⟨u0, hu, ht⟩ := ht
  obtain ⟨p', d0, h2, h3, h4, h5⟩ := owns_at r hsh
  have hq : ∃ xs, d0 = .lst xs := by
    have ae := a.at_.eq
    simp only [qAt, h3] at ae
    split at ae
    · rename_i xs hxs
      exact ⟨xs, Option.some.inj hxs⟩
    · exact absurd ae.symm G.nb
  obtain ⟨xs, rfl⟩ := hq
  refine .cons (ps_expr (pe_bm PySem.F.plainAttrs_list PySem.F.slot_list_append PySem.F.type_list_append mt_append (pe_ix ix_tup (pe_var hN hv hd hcd) pe_int hpi) (pa_cons pe_W pa_nil hs) hbase hfew hline hs hplain)) ?_
  obtain ⟨ws, hl, rr⟩ := ownLst h5
  refine ⟨_, h1, ⟨p, vs, (k : Int), .ref p', rfl, rfl, .inl (hu.rd0 ht), atI_nat h2, .inl ⟨rfl, ws, .inl (.inl hl)⟩, ?_⟩⟩
  have a0 : AtF P F env (re.bind fun y => (dApp xs y).bind kk) σ H := ⟨a.at_.go, a.at_.en, a.at_.ho, by
    have ae := a.at_.eq
    simp only [qAt, h3, R.bind_ok] at ae
    exact ae⟩
  refine a0.ev G h fun y w F' H' _ g q a' => ?_
  have ae := a'.eq
  unfold dApp at ae
  split at ae
  · rename_i hz
    refine ⟨p', ws, w, rfl, rfl, g.h _ _ hl, by rw [rr.length]; exact hz, ?_⟩
    have hcp := hc p' (List.mem_cons_of_mem _ h4)
    have hF' : F' p' = none := g.fr p' _ hl hcp.1
    have go' : Go P.F0 P.H0 F' (upd H' p' (.lst (ws ++ [w]))) := ⟨a'.go.f, fun b u e => by rw [upd_ne (ne_of_none e hcp.2)]; exact a'.go.h b u e, fun b u e => by rw [upd_ne (ne_of_none e hF')]; exact a'.go.fh b u e, a'.go.fr⟩
    refine hk _ D hr hn' hb hct σ _ ⟨F', ⟨go', a'.en.shrink a.no (Le.refl _) go'.h, a'.ho, ae⟩, a.no, p :: cs, .ref p, h1, nd, fun q hq => ?_, ?_⟩
    · obtain ⟨u, hu⟩ := (Own.tup hu ht r).here q hq
      exact ⟨g.fr q u hu (hc q hq).1, (hc q hq).2⟩
    · have hpp : p ≠ p' := fun e => by
        have := (List.nodup_cons.mp nd).1
        exact this (e ▸ h4)
      have r' := r.mono (H' := H') g.f fun q _ u hu => g.h q u hu
      exact .tup hu (by rw [upd_ne hpp]; exact g.h _ _ ht) (owns_set r' (List.nodup_cons.mp nd).2 hsh h2 (.inl ⟨_, _, rfl, upd_same, (rr.mono g.f).snoc q⟩))
  · exact absurd ae.symm G.nb
end

/-! ## a def that uses up the tree that it gets -/
def spE (K : PySem.W.Frag) (ca : Ca) (s : Sh) (f : D → R D) : Sp := fun vs H Q E =>
  ∃ F Hs cs v d, vs = [v] ∧ Le F Hs ∧ Le Hs H ∧ cs.Nodup ∧ (∀ p, p ∈ cs → Hs p = none) ∧ Own K ca F H s cs v d ∧ StK K ca F Hs ∧ Post K ca .v (fun x F' H' => ∀ c d, ExcRep K ca F' c d x → E c d H') F Hs (f d) Q
structure DefE (P : Program) (w : World) (K : PySem.W.Frag) (mg : Str → Option Value) (base : Heap) (ca : Ca) (x : Str) (n : Nat) (s : Sh) (f : D → R D) : Prop where
  ex : ∃ (a : Addr) (fd : FuncData) (ps : List Str), FnOk P w K mg base (L2N.CX P w) n a fd ps (spE K ca s f) ∧ mg x = some (.ref a) ∧ PySem.W.keepIn K (.ref a) = true ∧ Binds K fd ps []
theorem def_okE {P : Program} {w : World} {K : PySem.W.Frag} {mg : Str → Option Value} {base : Heap} {ca : Ca} {x qual : Str} {st : Stmt} {a : Addr} {fd : FuncData} {N ps : List Str} {k : Nat} {sh : Sh} {f : D → R D}
    (F : Fun K x qual st a fd) (S : FnScope N ps (defScope st)) (hm : ps.length = 1) (hN : ps.length ≤ N.length)
    (gm : mg x = some (.ref a)) (b : Binds K fd ps [])
    (body : ∀ (cdv : Value) (A : Around) (outer : List Env) (s : Shared) (H Hs : Hp) (Q : VK) (E : XK) (F0 : Hp) (d : D), Room k (A.deeper (envOfC qual (defScope st) s.heap.objs.size a cdv)) →
      (Pt.mk ca (cxOf (L2N.CX P w) P w K mg base N qual (defScope st) a cdv A outer s H E) (fun c d _ H' => E c d H') F0 Hs [] (f d) R.ok .v Q).Good →
      SSsQ (Pt.mk ca (cxOf (L2N.CX P w) P w K mg base N qual (defScope st) a cdv A outer s H E) (fun c d _ H' => E c d H') F0 Hs [] (f d) R.ok .v Q) (jEnd .v) jNo jNo (List.replicate N.length none) 0 sh d (defBody st) (f d)) :
    DefE P w K mg base ca x (k + 1) sh f := by
  refine ⟨a, fd, ps, okN F S (fun vs H Q E h => ?_) (fun cdv A outer s H vs Q E hr h => ?_), gm, F.kp, b⟩
  · obtain ⟨F0, Hs, cs, v, d, rfl, _⟩ := h
    rw [hm]; rfl
  · obtain ⟨F0, Hs, cs, v, d, rfl, le, le2, nd, hc, o, hst, hp⟩ := h
    refine ⟨_, pss_W, ?_⟩
    have G : (Pt.mk ca (cxOf (L2N.CX P w) P w K mg base N qual (defScope st) a cdv A outer s H E) (fun c d _ H' => E c d H') F0 Hs [] (f d) R.ok .v Q).Good := by
      refine ⟨S.nd, rfl, passes_of rfl, fun d' v F1 H1 e g r => ?_, fun z F1 H1 σ e g _ => ?_, fun e => ?_, (fun d e => nomatch e), hst⟩
      · have e' : f d = .ok d' := e
        rw [e'] at hp
        exact hp v F1 H1 g r
      · have e' : f d = .er z := e
        rw [e'] at hp
        exact hp F1 H1 g
      · have e' : f d = .bad := e
        rw [e'] at hp
        exact hp
    have h1N : 1 ≤ N.length := by rw [hm] at hN; exact hN
    refine body cdv A outer s H Hs Q E F0 d hr G _ rfl ?_ (fun _ _ z => z.elim) (fun _ _ z => z.elim) _ _ ⟨F0, ⟨⟨Le.refl _, le2, le.trans le2, fun _ _ _ n => n⟩, ⟨le2, ?_, fun i s h => ?_, fun i j x y h => ?_, hst⟩, ⟨.inl (Nat.zero_le _), fun i s h => by simp at h⟩, rfl⟩, fun j y hj => ?_, cs, v, ?_, nd, fun p hp => ⟨le.free (hc p hp), hc p hp⟩, o⟩
    · rintro e' r' ⟨rfl, -⟩ σ H1 ⟨F1, a1⟩
      exact G.rt .non .non F1 H1 a1.eq.symm a1.go Rep.non
    · show (L2.start N [v]).length = _
      unfold L2.start
      rw [List.length_append, List.length_map, List.length_replicate, List.length_replicate]
      simp; omega
    · rw [List.getElem?_replicate] at h; split at h <;> cases h
    · rw [List.getElem?_replicate] at h; split at h <;> cases h
    · rw [List.getElem?_replicate] at hj; split at hj <;> cases hj
    · rfl
section
variable {α : Type} {P : Pt α} {nx bk ct : Jp α} {env : En} {rest : List Stmt}
/-- tests that use the tree up -/
structure StP (P : Pt α) (F : Hp) (env : En) (σ : L2.St) (H : Hp) : Prop where
  go : Go P.F0 P.H0 F H
  en : EnOk P.X.K P.ca P.H0 F H σ env
  ho : HOk P F H σ
structure StQ (P : Pt α) (F : Hp) (env : En) (i : Nat) (s : Sh) (d : D) (σ : L2.St) (H : Hp) : Prop where
  st : StP P F env σ H
  no : ∀ (j : Nat) x, env[j]? ≠ some (some (.o x))
  ow : ∃ cs v, σ[i]? = some (some v) ∧ cs.Nodup ∧ (∀ p, p ∈ cs → F p = none ∧ P.H0 p = none) ∧ Own P.X.K P.ca F H s cs v d
def PostT (P : Pt α) (env : En) (σ : L2.St) (r : R Bool) (Q : Bool → Hp → Prop) : Prop := match r with
  | .ok b => ∀ F' H', StP P F' env σ H' → Q b H'
  | .er x => ∀ F' H', StP P F' env σ H' → ekOf P.X.K P.ca P.W σ x F' H'
  | .bad => False
def SQT (P : Pt α) (env : En) (i : Nat) (s : Sh) (d : D) (e : Expr) (r : R Bool) : Prop := ∀ F σ H Q, StQ P F env i s d σ H → PostT P env σ r Q → WT P.X e σ H Q
def SQW (P : Pt α) (env : En) (i : Nat) (s : Sh) (d : D) (e : Expr) (r : R Bool) : Prop := ∀ F σ H Q, StQ P F env i s d σ H → PostT P env σ r Q → WW P.X e σ H Q
theorem StQ.aq {F H : Hp} {i : Nat} {s : Sh} {d : D} {σ : L2.St} (a : StQ P F env i s d σ H) : AtQF P F env i s d P.res σ H := ⟨⟨a.st.go, a.st.en, a.st.ho, rfl⟩, a.no, a.ow⟩
theorem AtQF.sq {F H : Hp} {i : Nat} {s : Sh} {d : D} {r : R α} {σ : L2.St} (a : AtQF P F env i s d r σ H) : StQ P F env i s d σ H := ⟨⟨a.at_.go, a.at_.en, a.at_.ho⟩, a.no, a.ow⟩
theorem StQ.ev {F H : Hp} {i : Nat} {s : Sh} {d : D} {σ : L2.St} {e : Expr} {r : R Bool} {k : Bool → R Bool} {Q G : Bool → Hp → Prop} (a : StQ P F env i s d σ H) (hn : env[i]? = some none) (h : ST P.ca P.X P.W P.H0 (env.set i (some (.d d))) e r) (hp : PostT P env σ (r.bind k) Q)
    (hg : ∀ b H', StQ P F env i s d σ H' → PostT P env σ (k b) Q → G b H') : WT P.X e σ H G := by
  obtain ⟨F1, _, a1, back⟩ := a.aq.lend hn
  refine h F1 H σ G a1.go.fh a1.en ?_
  cases r with
  | ok b => exact fun F' H' g => hg b H' (back F' H' g).sq hp
  | er x => exact fun F' H' g => hp F' H' ⟨(a1.go.trans g), (back F' H' g).at_.en.shrink a.no (show Le F F' from fun p o e => g.f p o (by
      obtain ⟨cs, v, _, _, hc, _⟩ := a.ow
      exact ‹Le F F1› p o e)) (back F' H' g).at_.en.h0, ⟨a.st.ho.1, fun j t hj => by
        obtain ⟨w, h1, h2⟩ := a.st.ho.2 j t hj
        exact ⟨w, h1, h2.mono (Le.trans ‹Le F F1› g.f)⟩⟩⟩
  | bad => exact hp
theorem sqw_or {i : Nat} {s : Sh} {d : D} {a b : Expr} {es : List Expr} {pos : Pos} {ta tb : R Bool} (h : ST P.ca P.X P.W P.H0 (env.set i (some (.d d))) a ta) (hb : SQW P env i s d (.BoolOp .Or (b :: es) pos) tb) (hn : env[i]? = some none := by rfl) : SQW P env i s d (.BoolOp .Or (a :: b :: es) pos) (R.or ta tb) := fun F σ H Q st hp => by
  refine ⟨_, pw_or pt_W pw_W, st.ev hn h hp fun k H1 st1 hp1 => ?_⟩
  cases k with
  | true => exact hp1 F H1 st1.st
  | false => exact hb F σ H1 Q st1 hp1
theorem sqw_or1 {i : Nat} {s : Sh} {d : D} {a : Expr} {pos : Pos} {ta : R Bool} (h : SQT P env i s d a ta) : SQW P env i s d (.BoolOp .Or [a] pos) ta := fun F σ H Q st hp => ⟨_, pw_or1 pt_W, h F σ H Q st hp⟩
theorem sqt_bool {i : Nat} {s : Sh} {d : D} {op} {es : List Expr} {pos : Pos} {ta : R Bool} (h : SQW P env i s d (.BoolOp op es pos) ta) : SQT P env i s d (.BoolOp op es pos) ta := fun F σ H Q st hp => ⟨_, PW.pt pw_W, h F σ H Q st hp⟩
theorem sqt_not {i : Nat} {s : Sh} {d : D} {a : Expr} {pos : Pos} {ta : R Bool} (h : SQT P env i s d a ta) : SQT P env i s d (.UnaryOp .Not a pos) (ta.bind bNot) := fun F σ H Q st hp => by
  refine ⟨_, pt_not pt_W, h F σ H _ st ?_⟩
  cases ta with
  | ok b => exact hp
  | er x => exact hp
  | bad => exact hp
/-- f(x) as a test -/
theorem sqt_call {i : Nat} {s : Sh} {d : D} {f x : Str} {n k : Nat} {m : D → R D} {p p' pos : Pos} (Df : DefE P.X.prog P.X.w P.X.K P.X.mg P.X.base P.ca f n s m) (hr : Room k P.X.A) (tk : L2N.Takes P.X P.W)
    (hnk : n ≤ k := by decide) (hg : Gl P.X f := by rfl) (hdb : (f == ("__debug__" : Str)) = false := by decide)
    (hN : P.X.N[i]? = some x := by rfl)
    (hv : Vis P.X.env.scope x := by first | exact Or.inl rfl | exact Or.inr (Or.inl rfl) | exact Or.inr (Or.inr rfl)) (hd : (x == ("__debug__" : Str)) = false := by decide) (hcd : (x == ("__classdict__" : Str)) = false := by decide)
    (hs : starEach [.Name x p'] P.X.env = (false, eval (.Name x p') P.X.env) :: starEach [] P.X.env := by rfl) (hpl : (backTo pos (starEach [] P.X.env)).any (·.1) = false := by rfl)
    (he : ∀ whole, isTrue (.Call (.Name f p) [.Name x p'] [] pos) P.X.env whole = (do let v ← whole; standAt (Expr.Call (.Name f p) [.Name x p'] [] pos).pos; holding [v] (truthy v)) := by intro _; rfl) :
    SQT P env i s d (.Call (.Name f p) [.Name x p'] [] pos) ((m d).bind dTruth) := fun F σ H Q st hp => by
  obtain ⟨a, fd, ps, G, gm, kp, b⟩ := Df.ex
  refine ⟨_, pt_truth (pe_callS G (hr.mono hnk) hg gm kp b (fun σ => L2N.passAt tk σ) (pa_cons (pe_var hN hv hd hcd) pa_nil hs) hdb hs hpl) he, ?_⟩
  obtain ⟨cs, v, h1, nd, hc, o⟩ := st.ow
  refine ⟨v, h1, ?_⟩
  let Hs : Hp := lent H (fun _ => none) cs
  have hin : ∀ q, q ∈ cs → Hs q = none := fun q hq => lent_in (F := H) (H := fun _ => none) hq
  have hout : ∀ q, ¬ q ∈ cs → Hs q = H q := fun q hq => lent_out (F := H) (H := fun _ => none) hq
  have le1 : Le F Hs := fun q u hu => by
    have : ¬ q ∈ cs := fun h => by rw [(hc q h).1] at hu; cases hu
    rw [hout q this]; exact st.st.go.fh q u hu
  have le0 : Le P.H0 Hs := fun q u hu => by
    have : ¬ q ∈ cs := fun h => by rw [(hc q h).2] at hu; cases hu
    rw [hout q this]; exact st.st.go.h q u hu
  have le2 : Le Hs H := fun q u hu => by
    by_cases h : q ∈ cs
    · rw [hin q h] at hu; cases hu
    · rw [hout q h] at hu; exact hu
  have back : ∀ F' H', Go F Hs F' H' → StP P F' env σ H' := fun F' H' g =>
    ⟨⟨st.st.go.f.trans g.f, le0.trans g.h, g.fh, fun q u hu hn => g.fr q u (le0 q u hu) (st.st.go.fr q u hu hn)⟩, st.st.en.shrink st.no g.f (le0.trans g.h), ⟨st.st.ho.1, fun j t hj => by
      obtain ⟨w, h1, h2⟩ := st.st.ho.2 j t hj
      exact ⟨w, h1, h2.mono g.f⟩⟩⟩
  refine ⟨F, Hs, cs, v, d, rfl, le1, le2, nd, hin, o, st.st.en.st.monoH le0, ?_⟩
  cases hm : m d with
  | er z => rw [hm] at hp; exact fun F' H' g => hp F' H' (back F' H' g)
  | bad => rw [hm] at hp; exact hp
  | ok y =>
    rw [hm] at hp
    intro w F' H' g q
    have hp' : PostT P env σ (dTruth y) Q := hp
    cases hy : dTruth y with
    | ok t => rw [hy] at hp'; exact ⟨t, truth_ok g.fh (.inl q) hy, hp' F' H' (back F' H' g)⟩
    | er z => cases y <;> simp [dTruth] at hy; split at hy <;> cases hy
    | bad => rw [hy] at hp'; exact hp'.elim
theorem sq_eat (G : P.GoodH) {i : Nat} {s : Sh} {d : D} {c : Expr} {A : List Stmt} {tc : R Bool} {rA rB : R α} {pos : Pos} (h : SQT P env i s d c tc)
    (hA : SSs P jNo bk ct env A rA) (hB : SSs P nx bk ct env rest rB) :
    SSsQ P nx bk ct env i s d (.If c A [] pos :: rest) (tc.bind fun b => if b = true then rA else rB) := fun D hr hn' hb hc σ H ⟨F, a⟩ => by
  refine .cons (ps_if pt_W pss_W pss_W) ?_
  have ae := a.at_.eq
  refine h F σ H _ a.sq ?_
  cases tc with
  | er x => exact fun F' H' st => G.er x F' H' σ ae.symm st.go st.ho
  | bad => exact G.nb ae.symm
  | ok b =>
    intro F' H' st
    cases b with
    | true => exact hA { D with nx := fun σ' H' => WSs P.X rest D σ' H' } hr (fun _ _ z => z.elim) hb hc σ H' ⟨F', st.go, st.en, st.ho, ae⟩
    | false => exact ⟨_, pss_nil, hB D hr hn' hb hc σ H' ⟨F', st.go, st.en, st.ho, ae⟩⟩
end
end Um
namespace Um
open L2 PySem PySem.Spec PyProof.Rows
theorem law_sp {K : PySem.W.Frag} {ca : Ca} {f : D → R D} {H : Hp} {a : Addr} {ns : List Int} (h0 : ca.s = []) (h : f (.scr (ns.map D.int)) = .ok (.bl true)) (hS : L2.SqL K H a (ns.map V.int)) : spOf K ca [.r] .v (fn1 f) [.ref a] H (fun v _ => v = .bl true) fun _ _ _ => False := by
  refine ⟨H, [.scr (ns.map D.int)], Le.refl H, .consR (.inl (.scr hS (Reps.ints ns))) .nil, StK.of0 h0, ?_⟩
  show Post K ca .v _ H H (f (.scr (ns.map D.int))) _
  rw [h]
  intro v F' H' _ r
  cases r
  rfl
end Um

namespace Um
open L2 PySem PySem.Spec PyProof.Rows

/-! ## Instances -/
def lookD (f : Str) : List Str → List D → R D
  | n :: ns, x :: xs => if f == n then .ok x else lookD f ns xs
  | _, _ => .bad
/-- e.f of an instance of c -/
def dFld (c f : Str) : D → R D
  | .ins c' ns xs => if c' = c then lookD f ns xs else .bad
  | _ => .bad
def putNs (f : Str) : List Str → List Str
  | [] => [f]
  | n :: ns => if n = f then n :: ns else n :: putNs f ns
def putXs (f : Str) (d : D) : List Str → List D → List D
  | n :: ns, x :: xs => if n = f then d :: xs else x :: putXs f d ns xs
  | _, _ => [d]
/-- e.f = d -/
def dPut (c f : Str) (d : D) : D → R D
  | .ins c' ns xs => if c' = c ∧ ns.length < 1000 then .ok (.ins c (putNs f ns) (putXs f d ns xs)) else .bad
  | _ => .bad
theorem lookD_ok {K : PySem.W.Frag} {ca : Ca} {F : Hp} {f : Str} {d : D} : ∀ {fs : List (Str × V)} {ds : List D}, Reps K ca F (fs.map (·.2)) ds → lookD f (fs.map (·.1)) ds = .ok d → ∃ v, fs.lookup f = some v ∧ Rep K ca F v d
  | [], _, r, h => by cases r; cases h
  | (n, v) :: fs, ds, r, h => by
    cases r with
    | cons a r =>
      simp only [List.map_cons, lookD] at h
      simp only [List.lookup]
      cases hb : (f == n) with
      | true => rw [hb] at h; cases h; exact ⟨v, rfl, a⟩
      | false => rw [hb] at h; exact lookD_ok r h
theorem lookD_er {f : Str} {x : Exc} : ∀ {ns : List Str} {ds : List D}, lookD f ns ds ≠ .er x
  | [], _, h => by cases h
  | _ :: _, [], h => by cases h
  | n :: ns, d :: ds, h => by
    unfold lookD at h
    split at h
    · cases h
    · exact lookD_er h
theorem putF_ok {K : PySem.W.Frag} {ca : Ca} {F : Hp} {f : Str} {v : V} {d : D} (q : Rep K ca F v d) : ∀ {fs : List (Str × V)} {ds : List D}, Reps K ca F (fs.map (·.2)) ds → (putF f v fs).map (·.1) = putNs f (fs.map (·.1)) ∧ Reps K ca F ((putF f v fs).map (·.2)) (putXs f d (fs.map (·.1)) ds)
  | [], _, r => by cases r; exact ⟨rfl, .cons q .nil⟩
  | (n, u) :: fs, ds, r => by
    cases r with
    | cons a r =>
      obtain ⟨h1, h2⟩ := putF_ok q r
      simp only [putF, List.map_cons, putNs, putXs]
      by_cases hn : n = f
      · simp only [hn, if_true, List.map_cons]
        exact ⟨trivial, .cons q r⟩
      · simp only [hn, if_false, List.map_cons]
        exact ⟨by rw [h1], .cons a h2⟩
section
variable {ca : Ca} {X : Cx} {W : WX} {H0 F H F' H' : Hp} {env : En} {a b c e : Expr} {ra rb rc : R D} {pos : Pos} {m : Md}
theorem se_fld {c f : Str} (h : SE ca X W H0 .r env e ra) (hc : Cls X.K (ca c)) (hn : NoAttr X.K (ca c) f) (hb : attributeBase e f X.env (eval e X.env) = eval e X.env := by rfl) : SE ca X W H0 .v env (.Attribute e f pos) (ra.bind (dFld c f)) := fun F H σ Q le ok hp => by
  refine ⟨_, pe_fld pe_W hb, h.then le ok hp fun d v F1 H1 _ g q _ hp1 => ?_⟩
  cases d with
  | ins c' ns xs =>
    unfold dFld at hp1
    dsimp only at hp1
    split at hp1
    · rename_i hcc
      subst hcc
      obtain ⟨p, dx, fs, rfl, h1, h2, r⟩ := ar_ins g.fh q
      subst h2
      cases hl : lookD f (fs.map (·.1)) xs with
      | ok y =>
        obtain ⟨u, h3, h4⟩ := lookD_ok r hl
        rw [hl] at hp1
        exact ⟨p, _, dx, fs, u, rfl, h1, hc, hn, h3, hp1 u F1 H1 (Go.refl g.fh) h4⟩
      | er x => exact absurd hl lookD_er
      | bad => rw [hl] at hp1; exact hp1.elim
    · exact hp1.elim
  | _ => exact hp1.elim
/-! ### properties -/
theorem passF {P : Program} {w : World} {X : Cx} : Passes (L2N.CX P w) X (fun _ _ _ => False) := fun _ _ _ _ _ _ _ h => by
  obtain ⟨a, B, H', cls, d, -, -, -, -, -, -, -, hE⟩ := h
  exact hE.elim
structure PDef (P : Program) (w : World) (K : PySem.W.Frag) (mg : Str → Option Value) (base : Heap) (ca : Ca) (c f : Str) (n : Nat) (g : D → R D) : Prop where
  ex : ∃ (p ga : Addr) (fd : FuncData) (ps : List Str), PropOf K (ca c) f p ga ∧ FnOk P w K mg base (L2N.CX P w) n ga fd ps (spOf K ca [.r] .v (fn1 g)) ∧ Binds K fd ps [] ∧ Cls K (ca c)
/-- an instance of c, else bad -/
def isOf (c : Str) (d : D) : R D := match d with
  | .ins c' ns xs => if c' = c then .ok (.ins c' ns xs) else .bad
  | _ => .bad
theorem se_prop {c f : Str} {n k : Nat} {g : D → R D} (Df : PDef X.prog X.w X.K X.mg X.base ca c f n g) (hr : Room k X.A) (h : SE ca X W H0 .r env e ra) (hnk : n + 1 ≤ k := by decide) (hb : attributeBase e f X.env (eval e X.env) = eval e X.env := by rfl) :
    SE ca X W H0 .v env (.Attribute e f pos) ((ra.bind (isOf c)).bind fun d => noEr (g d)) := fun F H σ Q le ok hp => by
  obtain ⟨p, ga, fd, ps, pr, G, b, cl⟩ := Df.ex
  have hp' : Post X.K ca .v (ekOf X.K ca W σ) F H (ra.bind fun d => (isOf c d).bind fun d => noEr (g d)) Q := by cases ra <;> exact hp
  refine ⟨_, pe_prop pe_W cl pr G (hr.mono hnk) b .nil passF hb, h.then le ok hp' fun d v F1 H1 _ g1 q ok1 hp1 => ?_⟩
  cases d with
  | ins c' ns xs =>
    unfold isOf at hp1
    dsimp only at hp1
    split at hp1
    · rename_i hcc
      subst hcc
      obtain ⟨q', dx, fs, rfl, h1, h2, r⟩ := ar_ins g1.fh q
      refine ⟨q', dx, fs, rfl, h1, F1, [_], g1.fh, .consR q .nil, ok1.st.monoH ok1.h0, ?_⟩
      show Post X.K ca .v _ F1 H1 (g _) Q
      simp only [R.bind_ok] at hp1
      cases hg : g (.ins c' ns xs) with
      | ok y => rw [hg] at hp1; exact hp1
      | er x => rw [hg] at hp1; exact hp1.elim
      | bad => rw [hg] at hp1; exact hp1.elim
    · exact hp1.elim
  | _ => exact hp1.elim
/-! ### keywords -/
def WK (X : Cx) (ks : List Keyword) : TA := fun σ H Q => ∃ t, PK X ks t ∧ t σ H Q
theorem pk_W {ks : List Keyword} : PK X ks (WK X ks) := ⟨fun pos pins s σ H Q I ⟨_, p, h⟩ => p.run pos pins s σ H Q I h⟩
def SK (ca : Ca) (X : Cx) (W : WX) (H0 : Hp) (ms : List Md) (env : En) (ks : List Keyword) (r : R (List D)) : Prop := ∀ F H σ Q, Le F H → EnOk X.K ca H0 F H σ env → PostA ca X ms (ekOf X.K ca W σ) F H r Q → WK X ks σ H Q
theorem sk_nil : SK ca X W H0 [] env [] (.ok []) := fun F H σ Q le ok hp => ⟨_, pk_nil, hp [] F H (Go.refl le) .nil⟩
theorem sk_v {ms : List Md} {nm : Option Str} {kpos : Pos} {ks : List Keyword} {rs : R (List D)} (h : SE ca X W H0 .v env e ra) (hr : SK ca X W H0 ms env ks rs) : SK ca X W H0 (.v :: ms) env (⟨nm, e, kpos⟩ :: ks) (R.cons ra rs) := fun F H σ Q le ok hp => by
  refine ⟨_, pk_cons pe_W pk_W, h.thenA le ok hp fun d v F' H' _ g q ok' hp' => ?_⟩
  refine hr F' H' σ _ g.fh ok' ?_
  cases rs with
  | ok ds => exact fun vs F2 H2 g2 q2 => hp' _ F2 H2 g2 (.consV (Rep.mono g2.f q) q2)
  | er x => exact hp'
  | bad => exact hp'
theorem SA.thenA {ms ms' : List Md} {es : List Expr} {r : R (List D)} {k : List D → R (List D)} {σ : L2.St} {Q G : List V → Hp → Prop} (h : SA ca X W H0 ms env es r) (le : Le F H) (ok : EnOk X.K ca H0 F H σ env)
    (hp : PostA ca X ms' (ekOf X.K ca W σ) F H (r.bind k) Q)
    (hg : ∀ ds vs F' H', r = .ok ds → Go F H F' H' → ARs X.K ca F' H' ms vs ds → EnOk X.K ca H0 F' H' σ env → PostA ca X ms' (ekOf X.K ca W σ) F' H' (k ds) Q → G vs H') : WA X es σ H G := by
  refine h F H σ G le ok ?_
  cases r with
  | ok d => exact fun v F' H' g q => hg d v F' H' rfl g q (ok.mono g) (hp.mono g)
  | er x => exact hp
  | bad => exact hp
/-! ### constructors -/
/-- an __init__'s promise: the new instance, of one's own, is built -/
def spI (K : PySem.W.Frag) (ca : Ca) (c : Str) (ms : List Md) (f : List D → R D) : Sp := fun vs H Q E =>
  ∃ (F Hs : Hp) (p dx : Addr) (us : List V) (ds : List D), vs = .ref p :: us ∧ Le F Hs ∧ Le Hs H ∧ Hs p = none ∧ H p = some (.ins (ca c) dx []) ∧ ARs K ca F Hs ms us ds ∧ StK K ca F Hs ∧
    (match f ds with | .ok d => ∀ F' H', Go F Hs F' H' → F' p = none → OwnAt K ca F' H' p d → Q .non H' | .er x => x.cls ≠ Str.empty ∧ ∀ F' H', Go F Hs F' H' → ∀ c d, ExcRep K ca F' c d x → E c d H' | .bad => False)
/-- how the values come to the parameters: positional ones and keywords, and defaults -/
structure Arr (K : PySem.W.Frag) (ca : Ca) (ms : List Md) (ks : List Md) (ps : List Md) (aV : List V → List V → List V) (aD : List D → List D → List D) : Prop where
  ok : ∀ F H vs ds zs es, ARs K ca F H ms vs ds → ARs K ca F H ks zs es → ARs K ca F H ps (aV vs zs) (aD ds es)
structure IDef (P : Program) (w : World) (K : PySem.W.Frag) (mg : Str → Option Value) (base : Heap) (ca : Ca) (c : Str) (n : Nat) (ms : List Md) (f : List D → R D) : Prop where
  ex : ∃ (fI : Addr) (fd : FuncData) (ps : List Str), Mk K (ca c) fI ∧ FnOk P w K mg base (L2N.CX P w) n fI fd ps (spI K ca c ms f) ∧ mg c = some (.ref (ca c))
/-- a way to call it -/
structure IWay (P : Program) (w : World) (K : PySem.W.Frag) (mg : Str → Option Value) (base : Heap) (ca : Ca) (c : Str) (n : Nat) (ms : List Md) (f : List D → R D) (np : Nat) (ks : List Str) (pm km : List Md) (aD : List D → List D → List D) : Prop where
  ex : ∃ (fI : Addr) (fd : FuncData) (ps : List Str) (gg : List Value → List Value → List Value) (gV aV : List V → List V → List V), Mk K (ca c) fI ∧ FnOk P w K mg base (L2N.CX P w) n fI fd ps (spI K ca c ms f) ∧ mg c = some (.ref (ca c)) ∧
    KBn K fd ps (np + 1) ks gg gV ∧ (∀ v vs zs, gV (v :: vs) zs = v :: aV vs zs) ∧ Arr K ca pm km ms aV aD
theorem se_make {c : Str} {n k np : Nat} {ms pm km : List Md} {ks : List Str} {f : List D → R D} {aD : List D → List D → List D} {p : Pos} {es : List Expr} {kws : List Keyword} {rs rk : R (List D)} (Df : IWay X.prog X.w X.K X.mg X.base ca c n ms f np ks pm km aD) (hr : Room k X.A)
    (ha : SA ca X W H0 pm env (e :: es) rs) (hk : SK ca X W H0 km env kws rk) (hl1 : pm.length = np := by rfl) (hl2 : km.length = ks.length := by rfl) (hnk : n + 1 ≤ k := by decide) (hg : Gl X c := by rfl) (hdb : (c == ("__debug__" : Str)) = false := by decide)
    (hall : (backToKw pos (keywordEach kws X.env)).all (·.1.isSome) = true := by rfl) (hks : (backToKw pos (keywordEach kws X.env)).filterMap (·.1) = ks := by rfl)
    (he : starEach (e :: es) X.env = (false, eval e X.env) :: starEach es X.env := by rfl) (hpl : ((backTo pos (starEach (e :: es) X.env)).any (·.1) || (backToKw pos (keywordEach kws X.env)).any (·.1.isNone)) = false := by rfl) :
    SE ca X W H0 .o env (.Call (.Name c p) (e :: es) kws pos) (rs.bind fun ds => rk.bind fun zs => noEr (f (aD ds zs))) := fun F H σ Q le ok hp => by
  obtain ⟨fI, fd, ps, gg, gV, aV, M, G, gm, b, hgV, hA⟩ := Df.ex
  have lenA : ∀ {F H : Hp} {ms : List Md} {vs : List V} {ds : List D}, ARs X.K ca F H ms vs ds → ms.length = vs.length := fun q => by
    induction q with
    | nil => rfl
    | consR _ _ ih => rw [List.length_cons, List.length_cons, ih]
    | consV _ _ ih => rw [List.length_cons, List.length_cons, ih]
  refine ⟨_, pe_makeK M G (hr.mono hnk) hg gm b passF pa_W pk_W hall hks hdb he hpl, ?_⟩
  refine ha.then le ok hp fun ds vs F1 H1 _ g1 q1 ok1 hp1 => ?_
  refine hk F1 H1 σ _ g1.fh ok1 ?_
  cases rk with
  | er x => exact hp1
  | bad => exact hp1
  | ok zs =>
    intro ws F2 H2 g2 q2
    have hp2 : Post X.K ca .o (ekOf X.K ca W σ) F1 H1 (noEr (f (aD ds zs))) Q := hp1
    have q1' := q1.mono g2
    refine ⟨by rw [← lenA q1', hl1], by rw [← lenA q2, hl2], fun x dx hx hdx hne => ?_⟩
    rw [hgV]
    have gd : Go F2 H2 F2 (upd H2 dx (.own x)) := Go.hid g2.fh hdx _
    have hxn : (upd H2 dx (.own x)) x = none := by rw [upd_ne (fun e => hne e.symm)]; exact hx
    refine ⟨F2, upd H2 dx (.own x), x, dx, aV vs ws, aD ds zs, rfl, gd.fh, Le.new hxn, hxn, upd_same, hA.ok F2 _ _ _ _ _ (q1'.mono gd) (q2.mono gd), ((ok1.mono g2).mono gd).st.monoH ((ok1.mono g2).mono gd).h0, ?_⟩
    cases hf : f (aD ds zs) with
    | er z => rw [hf] at hp2; exact hp2.elim
    | bad => rw [hf] at hp2; exact hp2.elim
    | ok d =>
      rw [hf] at hp2
      intro F' H' g3 n3 o3
      refine ⟨rfl, hp2 (.ref x) F' H' ((g2.trans gd).trans g3) ⟨x, rfl, g2.h.free hx, n3, o3⟩⟩
end
section
variable {α : Type} {P : Pt α} {nx bk ct : Jp α} {env : En} {rest : List Stmt}
theorem ss_bad (G : P.GoodH) {ss : List Stmt} : SSs P nx bk ct env ss .bad := fun D _ _ _ _ σ H ⟨F, a⟩ => absurd a.eq.symm G.nb
/-- x.f = e, x an instance of one's own -/
theorem ss_fld (G : P.GoodH) {i : Nat} {c f x : Str} {e : Expr} {re : R D} {k : D → R α} {d0 : D} {px ap pos : Pos} (h : SE P.ca P.X P.W P.H0 .v env e re) (hc : Cls P.X.K (P.ca c)) (hna : NoAttr P.X.K (P.ca c) f) (he : env[i]? = some (some (.o d0)) := by rfl)
    (hk : ∀ d, SSs P nx bk ct (env.set i (some (.o d))) rest (k d)) (hN : P.X.N[i]? = some x := by rfl)
    (hv : Vis P.X.env.scope x := by first | exact Or.inl rfl | exact Or.inr (Or.inl rfl) | exact Or.inr (Or.inr rfl)) (hd : (x == ("__debug__" : Str)) = false := by decide) (hcd : (x == ("__classdict__" : Str)) = false := by decide)
    (hs : swapsWith e (some (.Attribute (.Name x px) f ap)) pos.line P.X.env = pure false := by rfl) :
    SSs P nx bk ct env (.Assign [.Attribute (.Name x px) f ap] e pos :: rest) (re.bind fun d => (dPut c f d d0).bind k) := fun D hr hn hb hct σ H ⟨F, a⟩ => by
  obtain ⟨v, h1, p, e1, n, fn, o⟩ := a.en.at_ i _ he
  subst e1
  refine .cons (ps_fld (pe_var hN hv hd hcd) pe_W hs) ?_
  refine a.ev G h fun d w F' H' _ g q a' => ?_
  have ae := a'.eq
  cases d0 with
  | ins c' ns xs =>
    unfold dPut at ae
    dsimp only at ae
    split at ae
    · rename_i hcc
      obtain ⟨hcc, hlen⟩ := hcc
      subst hcc
      rcases o with ⟨_, _, e, _⟩ | ⟨_, _, _, e, _⟩ | ⟨_, dx, _, fs, _, e, hh, hns, r⟩ | ⟨_, _, _, e, _⟩
      · cases e
      · cases e
      · cases e
        subst hns
        obtain ⟨k1, k2⟩ := putF_ok (f := f) q (r.mono g.f)
        refine ⟨_, h1, p, _, dx, fs, rfl, g.h _ _ hh, hc, hna, by simpa using hlen, ?_⟩
        exact hk _ D hr hn hb hct σ _ ⟨F', (⟨a'.go, a'.en, a'.ho, ae⟩ : AtF P F' env _ σ H').mut he h1 n (g.fr p _ hh fn) (.inr (.inr (.inl ⟨_, dx, _, _, _, rfl, upd_same, k1, k2⟩)))⟩
      · cases e
    · exact absurd ae.symm G.nb
  | _ => exact absurd ae.symm G.nb
end
/-! ### an __init__ keeps its promise -/
def jInit : Jp D := fun e r => ∃ d, e[0]? = some (some (.o d)) ∧ r = .ok d
def noExc : Exc := ⟨Str.empty, [], []⟩
theorem def_okI {P : Program} {w : World} {K : PySem.W.Frag} {mg : Str → Option Value} {base : Heap} {ca : Ca} {c x qual : Str} {params : Arguments} {bd : List Stmt} {scope : Scope} {dvs : List V} {kws : List (Str × V)} {a : Addr} {fd : FuncData} {N ps : List Str} {k : Nat} {ms : List Md} {f : List D → R D}
    (F : FunD K x qual params bd scope dvs kws a fd) (S : FnScope N ps scope) (hm : ms.length + 1 = ps.length) (hN : ps.length ≤ N.length)
    (body : ∀ (cdv : Value) (A : Around) (outer : List Env) (s : Shared) (H Hs : Hp) (Q : VK) (E : XK) (F0 : Hp) (p : Addr) (ds : List D), ds.length = ms.length → Room k (A.deeper (envOfC qual scope s.heap.objs.size a cdv)) →
      (Pt.mk ca (cxOf (L2N.CX P w) P w K mg base N qual scope a cdv A outer s H E) (fun c d _ H' => E c d H') F0 Hs [some (.p (.ref p))] (f ds) (fun _ => R.er noExc) .v Q).Good →
      SSs (Pt.mk ca (cxOf (L2N.CX P w) P w K mg base N qual scope a cdv A outer s H E) (fun c d _ H' => E c d H') F0 Hs [some (.p (.ref p))] (f ds) (fun _ => R.er noExc) .v Q) jInit jNo jNo (some (.o (.ins c [] [])) :: argEnv ms ds (N.length - 1)) bd (f ds)) :
    FnOk P w K mg base (L2N.CX P w) (k + 1) a fd ps (spI K ca c ms f) := by
  have lenA : ∀ {F H : Hp} {ms : List Md} {vs : List V} {ds : List D}, ARs K ca F H ms vs ds → ms.length = vs.length := fun q => by
    induction q with
    | nil => rfl
    | consR _ _ ih => rw [List.length_cons, List.length_cons, ih]
    | consV _ _ ih => rw [List.length_cons, List.length_cons, ih]
  refine F.ok S (fun vs H Q E h => ?_) (fun cdv A outer s H vs Q E hr h => ?_)
  · obtain ⟨F0, Hs, p, dx, us, ds, rfl, _, _, _, _, q, _, _⟩ := h
    rw [List.length_cons, ← lenA q, hm]
  · obtain ⟨F0, Hs, p, dx, us, ds, rfl, le, le2, hp0, hp1, q, hsk, hp⟩ := h
    refine ⟨_, pss_W, ?_⟩
    have hdl : ds.length = ms.length := by rw [lenA q, q.length]
    have G : (Pt.mk ca (cxOf (L2N.CX P w) P w K mg base N qual scope a cdv A outer s H E) (fun c d _ H' => E c d H') F0 Hs [some (.p (.ref p))] (f ds) (fun _ => R.er noExc) .v Q).Good := by
      refine ⟨S.nd, rfl, passes_of rfl, fun d' v F1 H1 e g r => ?_, fun z F1 H1 σ e g _ => ?_, fun e => ?_, (fun d e => nomatch e), hsk⟩
      · have e' : f ds = .er noExc := e
        rw [e'] at hp; exact absurd rfl hp.1
      · have e' : f ds = .er z := e
        rw [e'] at hp; exact fun c d er => hp.2 F1 H1 g c d er
      · have e' : f ds = .bad := e
        rw [e'] at hp; exact hp
    have hN1 : us.length ≤ N.length - 1 := by rw [← lenA q]; omega
    have hN2 : 1 ≤ N.length := by omega
    have e0 := en_start (N := N.tail) q (by rw [List.length_tail]; exact hN1) hsk
    rw [List.length_tail] at e0
    have hst : L2.start N (V.ref p :: us) = some (.ref p) :: L2.start N.tail us := by
      unfold L2.start
      rw [List.length_tail, List.map_cons, List.cons_append]
      congr 3
      simp only [List.length_cons]; omega
    refine body cdv A outer s H Hs Q E F0 p ds hdl hr G _ rfl ?_ (fun _ _ z => z.elim) (fun _ _ z => z.elim) _ _ ⟨F0, ⟨Le.refl _, le2, le.trans le2, fun _ _ _ n => n⟩, ?_, ⟨.inl (by simp), fun i s h => ?_⟩, rfl⟩
    · rintro e' r' ⟨d, hd0, rfl⟩ σ H1 ⟨F1, a1⟩
      obtain ⟨v, h1, p', e1, n1, f1, o1⟩ := a1.en.at_ 0 _ hd0
      obtain ⟨v2, h2, h3⟩ := a1.ho.2 0 _ rfl
      rw [h1] at h2
      cases h2
      have h3' : v = .ref p := h3
      rw [h3'] at e1
      cases e1
      have e' : f ds = .ok d := a1.eq.symm
      rw [e'] at hp
      exact hp F1 H1 a1.go f1 o1
    · rw [hst]
      refine ⟨le2, by rw [List.length_cons, List.length_cons, e0.len], fun i s hi => ?_, fun i j x y hi hj e => ?_, hsk⟩
      · cases i with
        | zero =>
          have : s = .o (.ins c [] []) := by simpa using hi.symm
          subst this
          exact ⟨.ref p, rfl, p, rfl, hp0, le.free hp0, .inr (.inr (.inl ⟨c, dx, [], [], [], rfl, hp1, rfl, .nil⟩))⟩
        | succ i =>
          obtain ⟨v, h1, h2⟩ := e0.at_ i s (by simpa using hi)
          refine ⟨v, by simpa using h1, ?_⟩
          obtain ⟨m, d, _, _, es⟩ := getElem_argEnv (show (argEnv ms ds (N.length - 1))[i]? = some (some s) by simpa using hi)
          cases s with
          | d x => exact h2
          | b x => exact h2
          | o x => cases m <;> cases es
          | p x => exact h2
          | e a dd x => exact h2
      · have no : ∀ (i : Nat) x, (argEnv ms ds (N.length - 1))[i]? ≠ some (some (Sl.o x)) := fun i x h => by
          obtain ⟨m, d, _, _, es⟩ := getElem_argEnv h
          cases m <;> cases es
        cases i with
        | zero =>
          cases j with
          | zero => rfl
          | succ j => exact absurd (by simpa using hj) (no j y)
        | succ i => exact absurd (by simpa using hi) (no i x)
    · cases i with
      | zero =>
        have : s = .p (.ref p) := by simpa using h.symm
        subst this
        refine ⟨.ref p, ?_, rfl⟩
        rw [hst]; rfl
      | succ i => simp at h
end Um

namespace Um
open L2 PySem PySem.Spec PyProof.Rows

theorem depth_ints : ∀ ns : List Int, PyData.depthAll (ns.map PyData.int) = 0
  | [] => by simp [PyData.depthAll]
  | n :: ns => by simp [PyData.depthAll, PyData.depth, depth_ints ns]
theorem alike_ints (ns : List Int) : PySem.W.AlikeAll (ns.map PyData.int) := by
  refine ⟨fun x hx y hy => ?_, fun x hx => ?_⟩
  · obtain ⟨a, _, rfl⟩ := List.mem_map.mp hx
    obtain ⟨b, _, rfl⟩ := List.mem_map.mp hy
    rfl
  · obtain ⟨a, _, rfl⟩ := List.mem_map.mp hx
    intro z; cases z
section
variable {prog : Program} {w : World} {A : Around} {E : Value → Shared → Prop} {s : Shared}
/-- what a tuple's items come to as a list -/
theorem collect_tup {t : Addr} {us : List Value} {Q : List Value → Shared → Prop} (ht : IsTup s.heap t us.toArray)
    (h : Q us { s with heap := (s.heap.push (seqObj "list" #[] 0)).update s.heap.objs.size (Obj.mapSeq (· ++ us.toArray)) }) (hz : us.length ≤ sizeLine) : wpAny (model prog w) A (collect (.ref t)) Q E s := by
  obtain ⟨ob, hob, hcl, n, hdt⟩ := ht
  unfold collect
  refine wpAny_bind (wpAny_runValue (codeAny_builtin PyProof.Rows.entry_proto_collect' (?_)))
  show wpAny _ _ (do again (.builtin "list.__iadd__" ⟨[← newList [], .ref t], []⟩)) _ _ s
  refine wpAny_bind (wpAny_newList (wpAny_pure ⟨Code.quiet_builtin _ (by decide +kernel), codeAny_builtin entry_list_iadd' (?_)⟩))
  show wpAny _ _ (Builtin.List.listExtendWith (.ref s.heap.objs.size) (.ref t) (.ref s.heap.objs.size)) _ _ { s with heap := s.heap.push (seqObj "list" #[] 0) }
  unfold Builtin.List.listExtendWith
  have hob' : (s.heap.push (seqObj "list" #[] 0)).get? t = some ob := Heap.get?_push_of_some _ hob
  refine wpAny_bind (wpAny_typeOf (T := "tuple") ⟨ob, hob', hcl⟩ (?_))
  have tt : (Value.type "tuple" == Value.type "tuple") = true := by rfl
  rw [if_pos (by rw [tt]; simp)]
  refine wpAny_bind (listItems_at hob' hdt (?_))
  refine wpAny_bind (listItems_at (xs := #[]) (n := 0) (Heap.get?_push_size _ rfl) rfl (?_))
  rw [if_neg (by simp)]
  refine wpAny_bind (listUpdate_at (xs := #[]) (n := 0) (Heap.get?_push_size _ rfl) rfl (?_) (Nat.zero_le _) (by simp only [Array.size_append, List.size_toArray, List.length_nil]; omega))
  refine wpAny_pure (?_)
  show wpAny (model prog w) A (do
      let o ← load s.heap.objs.size
      match o.data with
      | .seq xs _ => pure xs.toList
      | _ => unsupported "internal:collect") Q E { s with heap := (s.heap.push (seqObj "list" #[] 0)).update s.heap.objs.size (Obj.mapSeq (· ++ us.toArray)) }
  refine wpAny_bind (wpAny_load (get?_update_seq (Heap.get?_push_size _ rfl) _) (?_))
  have e : ((#[] : Array Value) ++ us.toArray).toList = us := by simp
  show wpAny _ _ (pure ((#[] : Array Value) ++ us.toArray).toList) Q E _
  rw [e]
  exact wpAny_pure h
/-- sorted(t), t a tuple of ints -/
theorem sorted_tupI {t : Addr} {us : List Value} {ns : List Int} {Q : Value → Shared → Prop} (ht : IsTup s.heap t us.toArray) (hI : IntsAre us ns) (hz : us.length ≤ sizeLine)
    (h : ∀ out : List Value, SrtO.Srtd SrtO.ltIv out → SrtO.Stb SrtO.ltIv out us → Q (.ref (s.heap.objs.size + 1)) { s with heap := sortedAll s.heap us out.toArray }) :
    wpAny (model prog w) A (call (.builtin "sorted") [.ref t]) Q E s := by
  refine Calls.call_function_entry kind_sorted plain_sorted entry_sorted (args_sorted1 _) (?_)
  unfold Builtin.«sorted»
  refine wpAny_bind (m := checkCount "sorted" 1 1 _) (wpAny_pure (?_))
  refine wpAny_bind (collect_tup ht (?_) hz)
  refine wpAny_bind (wpAny_newList (?_) hz)
  generalize hG : (s.heap.push (seqObj "list" #[] 0)).update s.heap.objs.size (Obj.mapSeq (· ++ us.toArray)) = G
  have hGz : G.objs.size = s.heap.objs.size + 1 := by
    rw [← hG, Heap.size_update, size_push']
  have hG2 : (G.push (seqObj "list" us.toArray 0)).get? (s.heap.objs.size + 1) = some (seqObj "list" us.toArray 0) := by
    rw [← hGz]; exact Heap.get?_push_size _ rfl
  show wpAny _ _ _ _ _ { s with heap := G.push (seqObj "list" us.toArray 0) }
  rw [hGz]
  refine wpAny_bind (wpAny_holding (wpAny_call_entry slot_list_sort ⟨_, hG2, rfl⟩ entry_list_sort (SrtO.list_sort_ord SrtO.swo_int hG2 hz (fun h2 => SrtO.ints_sortable hI h2) fun out hs hb => ⟨_, rfl, (?_)⟩) (args_list_sort _)))
  refine wpAny_pure ⟨_, rfl, ?_⟩
  have := h out hs hb
  unfold sortedAll at this
  rw [hG] at this
  exact this
theorem max_tupI {t : Addr} {us : List Value} {n : Int} {ns : List Int} {Q : Value → Shared → Prop} (hh : A.handled = none) (hu : A.units + 64 < cLine) (ht : IsTup s.heap t us.toArray) (hI : IntsAre us (n :: ns))
    (h : ∀ h' tk t', (∀ b o, s.heap.get? b = some o → h'.get? b = some o) → Q (.int (ns.foldl max n) t') { s with heap := h', toks := tk }) : wpAny (model prog w) A (call (.builtin "max") [.ref t]) Q E s := by
  obtain ⟨ob, hob, hcl, m, hdt⟩ := ht
  have rd : ReadsAll s.heap us.toArray.toList (PyData.int n :: ns.map PyData.int) [] := by simpa using hI.reads s.heap
  have dz : PyData.depthAll (PyData.int n :: ns.map PyData.int) = 0 := depth_ints (n :: ns)
  refine PySem.W.max_tuple_data hh ⟨ob, hob, hcl, m, hdt⟩ rd (alike_ints (n :: ns)) (by rw [dz]; omega) fun i v h' tk bs hv r kp => ?_
  rw [PySem.W.maxD_ints] at r
  cases r
  exact h h' tk _ kp
theorem min_tupI {t : Addr} {us : List Value} {n : Int} {ns : List Int} {Q : Value → Shared → Prop} (hh : A.handled = none) (hu : A.units + 64 < cLine) (ht : IsTup s.heap t us.toArray) (hI : IntsAre us (n :: ns))
    (h : ∀ h' tk t', (∀ b o, s.heap.get? b = some o → h'.get? b = some o) → Q (.int (ns.foldl min n) t') { s with heap := h', toks := tk }) : wpAny (model prog w) A (call (.builtin "min") [.ref t]) Q E s := by
  obtain ⟨ob, hob, hcl, m, hdt⟩ := ht
  have rd : ReadsAll s.heap us.toArray.toList (PyData.int n :: ns.map PyData.int) [] := by simpa using hI.reads s.heap
  have dz : PyData.depthAll (PyData.int n :: ns.map PyData.int) = 0 := depth_ints (n :: ns)
  refine PySem.W.min_tuple_data hh ⟨ob, hob, hcl, m, hdt⟩ rd (alike_ints (n :: ns)) (by rw [dz]; omega) fun i v h' tk bs hv r kp => ?_
  rw [PySem.W.minD_ints] at r
  cases r
  exact h h' tk _ kp
theorem sum_tupI {t : Addr} {us : List Value} {ns : List Int} {Q : Value → Shared → Prop} (hh : A.handled = none) (ht : IsTup s.heap t us.toArray) (hI : IntsAre us ns)
    (h : ∀ h' tk t', (∀ b o, s.heap.get? b = some o → h'.get? b = some o) → Q (.int ns.sum t') { s with heap := h', toks := tk }) : wpAny (model prog w) A (call (.builtin "sum") [.ref t]) Q E s := by
  obtain ⟨xs, ex⟩ := hI.allInts.items
  have hn : numsOf us.toArray.toList = ns := by
    have e : us.toArray.toList = us := rfl
    rw [e]; exact hI.numsOf
  obtain ⟨ob, hob, hcl, m, hdt⟩ := ht
  rw [ex] at hdt hn
  rw [nums_intItems] at hn
  refine PySem.W.ktm_sumG hh ⟨ob, hob, hcl, m, hdt⟩ fun h' tk t' kp => ?_
  have := h h' tk t' kp
  rw [preSum_eq, List.take_of_length_le (by simp), hn]
  exact this
end
section
variable {ca : Ca} {X : Cx} {F H : Hp} {m : Md}
def dSum (d : D) : R D := match (itemsOf d).bind intsOf with
  | some ns => .ok (.int ns.sum)
  | none => .bad
def dMax (d : D) : R D := match (itemsOf d).bind intsOf with
  | some (n :: ns) => .ok (.int (ns.foldl max n))
  | _ => .bad
def dMin (d : D) : R D := match (itemsOf d).bind intsOf with
  | some (n :: ns) => .ok (.int (ns.foldl min n))
  | _ => .bad
def insI (i : Int) : List Int → List Int
  | [] => [i]
  | j :: js => if i ≤ j then i :: j :: js else j :: insI i js
def sortI : List Int → List Int
  | [] => []
  | i :: is => insI i (sortI is)
theorem insI_perm (i : Int) : ∀ js : List Int, (insI i js).Perm (i :: js)
  | [] => .refl _
  | j :: js => by
    unfold insI
    split
    · exact .refl _
    · exact ((insI_perm i js).cons j).trans (.swap i j js)
theorem sortI_perm : ∀ is : List Int, (sortI is).Perm is
  | [] => .refl _
  | i :: is => (insI_perm i _).trans ((sortI_perm is).cons i)
theorem insI_le {i : Int} : ∀ {js : List Int}, js.Pairwise (· ≤ ·) → (insI i js).Pairwise (· ≤ ·)
  | [], _ => by simp [insI]
  | j :: js, h => by
    unfold insI
    obtain ⟨h1, h2⟩ := List.pairwise_cons.mp h
    split
    · rename_i hij
      refine List.pairwise_cons.mpr ⟨fun a ha => ?_, h⟩
      rcases List.mem_cons.mp ha with e | ha
      · omega
      · have := h1 a ha; omega
    · rename_i hij
      refine List.pairwise_cons.mpr ⟨fun a ha => ?_, insI_le h2⟩
      rcases List.mem_cons.mp ((insI_perm i js).mem_iff.mp ha) with e | ha
      · omega
      · exact h1 a ha
theorem sortI_le : ∀ is : List Int, (sortI is).Pairwise (· ≤ ·)
  | [] => .nil
  | i :: is => insI_le (sortI_le is)
theorem sortI_unique {a b : List Int} (p : a.Perm b) (h : a.Pairwise (· ≤ ·)) : a = sortI b := by
  refine List.Perm.eq_of_pairwise (fun x y _ _ h1 h2 => by omega) h (sortI_le b) (p.trans (sortI_perm b).symm)
def dSorted (d : D) : R D := match (itemsOf d).bind intsOf with
  | some ns => .ok (.lst ((sortI ns).map D.int))
  | none => .bad
theorem max_unique {n : Int} {ns : List Int} {m : Int} (h1 : m ∈ n :: ns) (h2 : ∀ y, y ∈ n :: ns → y ≤ m) : m = ns.foldl max n := by
  have key : ∀ (ns : List Int) (n : Int), (ns.foldl max n ∈ n :: ns) ∧ ∀ y ∈ n :: ns, y ≤ ns.foldl max n := by
    intro ns
    induction ns with
    | nil => intro n; simp
    | cons k ns ih =>
      intro n
      obtain ⟨i1, i2⟩ := ih (max n k)
      rw [List.foldl_cons]
      refine ⟨?_, fun y hy => ?_⟩
      · rcases List.mem_cons.mp i1 with e | e
        · rw [e]
          by_cases c : n ≤ k
          · rw [Int.max_eq_right c]; simp
          · rw [Int.max_eq_left (by omega)]; simp
        · simp [e]
      · have i3 := i2 (max n k) List.mem_cons_self
        rcases List.mem_cons.mp hy with e | hy
        · omega
        · rcases List.mem_cons.mp hy with e | hy
          · omega
          · exact i2 y (List.mem_cons_of_mem _ hy)
  obtain ⟨k1, k2⟩ := key ns n
  have a := h2 _ k1
  have b := k2 _ h1
  omega
theorem min_unique {n : Int} {ns : List Int} {m : Int} (h1 : m ∈ n :: ns) (h2 : ∀ y, y ∈ n :: ns → m ≤ y) : m = ns.foldl min n := by
  have key : ∀ (ns : List Int) (n : Int), (ns.foldl min n ∈ n :: ns) ∧ ∀ y ∈ n :: ns, ns.foldl min n ≤ y := by
    intro ns
    induction ns with
    | nil => intro n; simp
    | cons k ns ih =>
      intro n
      obtain ⟨i1, i2⟩ := ih (min n k)
      rw [List.foldl_cons]
      refine ⟨?_, fun y hy => ?_⟩
      · rcases List.mem_cons.mp i1 with e | e
        · rw [e]
          by_cases c : n ≤ k
          · rw [Int.min_eq_left c]; simp
          · rw [Int.min_eq_right (by omega)]; simp
        · simp [e]
      · have i3 := i2 (min n k) List.mem_cons_self
        rcases List.mem_cons.mp hy with e | hy
        · omega
        · rcases List.mem_cons.mp hy with e | hy
          · omega
          · exact i2 y (List.mem_cons_of_mem _ hy)
  obtain ⟨k1, k2⟩ := key ns n
  have a := h2 _ k1
  have b := k2 _ h1
  omega
/-- max, min, sum, sorted of a tuple of ints -/
theorem cr_maxT (hc : X.calm = true) (hu : X.A.units + 64 < cLine) : CallR X (.builtin "max") (fun vs H Q => ∃ (a : Addr) (n : Int) (ns : List Int), vs = [V.ref a] ∧ SqT X.K H a ((n :: ns).map V.int) ∧ Q (.int (ns.foldl max n)) H) := by
  rintro pins s σ H vs us Q I r ⟨a, n, ns, rfl, hs, q⟩
  obtain ⟨its, rv, hl, _⟩ := I.tuple hs
  rw [Vals.ref1 r]
  exact max_tupI (I.ok.hd hc) hu hl rv.ints fun h' tk t' hk => ⟨.int _, H, I.kept hk, ⟨_, rfl⟩, q⟩
theorem cr_minT (hc : X.calm = true) (hu : X.A.units + 64 < cLine) : CallR X (.builtin "min") (fun vs H Q => ∃ (a : Addr) (n : Int) (ns : List Int), vs = [V.ref a] ∧ SqT X.K H a ((n :: ns).map V.int) ∧ Q (.int (ns.foldl min n)) H) := by
  rintro pins s σ H vs us Q I r ⟨a, n, ns, rfl, hs, q⟩
  obtain ⟨its, rv, hl, _⟩ := I.tuple hs
  rw [Vals.ref1 r]
  exact min_tupI (I.ok.hd hc) hu hl rv.ints fun h' tk t' hk => ⟨.int _, H, I.kept hk, ⟨_, rfl⟩, q⟩
theorem cr_sumT (hc : X.calm = true) : CallR X (.builtin "sum") (fun vs H Q => ∃ (a : Addr) (ns : List Int), vs = [V.ref a] ∧ SqT X.K H a (ns.map V.int) ∧ Q (.int ns.sum) H) := by
  rintro pins s σ H vs us Q I r ⟨a, ns, rfl, hs, q⟩
  obtain ⟨its, rv, hl, _⟩ := I.tuple hs
  rw [Vals.ref1 r]
  exact sum_tupI (I.ok.hd hc) hl rv.ints fun h' tk t' hk => ⟨.int _, H, I.kept hk, ⟨_, rfl⟩, q⟩
theorem cr_sortedTI : CallR X (.builtin "sorted") (fun vs H Q => ∃ (a : Addr) (ns : List Int), vs = [V.ref a] ∧ SqT X.K H a (ns.map V.int) ∧
    ∀ (ns' : List Int) (p : Addr), ns'.Perm ns → ns'.Pairwise (· ≤ ·) → H p = none → Q (.ref p) (upd H p (.lst (ns'.map V.int)))) := by
  rintro pins s σ H vs us Q I r ⟨a, ns, rfl, hs, q⟩
  obtain ⟨its, rv, hl, hz⟩ := I.tuple hs
  rw [Vals.ref1 r]
  have hi := rv.ints
  refine sorted_tupI hl hi (by rw [← rv.length]; exact hz) fun out h1 h2 => ?_
  obtain ⟨k1, k2, k3⟩ := SrtO.ints_out hi h1 h2
  obtain ⟨ep, he'⟩ := PyProof.Rows.sortedAll_at s.heap its out.toArray
  have hlen : ((out.map SrtO.iv).map V.int).length ≤ sizeLine := by
    rw [List.length_map, k2.length_eq]
    rwa [List.length_map] at hz
  refine ⟨.ref _, upd H (s.heap.objs.size + 1) (.lst ((out.map SrtO.iv).map V.int)), ?_, rfl, q _ _ k2 k3 (I.hok.fresh (Nat.le_succ _))⟩
  exact I.laid (t' := s.toks) (fun _ _ => PyProof.Rows.sortedAll_old) (Nat.le_succ _) ⟨hlen, out, ep, vals_of_ints k1, he'⟩
theorem cv_sum (hc : X.calm = true) : CV ca X [.r] .v (.builtin "sum") (fn1 dSum) := cv1 fun E F H v d Q le q hp => by
  unfold dSum at hp
  split at hp
  · rename_i ns hn
    obtain ⟨xs, e1, e2⟩ := Option.bind_eq_some_iff.mp hn
    obtain ⟨p, vs, rfl, h1, r⟩ := ar_items le q e1
    rw [intsOf_eq e2] at r
    rw [r.ints_inv] at h1
    rcases h1 with h1 | h1
    · exact ⟨_, cr_sum hc, p, ns, rfl, h1, hp _ F H (Go.refl le) (.int _)⟩
    · exact ⟨_, cr_sumT hc, p, ns, rfl, h1, hp _ F H (Go.refl le) (.int _)⟩
  · exact hp.elim
theorem cv_max (hc : X.calm = true) (hu : X.A.units + 64 < cLine) : CV ca X [.r] .v (.builtin "max") (fn1 dMax) := cv1 fun E F H v d Q le q hp => by
  unfold dMax at hp
  split at hp
  · rename_i n ns hn
    obtain ⟨xs, e1, e2⟩ := Option.bind_eq_some_iff.mp hn
    obtain ⟨p, vs, rfl, h1, r⟩ := ar_items le q e1
    rw [intsOf_eq e2] at r
    rw [r.ints_inv] at h1
    rcases h1 with h1 | h1
    · exact ⟨_, cr_max hc, p, n :: ns, rfl, h1, Nat.succ_pos _, fun m m1 m2 => by rw [max_unique m1 m2]; exact hp _ F H (Go.refl le) (.int _)⟩
    · exact ⟨_, cr_maxT hc hu, p, n, ns, rfl, h1, hp _ F H (Go.refl le) (.int _)⟩
  · exact hp.elim
theorem cv_min (hc : X.calm = true) (hu : X.A.units + 64 < cLine) : CV ca X [.r] .v (.builtin "min") (fn1 dMin) := cv1 fun E F H v d Q le q hp => by
  unfold dMin at hp
  split at hp
  · rename_i n ns hn
    obtain ⟨xs, e1, e2⟩ := Option.bind_eq_some_iff.mp hn
    obtain ⟨p, vs, rfl, h1, r⟩ := ar_items le q e1
    rw [intsOf_eq e2] at r
    rw [r.ints_inv] at h1
    rcases h1 with h1 | h1
    · exact ⟨_, cr_min hc, p, n :: ns, rfl, h1, Nat.succ_pos _, fun m m1 m2 => by rw [min_unique m1 m2]; exact hp _ F H (Go.refl le) (.int _)⟩
    · exact ⟨_, cr_minT hc hu, p, n, ns, rfl, h1, hp _ F H (Go.refl le) (.int _)⟩
  · exact hp.elim
theorem cv_sorted : CV ca X [.r] .o (.builtin "sorted") (fn1 dSorted) := cv1 fun E F H v d Q le q hp => by
  unfold dSorted at hp
  split at hp
  · rename_i ns hn
    obtain ⟨xs, e1, e2⟩ := Option.bind_eq_some_iff.mp hn
    obtain ⟨p, vs, rfl, h1, r⟩ := ar_items le q e1
    rw [intsOf_eq e2] at r
    rw [r.ints_inv] at h1
    have fin : ∀ (ns' : List Int) (p' : Addr), ns'.Perm ns → ns'.Pairwise (· ≤ ·) → H p' = none → Q (.ref p') (upd H p' (.lst (ns'.map V.int))) := fun ns' p' pm pw hn' => by
      rw [sortI_unique pm pw]
      exact hp _ F _ (Go.hid le hn' _) ⟨p', rfl, hn', le.free hn', .inl ⟨_, _, rfl, upd_same, Reps.ints _⟩⟩
    rcases h1 with h1 | h1
    · exact ⟨_, cr_sortedI, p, ns, rfl, h1, fin⟩
    · exact ⟨_, cr_sortedTI, p, ns, rfl, h1, fin⟩
  · exact hp.elim
end
end Um

namespace Um
open L2 PySem PySem.Spec PyProof.Rows

def KTup (K : PySem.W.Frag) (p : Addr) (vs : List V) : Prop := ∃ (o : Obj) (its : Array Value) (n : Nat), K.lookup p = some o ∧ o.cls = .type "tuple" ∧ o.dict = none ∧ o.data = .seq its n ∧ its.size ≤ sizeLine ∧ Vals vs its.toList
theorem glb_tup {K : PySem.W.Frag} {ca : Ca} {F : Hp} {p : Addr} {vs : List V} {ds : List D} (h2 : ca tmK ≠ 2) (h : KTup K p vs) (r : Reps K ca F vs ds) : Rep K ca F (.ref p) (.tup ds) :=
  let ⟨o, its, n, hk, hc, hd, hs⟩ := h
  .tup ⟨.inr ⟨o, its, n, hk, hc, hs⟩, fun _ => ⟨o, .inr hk, hc, hd⟩, fun z => absurd z h2⟩ r
theorem vals_app : ∀ {vs ws : List V} {us zs : List Value}, Vals vs us → Vals ws zs → Vals (vs ++ ws) (us ++ zs)
  | [], _, _, _, .nil, q => q
  | _ :: _, _, _, _, .cons h r, q => .cons h (vals_app r q)
theorem ars_app {K : PySem.W.Frag} {ca : Ca} {F H : Hp} {ms ns : List Md} {vs ws : List V} {ds es : List D} (h : ARs K ca F H ms vs ds) (q : ARs K ca F H ns ws es) : ARs K ca F H (ms ++ ns) (vs ++ ws) (ds ++ es) := by
  induction h with
  | nil => exact q
  | consR h _ ih => exact .consR h ih
  | consV h _ ih => exact .consV h ih
/-- the law's promise -/
def spLaw (K : PySem.W.Frag) (f : D → R D) : Sp := fun vs H Q _ => ∃ (a : Addr) (ns : List Int), vs = [.ref a] ∧ L2.SqL K H a (ns.map V.int) ∧ f (.scr (ns.map D.int)) = .ok (.bl true) ∧ ∀ H', Q (.bl true) H'
theorem spLaw_of {K : PySem.W.Frag} {ca : Ca} (h0 : ca.s = []) {f : D → R D} {vs : List V} {H : Hp} {Q : VK} {E : XK} (h : spLaw K f vs H Q E) : spOf K ca [.r] .v (fn1 f) vs H Q E := by
  obtain ⟨a, ns, rfl, hS, hf, hq⟩ := h
  refine ⟨H, [.scr (ns.map D.int)], Le.refl H, .consR (.inl (.scr hS (Reps.ints ns))) .nil, StK.of0 h0, ?_⟩
  show Post K ca .v _ H H (f (.scr (ns.map D.int))) _
  rw [hf]
  intro v F' H' _ r
  cases r
  exact hq H'
section
variable {ca : Ca} {X : Cx} {W : WX} {H0 F H : Hp} {env : En}
def dRngL1 : D → R D
  | .int n => if 0 ≤ n ∧ n ≤ 16777216 then .ok (.lst (rngD 0 1 n.toNat)) else .bad
  | _ => .bad
theorem reps_rg {K : PySem.W.Frag} (a b : Int) : Reps K ca F (rgV a b) (rngD a 1 (b - a).toNat) := by
  unfold rgV rngD
  induction List.range (b - a).toNat with
  | nil => exact .nil
  | cons i is ih =>
    simp only [List.map_cons]
    refine .cons ?_ ih
    rw [Int.mul_one]
    exact .int _
/-- list(range(e)) -/
theorem se_listRg1 {a : Expr} {ra : R D} {p p' pos pos' : Pos} (hc : X.calm = true) (h : SE ca X W H0 .r env a ra) (hm : X.mg "range" = none) (hml : X.mg "list" = none) (hg : Gl X "range" := by rfl) (hgl : Gl X "list" := by rfl)
    (na : starEach [a] X.env = (false, eval a X.env) :: starEach [] X.env := by rfl) (nb : starEach [.Call (.Name "range" p) [a] [] pos] X.env = (false, eval (.Call (.Name "range" p) [a] [] pos) X.env) :: starEach [] X.env := by rfl) :
    SE ca X W H0 .o env (.Call (.Name "list" p') [.Call (.Name "range" p) [a] [] pos] [] pos') (ra.bind dRngL1) := fun F H σ Q le ok hp => by
  refine ⟨_, pe_listRg hc hgl hml (prg_1 hg hm pe_W na) nb, ?_⟩
  refine h.then le ok hp fun d v F1 H1 _ g q _ hp1 => ?_
  cases d with
  | int n =>
    unfold dRngL1 at hp1
    dsimp only at hp1
    split at hp1
    · rename_i hn
      refine ⟨n, ar_int q, RgOk.of_le (by omega) (by omega) (by omega) (by omega), fun q' hq' => ?_⟩
      refine hp1 _ F1 _ (Go.hid g.fh hq' _) ⟨q', rfl, hq', g.fh.free hq', .inl ⟨_, _, rfl, upd_same, ?_⟩⟩
      have := reps_rg (K := X.K) (ca := ca) (F := F1) 0 n
      rwa [Int.sub_zero] at this
    · exact hp1.elim
  | _ => exact hp1.elim
end
end Um

namespace Um
open L2 PySem PySem.Spec PyProof.Rows

section
variable {prog : Program} {w : World} {A : Around} {E : Value → Shared → Prop} {s : Shared}
theorem sorted_tup_vals {κ : PyProof.Rows.KeyKind} {t : Addr} {us : List Value} {Q : Value → Shared → Prop} (ht : IsTup s.heap t us.toArray) (S : PySem.W.SortsAt prog w A.in1.in1 { s with heap := PySem.W.sortingHeap (PySem.W.copyHeap s.heap us) (s.heap.objs.size + 1) us } κ us) (hz : us.length ≤ sizeLine)
    (h : Q (.ref (s.heap.objs.size + 1)) { s with heap := sortedAll s.heap us (PySem.W.sortVals κ false us us).toArray }) :
    wpAny (model prog w) A (call (.builtin "sorted") [.ref t]) Q E s := by
  refine Calls.call_function_entry kind_sorted plain_sorted entry_sorted (args_sorted1 _) (?_)
  unfold Builtin.«sorted»
  refine wpAny_bind (m := checkCount "sorted" 1 1 _) (wpAny_pure (?_))
  refine wpAny_bind (collect_tup ht (?_) hz)
  refine wpAny_bind (wpAny_newList (?_) hz)
  have hsz : ((s.heap.push (seqObj "list" #[] 0)).update s.heap.objs.size (Obj.mapSeq (· ++ us.toArray))).objs.size = s.heap.objs.size + 1 := by
    rw [Heap.size_update, size_push']
  show wpAny _ _ _ _ _ { s with heap := PySem.W.copyHeap s.heap us }
  rw [hsz]
  refine wpAny_bind (wpAny_holding (wpAny_call_entry slot_list_sort ⟨_, PySem.W.copyHeap_at s.heap us, rfl⟩ entry_list_sort (PySem.W.list_sort_vals (s := { s with heap := PySem.W.copyHeap s.heap us }) (PySem.W.copyHeap_at s.heap us) S hz ⟨_, rfl, ?_⟩) (args_list_sort _)))
  exact wpAny_pure ⟨_, rfl, h⟩
end
/-- things with what they read as, sorted -/
def sortVP {α : Type} (rev : Bool) (l : List (α × PyData)) : List (α × PyData) := l.mergeSort (PySem.W.sortLe (listOrd itemOrd) rev fun b => PySem.W.keyToks b.2)
section
variable {ca : Ca} {X : Cx} {F H : Hp} {m : Md}
theorem vals_each {vs : List V} {us : List Value} (r : Vals vs us) {ps : List PyData} (hl : vs.length = ps.length) : PySem.W.EachIs (fun (u : Value) (b : V × PyData) => RelV b.1 u) us (vs.zip ps) := by
  induction r generalizing ps with
  | nil =>
    cases ps with
    | nil => exact .nil
    | cons p ps => exact absurd hl (by simp)
  | cons h r ih =>
    cases ps with
    | nil => exact absurd hl (by simp)
    | cons p ps => exact .cons h (ih (by simpa using hl))
theorem each_vals {us : List Value} {l : List (V × PyData)} (h : PySem.W.EachIs (fun (u : Value) (b : V × PyData) => RelV b.1 u) us l) : Vals (l.map (·.1)) us := by
  induction h with
  | nil => exact .nil
  | cons h _ ih => exact .cons h ih
theorem reads_each {h : Heap} {us : List Value} {ps : List PyData} {as : List Addr} (r : ReadsAll h us ps as) : PySem.W.EachIs (fun u d => ∃ as, Reads h u d as) us ps := by
  induction ps generalizing us as with
  | nil => cases r; exact .nil
  | cons p ps ih => cases r with | cons h r => exact .cons ⟨_, h⟩ (ih r)
theorem each_zip {R : Value → PyData → Prop} {us : List Value} {ps : List PyData} (h : PySem.W.EachIs R us ps) {vs : List V} (hl : vs.length = ps.length) : PySem.W.EachIs (fun u (b : V × PyData) => R u b.2) us (vs.zip ps) := by
  induction h generalizing vs with
  | nil =>
    cases vs with
    | nil => exact .nil
    | cons p ps => exact absurd hl (by simp)
  | cons h r ih =>
    cases vs with
    | nil => exact absurd hl (by simp)
    | cons p ps => exact .cons h (ih (by simpa using hl))
theorem each_in {α β : Type} {R : α → β → Prop} {us : List α} {ps : List β} (h : PySem.W.EachIs R us ps) : PySem.W.EachIs (fun u d => R u d ∧ d ∈ ps) us ps := PySem.W.each_mem h
def shallow (ps : List PyData) : Bool := ps.all fun d => decide (d.depth ≤ 40)
theorem cr_sortedD (hu : X.A.units + 64 < cLine) : CallR X (.builtin "sorted") (fun vs H Q => ∃ (a : Addr) (xs : List V) (ps : List PyData), vs = [V.ref a] ∧ (SqL X.K H a xs ∨ SqT X.K H a xs) ∧ DpAll X.K H xs ps ∧ sortOk ps = true ∧ shallow ps = true ∧
    ∀ p : Addr, H p = none → Q (.ref p) (upd H p (.lst ((sortVP false (xs.zip ps)).map (·.1))))) := by
  rintro pins s σ H vs us Q I r ⟨a, xs, ps, rfl, hs, hd, ok, sh, q⟩
  have hdep : ∀ d, d ∈ ps → X.A.in1.in1.units + d.depth < cLine := fun d hm => by
    have h1 : d.depth ≤ 40 := of_decide_eq_true (List.all_eq_true.mp sh d hm)
    have h2 : X.A.in1.in1.units = X.A.units + 2 := rfl
    omega
  rw [Vals.ref1 r]
  have main : ∀ its : List Value, Vals xs its → xs.length ≤ sizeLine → ∃ κ, PySem.W.SortsAt X.prog X.w X.A.in1.in1 { s with heap := PySem.W.sortingHeap (PySem.W.copyHeap s.heap its) (s.heap.objs.size + 1) its } κ its ∧
      Vals ((sortVP false (xs.zip ps)).map (·.1)) (PySem.W.sortVals κ false its its) ∧ its.length ≤ sizeLine := fun its rv hz => by
    have hl := rv.length
    obtain ⟨as, ra⟩ := Dp.readsAll I ps xs its hd rv
    have hlp : xs.length = ps.length := by
      have := SeqAt.ReadsAll.length _ _ _ ra
      omega
    have e0 := reads_each ra
    have e1 : PySem.W.EachIs (fun u d => ∃ as, Reads (PySem.W.sortingHeap (PySem.W.copyHeap s.heap its) (s.heap.objs.size + 1) its) u d as) its ps := e0.mono fun u d ⟨as, r⟩ => ⟨as, Reads.keeps (fun b o => PySem.W.sorting_copy_old) r⟩
    have S := sortsAt (prog := X.prog) (w := X.w) (A := X.A.in1.in1) (s := { s with heap := PySem.W.sortingHeap (PySem.W.copyHeap s.heap its) (s.heap.objs.size + 1) its }) e1 ok hdep
    have hal : PySem.W.AllAlike ps := fun d hd d' hd' => by
      unfold sortOk at ok
      simp only [Bool.and_eq_true, List.all_eq_true] at ok
      exact ok.1 d hd d' hd'
    refine ⟨_, S, ?_, by omega⟩
    refine each_vals (PySem.W.sortVals_each (κ := PySem.W.dataKind _ ps) (rev := false) (fun b : V × PyData => PySem.W.keyToks b.2) (vals_each rv hlp) ?_)
    exact (each_zip (each_in e1) hlp).mono fun u b ⟨⟨as, r⟩, hm⟩ => PySem.W.dataKind_some hal hm r
  rcases hs with hs | hs
  · obtain ⟨its, rv, hl, hz⟩ := I.list hs
    obtain ⟨κ, S, hv, hz'⟩ := main its rv hz
    refine PySem.W.sorted_vals hl.isList S hz' ?_
    obtain ⟨ep, he'⟩ := PyProof.Rows.sortedAll_at s.heap its (PySem.W.sortVals κ false its its).toArray
    refine ⟨.ref _, upd H (s.heap.objs.size + 1) (.lst ((sortVP false (xs.zip ps)).map (·.1))), ?_, rfl, q _ (I.hok.fresh (Nat.le_succ _))⟩
    exact I.laid (t' := s.toks) (fun _ _ => PyProof.Rows.sortedAll_old) (Nat.le_succ _) ⟨by rw [hv.length, PySem.W.sortVals_length false rfl]; exact hz', _, ep, hv, he'⟩
  · obtain ⟨its, rv, hl, hz⟩ := I.tuple hs
    obtain ⟨κ, S, hv, hz'⟩ := main its rv hz
    refine sorted_tup_vals hl S hz' ?_
    obtain ⟨ep, he'⟩ := PyProof.Rows.sortedAll_at s.heap its (PySem.W.sortVals κ false its its).toArray
    refine ⟨.ref _, upd H (s.heap.objs.size + 1) (.lst ((sortVP false (xs.zip ps)).map (·.1))), ?_, rfl, q _ (I.hok.fresh (Nat.le_succ _))⟩
    exact I.laid (t' := s.toks) (fun _ _ => PyProof.Rows.sortedAll_old) (Nat.le_succ _) ⟨by rw [hv.length, PySem.W.sortVals_length false rfl]; exact hz', _, ep, hv, he'⟩
/-- sorted of ints, of rows, of texts -/
def dSortedG (d : D) : R D := match (itemsOf d).bind intsOf with
  | some ns => .ok (.lst ((sortI ns).map D.int))
  | none => match itemsOf d with
    | none => .bad
    | some xs => match toPys xs with
      | none => .bad
      | some ps => if sortOk ps = true ∧ shallow ps = true then .ok (.lst ((sortVP false (xs.zip ps)).map (·.1))) else .bad
theorem reps_sort {K : PySem.W.Frag} {vs : List V} {ds : List D} {ps : List PyData} (r : Reps K ca F vs ds) (hl : vs.length = ps.length) : Reps K ca F ((sortVP false (vs.zip ps)).map (·.1)) ((sortVP false (ds.zip ps)).map (·.1)) := by
  have key : ∀ {vs : List V} {ds : List D} {ps : List PyData}, Reps K ca F vs ds → vs.length = ps.length → PySem.W.EachIs (fun (a : V × PyData) (b : D × PyData) => Rep K ca F a.1 b.1 ∧ a.2 = b.2) (vs.zip ps) (ds.zip ps) := by
    intro vs ds ps r hl
    induction vs generalizing ds ps with
    | nil => cases r; cases ps <;> exact .nil
    | cons v vs ih =>
      cases r with
      | cons h r =>
        cases ps with
        | nil => exact absurd hl (by simp)
        | cons p ps => exact .cons ⟨h, rfl⟩ (ih r (by simpa using hl))
  have e := PySem.W.sort_each (r := PySem.W.sortLe (listOrd itemOrd) false fun b : V × PyData => PySem.W.keyToks b.2) (s := PySem.W.sortLe (listOrd itemOrd) false fun b : D × PyData => PySem.W.keyToks b.2) (key r hl) fun p hp q hq => by
    have h1 := ((key r hl).zip p hp).2
    have h2 := ((key r hl).zip q hq).2
    unfold PySem.W.sortLe
    dsimp only
    rw [h1, h2]
  have out : ∀ {as : List (V × PyData)} {bs : List (D × PyData)}, PySem.W.EachIs (fun (a : V × PyData) (b : D × PyData) => Rep K ca F a.1 b.1 ∧ a.2 = b.2) as bs → Reps K ca F (as.map (·.1)) (bs.map (·.1)) := by
    intro as bs h
    induction h with
    | nil => exact .nil
    | cons h _ ih => exact .cons h.1 ih
  exact out e
theorem toPys_len : ∀ {xs : List D} {ps : List PyData}, toPys xs = some ps → xs.length = ps.length
  | [], ps, h => by rw [toPys] at h; cases h; rfl
  | x :: xs, ps, h => by
    rw [toPys] at h
    obtain ⟨y, _, h⟩ := Option.bind_eq_some_iff.mp h
    obtain ⟨ys, hy, rfl⟩ := Option.map_eq_some_iff.mp h
    rw [List.length_cons, List.length_cons, toPys_len hy]
theorem cv_sortedG (hu : X.A.units + 64 < cLine) : CV ca X [.r] .o (.builtin "sorted") (fn1 dSortedG) := cv1 fun E F H v d Q le q hp => by
  unfold dSortedG at hp
  split at hp
  · rename_i ns hn
    have hd : dSorted d = .ok (.lst ((sortI ns).map D.int)) := by unfold dSorted; rw [hn]
    refine cv_sorted (ca := ca) E F H [v] [d] Q le (.consR q .nil) ?_
    show Post X.K ca .o E F H (dSorted d) Q
    rw [hd]; exact hp
  · rename_i hni
    split at hp
    · exact hp.elim
    · rename_i xs hxs
      split at hp
      · exact hp.elim
      · rename_i ps hps
        split at hp
        · rename_i hc
          obtain ⟨p, vs, rfl, h1, r⟩ := ar_items le q hxs
          refine ⟨_, cr_sortedD hu, p, vs, ps, rfl, h1, reps_dp le r hps, hc.1, hc.2, fun p' hn' => ?_⟩
          have hl : vs.length = ps.length := r.length.trans (toPys_len hps)
          exact hp _ F _ (Go.hid le hn' _) ⟨p', rfl, hn', le.free hn', .inl ⟨_, _, rfl, upd_same, reps_sort r hl⟩⟩
        · exact hp.elim
end
end Um

namespace Um
open L2 PySem PySem.Spec PyProof.Rows

/-! ## What is of one's own, read as data within an expression whose value is flat -/
section
variable {ca : Ca} {X : Cx} {W : WX} {H0 F H : Hp} {env : En} {a : Expr} {ra : R D} {ta : R Bool} {σ : L2.St}
theorem EnOk.lendAt {K : PySem.W.Frag} {i : Nat} {d : D} (le : Le F H) (en : EnOk K ca H0 F H σ env) (he : env[i]? = some (some (.o d))) : ∃ F2, Le F F2 ∧ Le F2 H ∧ EnOk K ca H0 F2 H σ (env.set i (some (.d d))) := by
  obtain ⟨v, h1, p, e, n, f, o⟩ := en.at_ i _ he
  subst e
  obtain ⟨u, hu⟩ := o.some
  have l2 : Le F (upd F p u) := Le.new f
  refine ⟨upd F p u, l2, fun b w hb => ?_, ⟨en.h0, by rw [List.length_set, en.len], fun j s hj => ?_, fun j k x y hj hk e => ?_, en.st.monoF l2⟩⟩
  · by_cases hbp : b = p
    · subst hbp; rw [upd_same] at hb; cases hb; exact hu
    · rw [upd_ne hbp] at hb; exact le b w hb
  · rcases set_some hj with ⟨rfl, e⟩ | ⟨ne, hj'⟩
    · cases e
      refine ⟨.ref p, h1, ?_⟩
      rcases o with ⟨vs, ds, e, h, r⟩ | ⟨kvs, ks, ds, e, h, q, r⟩ | ⟨c, dx, ns, fs, ds, e, h, q, r⟩ | ⟨xs4, ks4, ds4, e4, h4, n4, k4, r4⟩
      · rw [h] at hu; cases hu; subst e
        exact Rep.lst upd_same (r.mono l2)
      · rw [h] at hu; cases hu; subst e
        exact Rep.dic upd_same q (r.mono l2)
      · rw [h] at hu; cases hu; subst e
        exact Rep.ins upd_same q (r.mono l2)
      · rw [h4] at hu; cases hu; subst e4
        exact Rep.tdic upd_same n4 (fun x hx => l2.t (k4 x hx)) (r4.mono l2)
    · obtain ⟨w, h2, h3⟩ := en.at_ j s hj'
      refine ⟨w, h2, ?_⟩
      cases s with
      | d x => exact Rep.mono l2 h3
      | b x =>
        rcases h3 with h3 | ⟨q, e, h3⟩
        · exact .inl (h3.mono l2)
        · exact .inr ⟨q, e, h3.monoF l2⟩
      | o x =>
        obtain ⟨q, e, m1, m2, m3⟩ := h3
        have hqp : q ≠ p := fun z => ne (en.own i j d x he hj' (by rw [h1, h2, e, z]))
        exact ⟨q, e, m1, by rw [upd_ne hqp]; exact m2, m3.monoF l2⟩
      | p x => exact h3
      | e a dd x => exact ⟨h3.1, ExcRep.mono _ _ l2 h3.2⟩
  · rcases set_some hj with ⟨_, e1⟩ | ⟨n1, hj'⟩
    · cases e1
    · rcases set_some hk with ⟨_, e2⟩ | ⟨n2, hk'⟩
      · cases e2
      · exact en.own j k x y hj' hk' e
theorem go_lend {F2 F1 H1 : Hp} (le : Le F H) (l : Le F F2) (g : Go F2 H F1 H1) : Go F H F H1 := ⟨Le.refl F, g.h, (l.trans g.f).trans g.fh, fun _ _ _ h => h⟩
/-- a new list of ints -/
theorem se_lend {i : Nat} {d : D} (h : SE ca X W H0 .o (env.set i (some (.d d))) a ra) (he : env[i]? = some (some (.o d)) := by rfl) : SE ca X W H0 .o env a ((noEr ra).bind flat) := fun F H σ Q le en hp => by
  obtain ⟨F2, l1, l2, en2⟩ := en.lendAt le he
  refine h F2 H σ Q l2 en2 ?_
  cases ra with
  | er x => exact hp.elim
  | bad => exact hp
  | ok y =>
    intro v F1 H1 g q
    have hp' : Post X.K ca .o (ekOf X.K ca W σ) F H (flat y) Q := hp
    obtain ⟨q1, rfl, n1, n2, o⟩ := q
    unfold flat at hp'
    cases y with
    | lst xs =>
      dsimp only at hp'
      split at hp'
      · rename_i is hi
        rw [intsOf_eq hi] at o hp'
        refine hp' (.ref q1) F H1 (go_lend le l1 g) ⟨q1, rfl, n1, le.free n1, ?_⟩
        rcases o with ⟨vs, ds, e, h1, r⟩ | ⟨kvs, ks, ds, e, _⟩ | ⟨_, _, _, _, _, e, _⟩ | ⟨_, _, _, e, _⟩
        · cases e
          rw [r.ints_inv] at h1
          exact .inl ⟨_, _, rfl, h1, Reps.ints _⟩
        · cases e
        · cases e
        · cases e
      · exact hp'.elim
    | _ => exact hp'.elim
/-- a test -/
theorem st_lend {i : Nat} {d : D} (h : ST ca X W H0 (env.set i (some (.d d))) a ta) (he : env[i]? = some (some (.o d)) := by rfl) : ST ca X W H0 env a (noEr ta) := fun F H σ Q le en hp => by
  obtain ⟨F2, l1, l2, en2⟩ := en.lendAt le he
  refine h F2 H σ Q l2 en2 ?_
  cases ta with
  | er x => exact hp.elim
  | bad => exact hp
  | ok b => exact fun F1 H1 g => hp F H1 (go_lend le l1 g)
end
end Um

namespace Um
open L2 PySem PySem.Spec PyProof.Rows

section
variable {ca : Ca} {X : Cx} {F H : Hp} {m : Md}
theorem cv3 {f : Value} {g : D → D → D → R D} (h : ∀ (E : Ek) F H v w u d e k Q, Le F H → AR X.K ca F H v d → AR X.K ca F H w e → AR X.K ca F H u k → Post X.K ca m E F H (g d e k) Q → WCall X f [v, w, u] H Q) : CV ca X [.r, .r, .r] m f (fn3 g) := fun E F H vs ds Q le q hp => by
  cases q with
  | consR h1 h2 => cases h2 with | consR h3 h4 => cases h4 with | consR h5 h6 => cases h6; exact h E F H _ _ _ _ _ _ Q le h1 h3 h5 hp
def dMin3 : D → D → D → R D
  | .int a, .int b, .int c => .ok (.int (min (min a b) c))
  | _, _, _ => .bad
def dMax3 : D → D → D → R D
  | .int a, .int b, .int c => .ok (.int (max (max a b) c))
  | _, _, _ => .bad
def dIsN (x y : D) : R Bool := if dIsNone y = true then .ok (dIsNone x) else .bad
def dNotN (x y : D) : R Bool := if dIsNone y = true then .ok (!dIsNone x) else .bad
theorem ob_isN : OB ca X (compareOp .Is) dIsN := ob_isNone
theorem ob_notN : OB ca X (compareOp .IsNot) dNotN := ob_notNone
theorem nuLt_int (a b : Int) : nuLt (.int a) (.int b) = some (decide (a < b)) := rfl
theorem nuMin3_int (a b c : Int) : nuMin3 (.int a) (.int b) (.int c) = some (.int (min (min a b) c)) := by
  unfold nuMin3 nuMin2
  rw [nuLt_int]
  by_cases h : b < a
  · have e : min a b = b := by omega
    simp only [h, decide_true, Option.map_some, if_true, Option.bind_some, nuLt_int, e]
    by_cases h2 : c < b
    · have : min b c = c := by omega
      simp [h2, this]
    · have : min b c = b := by omega
      simp [h2, this]
  · have e : min a b = a := by omega
    simp only [h, decide_false, Option.map_some, Bool.false_eq_true, if_false, Option.bind_some, nuLt_int, e]
    by_cases h2 : c < a
    · have : min a c = c := by omega
      simp [h2, this]
    · have : min a c = a := by omega
      simp [h2, this]
theorem nuMax3_int (a b c : Int) : nuMax3 (.int a) (.int b) (.int c) = some (.int (max (max a b) c)) := by
  unfold nuMax3 nuMax2
  simp only [nuLt_int]
  by_cases h : a < b
  · have e : max a b = b := by omega
    simp only [h, decide_true, Option.map_some, if_true, Option.bind_some, nuLt_int, e]
    by_cases h2 : b < c
    · have : max b c = c := by omega
      simp [h2, this]
    · have : max b c = b := by omega
      simp [h2, this]
  · have e : max a b = a := by omega
    simp only [h, decide_false, Option.map_some, Bool.false_eq_true, if_false, Option.bind_some, nuLt_int, e]
    by_cases h2 : a < c
    · have : max a c = c := by omega
      simp [h2, this]
    · have : max a c = a := by omega
      simp [h2, this]
theorem cv_min3 (hc : X.calm = true) : CV ca X [.r, .r, .r] .v (.builtin "min") (fn3 dMin3) := cv3 fun E F H v w u d e k Q le q1 q2 q3 hp => by
  unfold dMin3 at hp
  split at hp
  · rw [ar_int q1, ar_int q2, ar_int q3]; exact ⟨_, call_min3Nu hc, _, _, _, _, rfl, nuMin3_int _ _ _, hp _ F H (Go.refl le) (.int _)⟩
  · exact hp.elim
theorem cv_max3 (hc : X.calm = true) : CV ca X [.r, .r, .r] .v (.builtin "max") (fn3 dMax3) := cv3 fun E F H v w u d e k Q le q1 q2 q3 hp => by
  unfold dMax3 at hp
  split at hp
  · rw [ar_int q1, ar_int q2, ar_int q3]; exact ⟨_, call_max3Nu hc, _, _, _, _, rfl, nuMax3_int _ _ _, hp _ F H (Go.refl le) (.int _)⟩
  · exact hp.elim
end
end Um

namespace Um
open L2 PySem PySem.Spec PyProof.Rows

/-! ## Calls by keywords, methods -/
section
variable {X : Cx} {CX : CXT} {k np : Nat} {f C : Addr} {fd : FuncData} {ps ks : List Str} {sp : Sp} {E : L2.St → XK} {x m : Str} {p pos apos : Pos} {e o : Expr} {es : List Expr} {kws : List Keyword} {ta : TE} {t tk : TA} {g : List Value → List Value → List Value} {gV : List V → List V → List V}
theorem run_fnKS {pins : List (Addr × Obj)} {σ : L2.St} {H : Hp} {s : Shared} {Q : VK} {us ws : List Value} {vs zs : List V} {E : XK} (F : FnOk X.prog X.w X.K X.mg X.base CX k f fd ps sp) (hr : Room k X.A) (hb : KBn X.K fd ps np ks g gV) (hx : PassesAt CX X σ E)
    (I : Inv X pins σ H s) (r : Vals vs us) (rz : Vals zs ws) (l1 : vs.length = np) (l2 : zs.length = ks.length) (h : sp (gV vs zs) H Q E) : wpAny (model X.prog X.w) X.A (call (.ref f) us (ks.zip ws)) (EP X pins σ Q) X.xe s := by
  have r2 := hb.rel r rz
  refine wpAny_call (codeAny_mono (F.run X.A X.stack s H ⟨us, ks.zip ws⟩ (g us ws) (gV vs zs) Q E hr I.env0 (hb.to s us ws I.kIn (r.length.symm.trans l1) (rz.length.symm.trans l2)) r2 h) fun r s' hq => ?_)
  cases r with
  | error e => exact hx pins H s e s' I hq
  | ok fl =>
    cases fl with
    | ret u => exact I.after hq
    | next => exact False.elim hq
    | brk => exact False.elim hq
    | cont => exact False.elim hq
def tCallKS (np nk : Nat) (sp : Sp) (gV : List V → List V → List V) (E : L2.St → XK) (t tk : TA) : TE := fun σ H Q => t σ H fun vs H1 => tk σ H1 fun zs H2 => vs.length = np ∧ zs.length = nk ∧ sp (gV vs zs) H2 Q (E σ)
/-- f(e, .., k = v, ..) -/
theorem pe_callKS (F : FnOk X.prog X.w X.K X.mg X.base CX k f fd ps sp) (hr : Room k X.A) (hg : Gl X x) (hm : X.mg x = some (.ref f)) (hk : PySem.W.keepIn X.K (.ref f) = true) (hb : KBn X.K fd ps np ks g gV) (hx : ∀ σ, PassesAt CX X σ (E σ))
    (ha : PA X (e :: es) t) (hkw : PK X kws tk) (hall : (backToKw pos (keywordEach kws X.env)).all (·.1.isSome) = true := by rfl) (hks : (backToKw pos (keywordEach kws X.env)).filterMap (·.1) = ks := by rfl)
    (hdb : (x == ("__debug__" : Str)) = false := by decide) (he : starEach (e :: es) X.env = (false, eval e X.env) :: starEach es X.env := by rfl)
    (hpl : ((backTo pos (starEach (e :: es) X.env)).any (·.1) || (backToKw pos (keywordEach kws X.env)).any (·.1.isNone)) = false := by rfl) :
    PE X (.Call (.Name x p) (e :: es) kws pos) (tCallKS np ks.length sp gV E t tk) := by
  refine ⟨fun pins s σ H Q I h => ?_⟩
  refine wpAny_Call_Name_kw (ld_glob I hg hm ?_ hdb)
  refine PySem.W.callWith_KW (h₀ := X.base) I.ok.mod.kin hk hall (thn (ha.run pos pins s σ H _ I h) fun us s1 ⟨vs, H1, I1, r, q⟩ => ?_) hpl he
  refine thn (hkw.run pos pins s1 σ H1 _ I1 q) fun ws s2 ⟨zs, H2, I2, rz, l1, l2, q2⟩ => ⟨I2.kIn, ?_⟩
  rw [hks]
  exact run_fnKS F hr hb (hx σ) I2 r rz l1 l2 q2
theorem pe_callKS0 (F : FnOk X.prog X.w X.K X.mg X.base CX k f fd ps sp) (hr : Room k X.A) (hg : Gl X x) (hm : X.mg x = some (.ref f)) (hk : PySem.W.keepIn X.K (.ref f) = true) (hb : KBn X.K fd ps np ks g gV) (hx : ∀ σ, PassesAt CX X σ (E σ))
    (hkw : PK X kws tk) (hall : (backToKw pos (keywordEach kws X.env)).all (·.1.isSome) = true := by rfl) (hks : (backToKw pos (keywordEach kws X.env)).filterMap (·.1) = ks := by rfl)
    (hdb : (x == ("__debug__" : Str)) = false := by decide)
    (hpl : ((backTo pos (starEach [] X.env)).any (·.1) || (backToKw pos (keywordEach kws X.env)).any (·.1.isNone)) = false := by rfl) :
    PE X (.Call (.Name x p) [] kws pos) (tCallKS np ks.length sp gV E tNil tk) := by
  refine ⟨fun pins s σ H Q I h => ?_⟩
  refine wpAny_Call_Name_kw (ld_glob I hg hm ?_ hdb)
  refine PySem.W.callWith_KW0 (h₀ := X.base) I.ok.mod.kin hk hall ?_ hpl
  refine thn (hkw.run pos pins s σ H _ I h) fun ws s2 ⟨zs, H2, I2, rz, l1, l2, q2⟩ => ⟨I2.kIn, ?_⟩
  rw [hks]
  exact run_fnKS (us := []) (vs := []) F hr hb (hx σ) I2 .nil rz l1 l2 q2
def tMethKS (C : Addr) (m : Str) (np nk : Nat) (sp : Sp) (gV : List V → List V → List V) (E : L2.St → XK) (ta : TE) (t tk : TA) : TE := fun σ H Q => ta σ H fun x H1 => ∃ a dx fs, x = .ref a ∧ H1 a = some (.ins C dx fs) ∧ fs.lookup m = none ∧ t σ H1 fun vs H2 => tk σ H2 fun zs H3 => (x :: vs).length = np ∧ zs.length = nk ∧ sp (gV (x :: vs) zs) H3 Q (E σ)
/-- o.m(e, .., k = v, ..) -/
theorem pe_methKS {pl : Sem Bool} (he : PE X o ta) (c : Cls X.K C) (hm : Meth X.K C m f) (F : FnOk X.prog X.w X.K X.mg X.base CX k f fd ps sp) (hr : Room k X.A) (hb : KBn X.K fd ps np ks g gV) (hx : ∀ σ, PassesAt CX X σ (E σ)) (ha : PA X (e :: es) t) (hkw : PK X kws tk)
    (hall : (backToKw pos (keywordEach kws X.env)).all (·.1.isSome) = true := by rfl) (hks : (backToKw pos (keywordEach kws X.env)).filterMap (·.1) = ks := by rfl)
    (hst : starEach (e :: es) X.env = (false, eval e X.env) :: starEach es X.env := by rfl) (hpl : ((backTo pos (starEach (e :: es) X.env)).any (·.1) || (backToKw pos (keywordEach kws X.env)).any (·.1.isNone)) = false := by rfl)
    (ht : eval (.Call (.Attribute o m apos) (e :: es) kws pos) X.env = (do
      let ov ← eval o X.env
      standAt apos.atName
      let (f, first) ← holding [ov] (getMethod ov m pl)
      callWith pos f first (backTo pos (starEach (e :: es) X.env)) (backToKw pos (keywordEach kws X.env))) := by rfl) :
    PE X (.Call (.Attribute o m apos) (e :: es) kws pos) (tMethKS C m np ks.length sp gV E ta t tk) := by
  refine ⟨fun pins s σ H Q I h => ?_⟩
  refine PySem.W.methodCall_KW (pl := pl) (thn (he.run pins s σ H _ I h) fun u s1 ⟨x, H1, I1, rx, a, dx, fs, ex, ea, l, q⟩ => ?_) ht
  subst ex
  obtain rfl : u = Value.ref a := rx
  refine getmeth_ok I1 ea c hm l ?_
  refine PySem.W.callWith_KW (first := [.ref a]) (h₀ := X.base) I.ok.mod.kin hm.kp hall (thn (ha.run pos pins s1 σ H1 _ I1 q) fun us s2 ⟨vs, H2, I2, r, q2⟩ => ?_) hpl hst
  refine thn (hkw.run pos pins s2 σ H2 _ I2 q2) fun ws s3 ⟨zs, H3, I3, rz, l1, l2, q3⟩ => ⟨I3.kIn, ?_⟩
  rw [hks]
  exact run_fnKS (us := .ref a :: us) (vs := .ref a :: vs) F hr hb (hx σ) I3 (.cons rfl r) rz l1 l2 q3
theorem pe_methKS0 {pl : Sem Bool} (he : PE X o ta) (c : Cls X.K C) (hm : Meth X.K C m f) (F : FnOk X.prog X.w X.K X.mg X.base CX k f fd ps sp) (hr : Room k X.A) (hb : KBn X.K fd ps np ks g gV) (hx : ∀ σ, PassesAt CX X σ (E σ)) (hkw : PK X kws tk)
    (hall : (backToKw pos (keywordEach kws X.env)).all (·.1.isSome) = true := by rfl) (hks : (backToKw pos (keywordEach kws X.env)).filterMap (·.1) = ks := by rfl)
    (hpl : ((backTo pos (starEach [] X.env)).any (·.1) || (backToKw pos (keywordEach kws X.env)).any (·.1.isNone)) = false := by rfl)
    (ht : eval (.Call (.Attribute o m apos) [] kws pos) X.env = (do
      let ov ← eval o X.env
      standAt apos.atName
      let (f, first) ← holding [ov] (getMethod ov m pl)
      callWith pos f first (backTo pos (starEach [] X.env)) (backToKw pos (keywordEach kws X.env))) := by rfl) :
    PE X (.Call (.Attribute o m apos) [] kws pos) (tMethKS C m np ks.length sp gV E ta tNil tk) := by
  refine ⟨fun pins s σ H Q I h => ?_⟩
  refine PySem.W.methodCall_KW (pl := pl) (thn (he.run pins s σ H _ I h) fun u s1 ⟨x, H1, I1, rx, a, dx, fs, ex, ea, l, q⟩ => ?_) ht
  subst ex
  obtain rfl : u = Value.ref a := rx
  refine getmeth_ok I1 ea c hm l ?_
  refine PySem.W.callWith_KW0 (first := [.ref a]) (h₀ := X.base) I.ok.mod.kin hm.kp hall ?_ hpl
  refine thn (hkw.run pos pins s1 σ H1 _ I1 q) fun ws s3 ⟨zs, H3, I3, rz, l1, l2, q3⟩ => ⟨I3.kIn, ?_⟩
  rw [hks]
  exact run_fnKS (us := [.ref a]) (vs := [.ref a]) F hr hb (hx σ) I3 (.cons rfl .nil) rz l1 l2 q3
end
/-- a way to call a def: np positional values, the keywords ks -/
structure KWay (P : Program) (w : World) (K : PySem.W.Frag) (mg : Str → Option Value) (base : Heap) (ca : Ca) (x : Str) (n : Nat) (ms : List Md) (m : Md) (f : List D → R D) (np : Nat) (ks : List Str) (pm km : List Md) (aD : List D → List D → List D) : Prop where
  ex : ∃ (a : Addr) (fd : FuncData) (ps : List Str) (gg : List Value → List Value → List Value) (aV : List V → List V → List V), FnOk P w K mg base (L2N.CX P w) n a fd ps (spOf K ca ms m f) ∧ mg x = some (.ref a) ∧ PySem.W.keepIn K (.ref a) = true ∧
    KBn K fd ps np ks gg aV ∧ Arr K ca pm km ms aV aD
/-- .. a method; np counts the instance -/
structure MWay (P : Program) (w : World) (K : PySem.W.Frag) (mg : Str → Option Value) (base : Heap) (ca : Ca) (c x : Str) (n : Nat) (ms : List Md) (m : Md) (f : List D → R D) (np : Nat) (ks : List Str) (pm km : List Md) (aD : List D → List D → List D) : Prop where
  ex : ∃ (a : Addr) (fd : FuncData) (ps : List Str) (gg : List Value → List Value → List Value) (aV : List V → List V → List V), FnOk P w K mg base (L2N.CX P w) n a fd ps (spOf K ca ms m f) ∧ Cls K (ca c) ∧ Meth K (ca c) x a ∧
    KBn K fd ps np ks gg aV ∧ Arr K ca pm km ms aV aD
/-- an instance of c without a field of that name -/
def isM (c m : Str) (d : D) : R D := match d with
  | .ins c' ns xs => if c' = c ∧ ns.contains m = false then .ok (.ins c' ns xs) else .bad
  | _ => .bad
theorem lookup_none {α : Type} {f : Str} : ∀ {fs : List (Str × α)}, (fs.map (·.1)).contains f = false → fs.lookup f = none
  | [], _ => rfl
  | (x, v) :: fs, h => by
    rw [List.map_cons, List.contains_cons, Bool.or_eq_false_iff] at h
    rw [List.lookup_cons, h.1]
    exact lookup_none h.2
section
variable {ca : Ca} {X : Cx} {W : WX} {H0 : Hp} {env : En} {n k np : Nat} {x c : Str} {ms pm km : List Md} {m : Md} {ks : List Str} {f : List D → R D} {aD : List D → List D → List D} {p pos apos : Pos} {e o : Expr} {es : List Expr} {kws : List Keyword} {ro : R D} {rs rk : R (List D)}
theorem ars_len {F H : Hp} {K : PySem.W.Frag} {ms : List Md} {vs : List V} {ds : List D} (q : ARs K ca F H ms vs ds) : ms.length = vs.length := by
  induction q with
  | nil => rfl
  | consR _ _ ih => rw [List.length_cons, List.length_cons, ih]
  | consV _ _ ih => rw [List.length_cons, List.length_cons, ih]
theorem se_callKW (Df : KWay X.prog X.w X.K X.mg X.base ca x n ms m f np ks pm km aD) (hr : Room k X.A) (tk : L2N.Takes X W) (ha : SA ca X W H0 pm env (e :: es) rs) (hk : SK ca X W H0 km env kws rk) (hl1 : pm.length = np := by rfl) (hl2 : km.length = ks.length := by rfl)
    (hnk : n ≤ k := by decide) (hg : Gl X x := by rfl) (hdb : (x == ("__debug__" : Str)) = false := by decide)
    (hall : (backToKw pos (keywordEach kws X.env)).all (·.1.isSome) = true := by rfl) (hks : (backToKw pos (keywordEach kws X.env)).filterMap (·.1) = ks := by rfl)
    (he : starEach (e :: es) X.env = (false, eval e X.env) :: starEach es X.env := by rfl) (hpl : ((backTo pos (starEach (e :: es) X.env)).any (·.1) || (backToKw pos (keywordEach kws X.env)).any (·.1.isNone)) = false := by rfl) :
    SE ca X W H0 m env (.Call (.Name x p) (e :: es) kws pos) (rs.bind fun ds => rk.bind fun zs => f (aD ds zs)) := fun F H σ Q le ok hp => by
  obtain ⟨a, fd, ps, gg, aV, G, gm, kp, b, hA⟩ := Df.ex
  refine ⟨_, pe_callKS G (hr.mono hnk) hg gm kp b (fun σ => L2N.passAt tk σ) pa_W pk_W hall hks hdb he hpl, ?_⟩
  refine ha.then le ok hp fun ds vs F1 H1 _ g1 q1 ok1 hp1 => ?_
  refine hk F1 H1 σ _ g1.fh ok1 ?_
  cases rk with
  | er x => exact hp1
  | bad => exact hp1
  | ok zs =>
    intro ws F2 H2 g2 q2
    have hp2 : Post X.K ca m (ekOf X.K ca W σ) F1 H1 (f (aD ds zs)) Q := hp1
    have q1' := q1.mono g2
    exact ⟨by rw [← ars_len q1', hl1], by rw [← ars_len q2, hl2], F2, _, g2.fh, hA.ok F2 _ _ _ _ _ q1' q2, ok1.stH g2, hp2.mono g2⟩
theorem se_callKW0 (Df : KWay X.prog X.w X.K X.mg X.base ca x n ms m f 0 ks [] km aD) (hr : Room k X.A) (tk : L2N.Takes X W) (hk : SK ca X W H0 km env kws rk) (hl2 : km.length = ks.length := by rfl)
    (hnk : n ≤ k := by decide) (hg : Gl X x := by rfl) (hdb : (x == ("__debug__" : Str)) = false := by decide)
    (hall : (backToKw pos (keywordEach kws X.env)).all (·.1.isSome) = true := by rfl) (hks : (backToKw pos (keywordEach kws X.env)).filterMap (·.1) = ks := by rfl)
    (hpl : ((backTo pos (starEach [] X.env)).any (·.1) || (backToKw pos (keywordEach kws X.env)).any (·.1.isNone)) = false := by rfl) :
    SE ca X W H0 m env (.Call (.Name x p) [] kws pos) (rk.bind fun zs => f (aD [] zs)) := fun F H σ Q le ok hp => by
  obtain ⟨a, fd, ps, gg, aV, G, gm, kp, b, hA⟩ := Df.ex
  refine ⟨_, pe_callKS0 G (hr.mono hnk) hg gm kp b (fun σ => L2N.passAt tk σ) pk_W hall hks hdb hpl, ?_⟩
  refine hk F H σ _ le ok ?_
  cases rk with
  | er x => exact hp
  | bad => exact hp
  | ok zs =>
    intro ws F2 H2 g2 q2
    have hp2 : Post X.K ca m (ekOf X.K ca W σ) F H (f (aD [] zs)) Q := hp
    exact ⟨rfl, by rw [← ars_len q2, hl2], F2, _, g2.fh, hA.ok F2 _ _ _ _ _ .nil q2, ok.stH g2, hp2.mono g2⟩
/-- an instance read -/
theorem isM_ok {K : PySem.W.Frag} {F H : Hp} {v : V} {d d' : D} {mn : Str} (le : Le F H) (q : AR K ca F H v d) (h : isM c mn d = .ok d') : d' = d ∧ ∃ a dx fs, v = .ref a ∧ H a = some (.ins (ca c) dx fs) ∧ fs.lookup mn = none := by
  unfold isM at h
  cases d with
  | ins c' ns xs =>
    dsimp only at h
    split at h
    · rename_i hc
      obtain ⟨rfl, hn⟩ := hc
      cases h
      obtain ⟨a, dx, fs, rfl, h1, h2, r⟩ := ar_ins le q
      exact ⟨rfl, a, dx, fs, rfl, h1, lookup_none (by rw [h2]; exact hn)⟩
    · cases h
  | _ => cases h
theorem isM_er {c m : Str} {d : D} {z : Exc} : isM c m d ≠ .er z := by
  unfold isM
  cases d with
  | ins c' ns xs => dsimp only; split <;> (intro h; cases h)
  | _ => intro h; cases h
theorem se_methK {mn : Str} {pl : Sem Bool} (Df : MWay X.prog X.w X.K X.mg X.base ca c mn n (.r :: ms) m f np ks (.r :: pm) km aD) (hr : Room k X.A) (tk : L2N.Takes X W) (ho : SE ca X W H0 .r env o ro) (ha : SA ca X W H0 pm env (e :: es) rs) (hk : SK ca X W H0 km env kws rk) (hl1 : pm.length + 1 = np := by rfl) (hl2 : km.length = ks.length := by rfl)
    (hnk : n ≤ k := by decide)
    (hall : (backToKw pos (keywordEach kws X.env)).all (·.1.isSome) = true := by rfl) (hks : (backToKw pos (keywordEach kws X.env)).filterMap (·.1) = ks := by rfl)
    (he : starEach (e :: es) X.env = (false, eval e X.env) :: starEach es X.env := by rfl) (hpl : ((backTo pos (starEach (e :: es) X.env)).any (·.1) || (backToKw pos (keywordEach kws X.env)).any (·.1.isNone)) = false := by rfl)
    (ht : eval (.Call (.Attribute o mn apos) (e :: es) kws pos) X.env = (do
      let ov ← eval o X.env
      standAt apos.atName
      let (f, first) ← holding [ov] (getMethod ov mn pl)
      callWith pos f first (backTo pos (starEach (e :: es) X.env)) (backToKw pos (keywordEach kws X.env))) := by rfl) :
    SE ca X W H0 m env (.Call (.Attribute o mn apos) (e :: es) kws pos) (ro.bind fun d0 => (isM c mn d0).bind fun d => rs.bind fun ds => rk.bind fun zs => f (aD (d :: ds) zs)) := fun F H σ Q le ok hp => by
  obtain ⟨a, fd, ps, gg, aV, G, cl, me, b, hA⟩ := Df.ex
  refine ⟨_, pe_methKS (pl := pl) pe_W cl me G (hr.mono hnk) b (fun σ => L2N.passAt tk σ) pa_W pk_W hall hks he hpl ht, ?_⟩
  refine ho.then le ok hp fun d0 v F0 H0' _ g0 q0 ok0 hp0 => ?_
  cases hi : isM c mn d0 with
  | er z => exact absurd hi isM_er
  | bad => rw [hi] at hp0; exact hp0.elim
  | ok d =>
    rw [hi] at hp0
    obtain ⟨rfl, a', dx, fs, rfl, h1, h2⟩ := isM_ok g0.fh q0 hi
    refine ⟨a', dx, fs, rfl, h1, h2, ?_⟩
    refine ha.then g0.fh ok0 hp0 fun ds vs F1 H1 _ g1 q1 ok1 hp1 => ?_
    refine hk F1 H1 σ _ g1.fh ok1 ?_
    cases rk with
    | er x => exact hp1
    | bad => exact hp1
    | ok zs =>
      intro ws F2 H2 g2 q2
      have hp2 : Post X.K ca m (ekOf X.K ca W σ) F1 H1 (f (aD (d :: ds) zs)) Q := hp1
      have q1' := q1.mono g2
      have q0' := AR.mono g2 (AR.mono g1 q0)
      exact ⟨by rw [List.length_cons, ← ars_len q1', hl1], by rw [← ars_len q2, hl2], F2, _, g2.fh, hA.ok F2 _ _ _ _ _ (.consR q0' q1') q2, ok1.stH g2, hp2.mono g2⟩
theorem se_methK0 {mn : Str} {pl : Sem Bool} (Df : MWay X.prog X.w X.K X.mg X.base ca c mn n (.r :: ms) m f 1 ks [.r] km aD) (hr : Room k X.A) (tk : L2N.Takes X W) (ho : SE ca X W H0 .r env o ro) (hk : SK ca X W H0 km env kws rk) (hl2 : km.length = ks.length := by rfl)
    (hnk : n ≤ k := by decide)
    (hall : (backToKw pos (keywordEach kws X.env)).all (·.1.isSome) = true := by rfl) (hks : (backToKw pos (keywordEach kws X.env)).filterMap (·.1) = ks := by rfl)
    (hpl : ((backTo pos (starEach [] X.env)).any (·.1) || (backToKw pos (keywordEach kws X.env)).any (·.1.isNone)) = false := by rfl)
    (ht : eval (.Call (.Attribute o mn apos) [] kws pos) X.env = (do
      let ov ← eval o X.env
      standAt apos.atName
      let (f, first) ← holding [ov] (getMethod ov mn pl)
      callWith pos f first (backTo pos (starEach [] X.env)) (backToKw pos (keywordEach kws X.env))) := by rfl) :
    SE ca X W H0 m env (.Call (.Attribute o mn apos) [] kws pos) (ro.bind fun d0 => (isM c mn d0).bind fun d => rk.bind fun zs => f (aD [d] zs)) := fun F H σ Q le ok hp => by
  obtain ⟨a, fd, ps, gg, aV, G, cl, me, b, hA⟩ := Df.ex
  refine ⟨_, pe_methKS0 (pl := pl) pe_W cl me G (hr.mono hnk) b (fun σ => L2N.passAt tk σ) pk_W hall hks hpl ht, ?_⟩
  refine ho.then le ok hp fun d0 v F0 H0' _ g0 q0 ok0 hp0 => ?_
  cases hi : isM c mn d0 with
  | er z => exact absurd hi isM_er
  | bad => rw [hi] at hp0; exact hp0.elim
  | ok d =>
    rw [hi] at hp0
    obtain ⟨rfl, a', dx, fs, rfl, h1, h2⟩ := isM_ok g0.fh q0 hi
    refine ⟨a', dx, fs, rfl, h1, h2, ?_⟩
    refine hk F0 H0' σ _ g0.fh ok0 ?_
    cases rk with
    | er x => exact hp0
    | bad => exact hp0
    | ok zs =>
      intro ws F2 H2 g2 q2
      have hp2 : Post X.K ca m (ekOf X.K ca W σ) F0 H0' (f (aD [d] zs)) Q := hp0
      exact ⟨rfl, by rw [← ars_len q2, hl2], F2, _, g2.fh, hA.ok F2 _ _ _ _ _ (.consR (AR.mono g2 q0) .nil) q2, ok0.stH g2, hp2.mono g2⟩
end
end Um

namespace Um
open L2 PySem PySem.Spec PyProof.Rows

/-! ## Several names on the left -/
@[simp] theorem unp2_s {β : Type} (a b : D) (k : D → D → R β) : unp2 (.tup [a, b]) k = k a b := (Eq.refl _).trans (Eq.refl _)
@[simp] theorem unp3_s {β : Type} (a b c : D) (k : D → D → D → R β) : unp3 (.tup [a, b, c]) k = k a b c := (Eq.refl _).trans (Eq.refl _)
theorem rep_tupI {K : PySem.W.Frag} {ca : Ca} {F : Hp} {v : V} {ds : List D} (h : Rep K ca F v (.tup ds)) : ∃ p vs, v = .ref p ∧ SqN K ca F p vs ∧ Reps K ca F vs ds := by
  cases h with | tup h r => exact ⟨_, _, rfl, h, r⟩
section
variable {α : Type} {P : Pt α} {nx bk ct : Jp α} {env : En} {rest : List Stmt}
theorem ss_unp2 (G : P.Good) {i j : Nat} {x y : Str} {n : Nat} {e : Expr} {re : R D} {k : D → D → R α} {pos p1 p2 p3 : Pos} (h : SE P.ca P.X P.W P.H0 .v env e re) (hk : ∀ a b, SSs P nx bk ct ((env.set i (some (.d a))).set j (some (.d b))) rest (k a b))
    (hi : P.X.N[i]? = some x := by rfl) (hj : P.X.N[j]? = some y := by rfl) (hx : Loc P.X.env.scope x := by first | exact .inl rfl | exact .inr rfl) (hy : Loc P.X.env.scope y := by first | exact .inl rfl | exact .inr rfl)
    (hh : noH P.envH i = true := by rfl) (hh2 : noH P.envH j = true := by rfl)
    (hf : P.X.fn x = true ∨ P.X.env.scope.names.lookup x = some .local := by first | exact .inl rfl | exact .inr rfl) (hf2 : P.X.fn y = true ∨ P.X.env.scope.names.lookup y = some .local := by first | exact .inl rfl | exact .inr rfl)
    (hs : swapsWithSole [.Tuple [.Name x p1, .Name y p2] n p3] e pos.line P.X.env = pure false := by rfl) (hw : swappedStores [.Tuple [.Name x p1, .Name y p2] n p3] e P.X.env = pure none := by rfl) (h1 : (assignEach [.Tuple [.Name x p1, .Name y p2] n p3] P.X.env).map (·.2) = [assign (.Tuple [.Name x p1, .Name y p2] n p3) P.X.env] := by rfl)
    (hn : (assignEach [.Name x p1, .Name y p2] P.X.env).length = 2 := by rfl) (hst : (assignEach [.Name x p1, .Name y p2] P.X.env).findIdx? (·.1) = none := by rfl)
    (hc1 : (assignEach [.Name x p1, .Name y p2] P.X.env).map (·.2) = assign (.Name x p1) P.X.env :: (assignEach [.Name y p2] P.X.env).map (·.2) := by rfl) (hc2 : (assignEach [.Name y p2] P.X.env).map (·.2) = assign (.Name y p2) P.X.env :: (assignEach [] P.X.env).map (·.2) := by rfl) :
    SSs P nx bk ct env (.Assign [.Tuple [.Name x p1, .Name y p2] n p3] e pos :: rest) (re.bind fun d => unp2 d k) := fun D hr hn' hb hc σ H ⟨F, a⟩ => by
  refine .cons (ps_asg pe_W (pg_tup G.calm (pgs_cons (pg_name G.nd hi hx hf) (pgs_cons (pg_name G.nd hj hy hf2) pgs_nil hc2) hc1) hn hst) hs hw h1) ?_
  refine a.ev G h fun d v F' H' _ g q a' => ?_
  unfold unp2 at a'
  split at a'
  · rename_i d1 d2
    obtain ⟨p, vs, rfl, hq, r⟩ := rep_tupI q
    cases r with
    | cons r1 r =>
      cases r with
      | cons r2 r =>
        cases r
        refine ⟨p, _, rfl, a'.go.fh.t hq.t, rfl, _, _, rfl, _, _, rfl, rfl, ?_⟩
        exact hk _ _ D hr hn' hb hc _ _ ⟨F', a'.go, (a'.en.setD r1).setD r2, (a'.ho.set hh).set hh2, a'.eq⟩
  · exact (G.nb a'.eq.symm).elim
theorem ss_unp3 (G : P.Good) {i j l : Nat} {x y z : Str} {n : Nat} {e : Expr} {re : R D} {k : D → D → D → R α} {pos p1 p2 p3 p4 : Pos} (h : SE P.ca P.X P.W P.H0 .v env e re) (hk : ∀ a b c, SSs P nx bk ct (((env.set i (some (.d a))).set j (some (.d b))).set l (some (.d c))) rest (k a b c))
    (hi : P.X.N[i]? = some x := by rfl) (hj : P.X.N[j]? = some y := by rfl) (hl : P.X.N[l]? = some z := by rfl) (hx : Loc P.X.env.scope x := by first | exact .inl rfl | exact .inr rfl) (hy : Loc P.X.env.scope y := by first | exact .inl rfl | exact .inr rfl) (hz : Loc P.X.env.scope z := by first | exact .inl rfl | exact .inr rfl)
    (hh : noH P.envH i = true := by rfl) (hh2 : noH P.envH j = true := by rfl) (hh3 : noH P.envH l = true := by rfl)
    (hf : P.X.fn x = true ∨ P.X.env.scope.names.lookup x = some .local := by first | exact .inl rfl | exact .inr rfl) (hf2 : P.X.fn y = true ∨ P.X.env.scope.names.lookup y = some .local := by first | exact .inl rfl | exact .inr rfl) (hf3 : P.X.fn z = true ∨ P.X.env.scope.names.lookup z = some .local := by first | exact .inl rfl | exact .inr rfl)
    (hs : swapsWithSole [.Tuple [.Name x p1, .Name y p2, .Name z p4] n p3] e pos.line P.X.env = pure false := by rfl) (hw : swappedStores [.Tuple [.Name x p1, .Name y p2, .Name z p4] n p3] e P.X.env = pure none := by rfl) (h1 : (assignEach [.Tuple [.Name x p1, .Name y p2, .Name z p4] n p3] P.X.env).map (·.2) = [assign (.Tuple [.Name x p1, .Name y p2, .Name z p4] n p3) P.X.env] := by rfl)
    (hn : (assignEach [.Name x p1, .Name y p2, .Name z p4] P.X.env).length = 3 := by rfl) (hst : (assignEach [.Name x p1, .Name y p2, .Name z p4] P.X.env).findIdx? (·.1) = none := by rfl)
    (hc1 : (assignEach [.Name x p1, .Name y p2, .Name z p4] P.X.env).map (·.2) = assign (.Name x p1) P.X.env :: (assignEach [.Name y p2, .Name z p4] P.X.env).map (·.2) := by rfl) (hc2 : (assignEach [.Name y p2, .Name z p4] P.X.env).map (·.2) = assign (.Name y p2) P.X.env :: (assignEach [.Name z p4] P.X.env).map (·.2) := by rfl) (hc3 : (assignEach [.Name z p4] P.X.env).map (·.2) = assign (.Name z p4) P.X.env :: (assignEach [] P.X.env).map (·.2) := by rfl) :
    SSs P nx bk ct env (.Assign [.Tuple [.Name x p1, .Name y p2, .Name z p4] n p3] e pos :: rest) (re.bind fun d => unp3 d k) := fun D hr hn' hb hc σ H ⟨F, a⟩ => by
  refine .cons (ps_asg pe_W (pg_tup G.calm (pgs_cons (pg_name G.nd hi hx hf) (pgs_cons (pg_name G.nd hj hy hf2) (pgs_cons (pg_name G.nd hl hz hf3) pgs_nil hc3) hc2) hc1) hn hst) hs hw h1) ?_
  refine a.ev G h fun d v F' H' _ g q a' => ?_
  unfold unp3 at a'
  split at a'
  · rename_i d1 d2 d3
    obtain ⟨p, vs, rfl, hq, r⟩ := rep_tupI q
    cases r with
    | cons r1 r =>
      cases r with
      | cons r2 r =>
        cases r with
        | cons r3 r =>
          cases r
          refine ⟨p, _, rfl, a'.go.fh.t hq.t, rfl, _, _, rfl, _, _, rfl, _, _, rfl, rfl, ?_⟩
          exact hk _ _ _ D hr hn' hb hc _ _ ⟨F', a'.go, ((a'.en.setD r1).setD r2).setD r3, ((a'.ho.set hh).set hh2).set hh3, a'.eq⟩
  · exact (G.nb a'.eq.symm).elim
/-- for x, y in .. -/
theorem ss_for2 (G : P.Good) {S : Type} {x y : Str} {it : Expr} {body : List Stmt} {ri : R (List D)} {bodyM : D → D → S → (S → R α) → (S → R α) → R α} {after : S → R α} {pos p1 p2 p3 : Pos} {i j n : Nat} (envL : S → En) (s0 : S)
    (hit : SI P.ca P.X P.W P.H0 env (.Tuple [.Name x p1, .Name y p2] n p3) it ri)
    (hb : ∀ F1, (P.at F1).Good → ∀ a b s nxt brk, SSs (P.at F1) (jOf envL nxt) (jOf envL brk) (jOf envL nxt) (((envL s).set i (some (.d a))).set j (some (.d b))) body (bodyM a b s nxt brk))
    (h0 : EnLe (envL s0) env) (hk : ∀ s, SSs P nx bk ct (envL s) rest (after s)) (hs : ∀ x, foldedSetIterable it P.X.env x = pure x := by intro _; rfl)
    (hi : P.X.N[i]? = some x := by rfl) (hj : P.X.N[j]? = some y := by rfl) (hx : Loc P.X.env.scope x := by first | exact .inl rfl | exact .inr rfl) (hy : Loc P.X.env.scope y := by first | exact .inl rfl | exact .inr rfl)
    (hh : noH P.envH i = true := by rfl) (hh2 : noH P.envH j = true := by rfl)
    (hf : P.X.fn x = true ∨ P.X.env.scope.names.lookup x = some .local := by first | exact .inl rfl | exact .inr rfl) (hf2 : P.X.fn y = true ∨ P.X.env.scope.names.lookup y = some .local := by first | exact .inl rfl | exact .inr rfl)
    (hn : (assignEach [.Name x p1, .Name y p2] P.X.env).length = 2 := by rfl) (hst : (assignEach [.Name x p1, .Name y p2] P.X.env).findIdx? (·.1) = none := by rfl)
    (hc1 : (assignEach [.Name x p1, .Name y p2] P.X.env).map (·.2) = assign (.Name x p1) P.X.env :: (assignEach [.Name y p2] P.X.env).map (·.2) := by rfl) (hc2 : (assignEach [.Name y p2] P.X.env).map (·.2) = assign (.Name y p2) P.X.env :: (assignEach [] P.X.env).map (·.2) := by rfl) :
    SSs P nx bk ct env (.For (.Tuple [.Name x p1, .Name y p2] n p3) it body [] pos :: rest) (ri.bind fun ds => forC ds s0 (fun d s nx bk => unp2 d fun a b => bodyM a b s nx bk) after) :=
  ss_forG G envL s0 hit (pg_tup G.calm (pgs_cons (pg_name G.nd hi hx hf) (pgs_cons (pg_name G.nd hj hy hf2) pgs_nil hc2) hc1) hn hst) (fun F1 G1 d s nxt brk D σ H F v hr hn hbk hc q a => by
    have ae := a.eq
    unfold unp2 at ae
    split at ae
    · rename_i d1 d2
      obtain ⟨p, vs, rfl, hq, r⟩ := rep_tupI q
      cases r with
      | cons r1 r =>
        cases r with
        | cons r2 r =>
          cases r
          refine ⟨p, _, rfl, a.go.fh.t hq.t, rfl, _, _, rfl, _, _, rfl, rfl, ?_⟩
          exact hb F1 G1 _ _ s nxt brk D hr hn hbk hc _ _ ⟨F, a.go, (a.en.setD r1).setD r2, (a.ho.set hh).set hh2, ae⟩
    · exact (G1.nb ae.symm).elim) h0 hk hs
end
end Um
namespace Um
open L2 PySem PySem.Spec PyProof.Rows
/-! ## Defs with keyword-only parameters, ways to call -/
theorem def_okD {P : Program} {w : World} {K : PySem.W.Frag} {mg : Str → Option Value} {base : Heap} {ca : Ca} {x qual : Str} {params : Arguments} {bd : List Stmt} {scope : Scope} {dvs : List V} {kws : List (Str × V)} {a : Addr} {fd : FuncData} {N ps : List Str} {k : Nat} {ms : List Md} {m : Md} {f : List D → R D}
    (F : FunD K x qual params bd scope dvs kws a fd) (S : FnScope N ps scope) (hm : ms.length = ps.length) (hN : ps.length ≤ N.length)
    (body : ∀ (cdv : Value) (A : Around) (outer : List Env) (s : Shared) (H : Hp) (Q : VK) (E : XK) (F0 : Hp) (ds : List D), ds.length = ps.length → Room k (A.deeper (envOfC qual scope s.heap.objs.size a cdv)) →
      (Pt.mk ca (cxOf (L2N.CX P w) P w K mg base N qual scope a cdv A outer s H E) (fun c d _ H' => E c d H') F0 H [] (f ds) R.ok m Q).Good →
      SSs (Pt.mk ca (cxOf (L2N.CX P w) P w K mg base N qual scope a cdv A outer s H E) (fun c d _ H' => E c d H') F0 H [] (f ds) R.ok m Q) (jEnd m) jNo jNo (argEnv ms ds N.length) bd (f ds)) :
    FnOk P w K mg base (L2N.CX P w) (k + 1) a fd ps (spOf K ca ms m f) := by
  refine F.ok S (fun vs H Q E h => ?_) (fun cdv A outer s H vs Q E hr h => ?_)
  · obtain ⟨F0, ds, _, q, _, _⟩ := h
    rw [← hm, ars_len q]
  · obtain ⟨F0, ds, le, q, hsk, hp⟩ := h
    have hl : ds.length = ps.length := by rw [← q.length, ← ars_len q, hm]
    refine ⟨_, pss_W, ?_⟩
    have G : (Pt.mk ca (cxOf (L2N.CX P w) P w K mg base N qual scope a cdv A outer s H E) (fun c d _ H' => E c d H') F0 H [] (f ds) R.ok m Q).Good := by
      refine ⟨S.nd, rfl, passes_of rfl, fun d v F1 H1 e g r => ?_, fun z F1 H1 σ e g _ => ?_, fun e => ?_, (fun d e => nomatch e), hsk⟩
      · have e' : f ds = .ok d := e
        rw [e'] at hp
        exact hp v F1 H1 g r
      · have e' : f ds = .er z := e
        rw [e'] at hp
        exact hp F1 H1 g
      · have e' : f ds = .bad := e
        rw [e'] at hp; exact hp
    refine body cdv A outer s H Q E F0 ds hl hr G _ rfl ?_ (fun _ _ z => z.elim) (fun _ _ z => z.elim) _ _ ⟨F0, Go.refl le, en_start q (by rw [q.length, hl]; exact hN) hsk, ⟨.inl (Nat.zero_le _), fun i s h => by simp at h⟩, rfl⟩
    rintro e' r' ⟨rfl, rfl⟩ σ H1 ⟨F1, a1⟩
    exact G.rt .non .non F1 H1 a1.eq.symm a1.go Rep.non
theorem kbn_of_binds {K : PySem.W.Frag} {fd : FuncData} {ps : List Str} (b : Binds K fd ps []) : KBn K fd ps ps.length [] (fun us _ => us) (fun vs _ => vs) :=
  ⟨fun s us ws X l1 _ => by
    have := b s us X (by rw [List.append_nil]; exact l1)
    rw [List.append_nil] at this
    exact this, fun r _ => r⟩
theorem arr_id {K : PySem.W.Frag} {ca : Ca} {ms : List Md} : Arr K ca ms [] ms (fun vs _ => vs) (fun ds _ => ds) := ⟨fun _ _ _ _ _ _ q _ => q⟩
theorem vals_tk (j : Nat) {vs : List V} {us : List Value} (h : Vals vs us) : Vals ((vs.drop j).take 1) ((us.drop j).take 1) := by
  have q := h.drop j
  revert q
  generalize vs.drop j = a
  generalize us.drop j = b
  intro q
  cases q with
  | nil => exact .nil
  | cons h _ => exact .cons h .nil
end Um

namespace Um
open L2 PySem PySem.Spec PyProof.Rows

/-! ## is of bools, xs[::-1] -/
section
variable {ca : Ca} {X : Cx} {W : WX} {H0 : Hp} {env : En}
def dIsB (x y : D) : R Bool := match x, y with
  | .bl a, .bl b => .ok (decide (a = b))
  | _, _ => .bad
def dNotB (x y : D) : R Bool := match x, y with
  | .bl a, .bl b => .ok (!decide (a = b))
  | _, _ => .bad
theorem ob_isB : OB ca X (compareOp .Is) dIsB := fun E F H x y dx dy Q le hx hy hp => by
  unfold dIsB at hp
  split at hp
  · exact ⟨_, op_isBl, _, _, ar_bl hx, ar_bl hy, hp F H (Go.refl le)⟩
  · exact hp.elim
theorem ob_notB : OB ca X (compareOp .IsNot) dNotB := fun E F H x y dx dy Q le hx hy hp => by
  unfold dNotB at hp
  split at hp
  · exact ⟨_, op_notBl, _, _, ar_bl hx, ar_bl hy, hp F H (Go.refl le)⟩
  · exact hp.elim
theorem Reps.rev {K : PySem.W.Frag} {F : Hp} {vs : List V} {ds : List D} (r : Reps K ca F vs ds) : Reps K ca F vs.reverse ds.reverse := by
  have app : ∀ {vs ds ws es}, Reps K ca F vs ds → Reps K ca F ws es → Reps K ca F (vs ++ ws) (ds ++ es) := fun {vs ds ws es} a b => by
    induction vs generalizing ds with
    | nil => cases a; exact b
    | cons v vs ih => cases a with | cons h r => exact .cons h (ih r)
  induction vs generalizing ds with
  | nil => cases r; exact .nil
  | cons v vs ih =>
    cases r with
    | cons h r =>
      rw [List.reverse_cons, List.reverse_cons]
      exact app (ih r) (.cons h .nil)
def dRevL : D → R D
  | .lst xs => .ok (.lst xs.reverse)
  | .scr xs => .ok (.lst xs.reverse)
  | _ => .bad
theorem se_revL {a : Expr} {ra : R D} {k : Nat} {p1 p2 p3 pos : Pos} (ha : SE ca X W H0 .r env a ra) : SE ca X W H0 .o env (.Subscript a (.Slice none none (some (.UnaryOp .USub (.Constant (.int 1) k p1) p2)) p3) pos) (ra.bind dRevL) := fun F H σ Q le ok hp => by
  refine ⟨_, pe_revL pe_W, ha.then le ok hp fun d v F1 H1 _ g1 q1 ok1 hp1 => ?_⟩
  cases d with
  | lst xs =>
    obtain ⟨p, vs, rfl, h1, r⟩ := ar_lst g1.fh q1
    exact ⟨p, vs, rfl, .inl (.inl h1), fun n hn => hp1 _ F1 _ (Go.hid g1.fh hn _) ⟨n, rfl, hn, g1.fh.free hn, .inl ⟨_, _, rfl, upd_same, r.rev⟩⟩⟩
  | scr xs =>
    obtain ⟨p, vs, rfl, h1, r⟩ := ar_scr g1.fh q1
    exact ⟨p, vs, rfl, h1, fun n hn => hp1 _ F1 _ (Go.hid g1.fh hn _) ⟨n, rfl, hn, g1.fh.free hn, .inl ⟨_, _, rfl, upd_same, r.rev⟩⟩⟩
  | _ => exact hp1.elim
end
end Um

namespace Um
open L2 PySem PySem.Spec PyProof.Rows

/-! ## Operators of own classes -/
/-- a method found by the class alone -/
structure ODef (P : Program) (w : World) (K : PySem.W.Frag) (mg : Str → Option Value) (base : Heap) (ca : Ca) (c x : String) (n : Nat) (ms : List Md) (m : Md) (f : List D → R D) : Prop where
  ex : ∃ (a : Addr) (fd : FuncData) (ps : List Str), FnOk P w K mg base (L2N.CX P w) n a fd ps (spOf K ca ms m f) ∧ Binds K fd ps [] ∧ PySem.W.findIn K (.ref (ca c)) x = some (some (.ref a)) ∧ PySem.W.isFn K (.ref a) = true ∧ PySem.W.selfFirst K (ca c) = true ∧ PySem.W.fnIn K a = true
section
variable {X : Cx} {pins : List (Addr × Obj)} {σ : L2.St} {H : Hp} {s : Shared} {Q : VK} {n : Nat} {f : Addr} {fd : FuncData} {ps : List Str} {sp : Sp} {us : List Value} {vs : List V} {A1 : Around}
theorem run_own (sb : Sub X n A1) (F : FnOk X.prog X.w X.K X.mg X.base (L2N.CX X.prog X.w) n f fd ps sp) (b : Binds X.K fd ps []) (I : Inv X pins σ H s) (r : Vals vs us) (h : sp vs H Q (fun _ _ _ => False)) :
    wpAny (model X.prog X.w) A1 (call (.ref f) us) (EP X pins σ Q) X.xe s := by
  have e0 : Env0 X.prog X.w X.K X.mg X.base A1 X.stack s H := by
    have e := I.env0
    exact ⟨by rw [sb.fr]; exact e.frames, e.mod, e.bs, e.bsz, e.funs, e.frf, e.hok, e.bare⟩
  have hl := F.len _ _ _ _ h
  refine wpAny_call (codeAny_mono (F.run A1 X.stack s H ⟨us, []⟩ us vs Q (fun _ _ _ => False) sb.room e0 (by
    have := b s us I.kIn (by rw [List.append_nil, ← r.length]; exact hl)
    rwa [List.append_nil] at this) r h) fun r s' hq => ?_)
  cases r with
  | error e => exact passF pins σ H s e s' I hq
  | ok fl =>
    cases fl with
    | ret u => exact I.after hq
    | next => exact False.elim hq
    | brk => exact False.elim hq
    | cont => exact False.elim hq
end
theorem not_ni {x : V} {v : Value} {P : Value → Shared → Prop} {s : Shared} (r : RelV x v) (h : P v s) : PySem.W.CmpBack P v s := by
  cases v <;> first | exact h | (cases x <;> first | (exact nomatch r) | (obtain ⟨_, e⟩ := r; exact nomatch e))
section
variable {X : Cx} {n : Nat} {C f : Addr} {fd : FuncData} {ps : List Str} {sp : Sp} {op : Operator}
def rOwn2 (C : Addr) (sp : Sp) : R2 := fun x y H Q => ∃ a b dx dy fs gs, x = .ref a ∧ y = .ref b ∧ H a = some (.ins C dx fs) ∧ H b = some (.ins C dy gs) ∧ sp [x, y] H Q (fun _ _ _ => False)
theorem op_own (hr : Room n X.A) (F : FnOk X.prog X.w X.K X.mg X.base (L2N.CX X.prog X.w) n f fd ps sp) (b : Binds X.K fd ps []) (hc : PySem.W.selfFirst X.K C = true)
    (hs : PySem.W.findIn X.K (.ref C) (PySem.dunder op.info.2) = some (some (.ref f))) (hf : PySem.W.isFn X.K (.ref f) = true) : OpR X (binaryOp op) (rOwn2 C sp) := by
  intro pins s σ H x y v u Q I rx ry h
  obtain ⟨a, b', dx, dy, fs, gs, rfl, rfl, ha, hb, hsp⟩ := h
  obtain rfl : v = Value.ref a := rx
  obtain rfl : u = Value.ref b' := ry
  obtain ⟨mA, J, _⟩ := ins_get I.hok ha
  obtain ⟨od, J, _⟩ := J.look
  obtain ⟨mB, J2, _⟩ := ins_get I.hok hb
  obtain ⟨od2, J2, _⟩ := J2.look
  obtain ⟨m, hF⟩ := I.fr
  refine PySem.W.binop_K hF I.ok.mod.kin J J2.type hc hs hf ?_
  refine wpAny_mono (run_own (vs := [.ref a, .ref b']) ⟨hr, rfl⟩ F b I (.cons rfl (.cons rfl .nil)) hsp) (fun v s' hv => ?_) fun _ _ z => z
  obtain ⟨x, H', I', r, q⟩ := hv
  exact not_ni r ⟨x, H', I', r, q⟩
/-- o[i] -/
def rOwnIx (C : Addr) (sp : Sp) : R2 := fun x y H Q => ∃ a dx fs, x = .ref a ∧ H a = some (.ins C dx fs) ∧ sp [x, y] H Q (fun _ _ _ => False)
theorem pe_ixOwn {a b : Expr} {ta tb : TE} {pos : Pos} (hr : Room (n + 1) X.A) (F : FnOk X.prog X.w X.K X.mg X.base (L2N.CX X.prog X.w) n f fd ps sp) (bd : Binds X.K fd ps []) (hs : PySem.W.findIn X.K (.ref C) "__getitem__" = some (some (.ref f))) (hf : PySem.W.fnIn X.K f = true) (hfn : PySem.W.isFn X.K (.ref f) = true)
    (ha : PE X a ta) (hb : PE X b tb) (hsl : ∀ o i, subscripted b true o i = runValue (.builtin "lifetime.subscript" ⟨[o, i], []⟩)) : PE X (.Subscript a b pos) (tOp (rOwnIx C sp) ta tb) := by
  refine ⟨fun pins s σ H Q I h => ?_⟩
  refine Subscript_ (binT ha hb I h fun v u s2 x y H2 I2 rx ry q => ?_)
  obtain ⟨p, dx, fs, rfl, hp, hsp⟩ := q
  obtain rfl : v = Value.ref p := rx
  obtain ⟨mA, J, _⟩ := ins_get I2.hok hp
  obtain ⟨od, J, _⟩ := J.look
  obtain ⟨m, hF⟩ := I2.fr
  exact PySem.W.sub_K hF I2.ok.mod.kin J hs hf hfn (run_own (vs := [.ref p, y]) ⟨hr.in1, rfl⟩ F bd I2 (.cons rfl (.cons ry .nil)) hsp) (hsl _ _)
end
/-- an operator: of two instances of c the own method, else the common one -/
def dOwn2 (c : Str) (f g : D → D → R D) (x y : D) : R D := match x with
  | .ins c' ns xs => (match y with | .ins c2 ms ys => if c' = c ∧ c2 = c then noEr (f (.ins c' ns xs) (.ins c2 ms ys)) else .bad | _ => .bad)
  | _ => g x y
def dOwnIx (c : Str) (f : D → D → R D) (x y : D) : R D := match x with
  | .ins c' ns xs => if c' = c then noEr (f (.ins c' ns xs) y) else .bad
  | _ => .bad
section
variable {ca : Ca} {X : Cx} {W : WX} {H0 : Hp} {env : En} {n k : Nat} {c x : String} {f : D → D → R D} {a b : Expr} {ra rb : R D} {pos : Pos}
theorem ov_own {op : Operator} {g : D → D → R D} (Df : ODef X.prog X.w X.K X.mg X.base ca c x n [.r, .r] .v (fn2 f)) (hr : Room k X.A) (ho : OV ca X .v (binaryOp op) g) (hnk : n ≤ k := by decide) (hx : PySem.dunder op.info.2 = Str.ofString x := by rfl) :
    OVS ca X .v (binaryOp op) (dOwn2 c f g) := fun E F H x' y' dx dy Q le hx' hy' hst hp => by
  obtain ⟨fa, fd, ps, G, bd, hfi, hfn, hsf, hin⟩ := Df.ex
  unfold dOwn2 at hp
  split at hp
  · split at hp
    · split at hp
      · rename_i hcc
        obtain ⟨rfl, rfl⟩ := hcc
        obtain ⟨p, dx, fs, rfl, h1, h2, r⟩ := ar_ins le hx'
        obtain ⟨p2, dy, gs, rfl, h3, h4, r2⟩ := ar_ins le hy'
        refine ⟨_, op_own (hr.mono hnk) G bd hsf (by rw [hx]; exact hfi) hfn, p, p2, dx, dy, fs, gs, rfl, rfl, h1, h3, F, [_, _], le, .consR hx' (.consR hy' .nil), hst, ?_⟩
        show Post X.K ca .v _ F H (f _ _) Q
        cases hg : f _ _ with
        | ok y => rw [hg] at hp; exact hp
        | er x => rw [hg] at hp; exact hp.elim
        | bad => rw [hg] at hp; exact hp.elim
      · exact hp.elim
    · exact hp.elim
  · exact ho E F H x' y' _ _ Q le hx' hy' hp
theorem se_ixOwn (Df : ODef X.prog X.w X.K X.mg X.base ca c "__getitem__" n [.r, .r] .v (fn2 f)) (hr : Room k X.A) (ha : SE ca X W H0 .r env a ra) (hb : SE ca X W H0 .r env b rb) (hnk : n + 1 ≤ k := by decide)
    (hsl : ∀ o i, subscripted b true o i = runValue (.builtin "lifetime.subscript" ⟨[o, i], []⟩) := by exact fun _ _ => rfl) :
    SE ca X W H0 .v env (.Subscript a b pos) (R.op2 (dOwnIx c f) ra rb) := fun F H σ Q le ok hp => by
  obtain ⟨fa, fd, ps, G, bd, hfi, hfn, hsf, hin⟩ := Df.ex
  refine ⟨_, pe_ixOwn (hr.mono hnk) G bd hfi hin hfn pe_W pe_W hsl, ha.then le ok hp fun d v F1 H1 _ g1 q1 ok1 hp1 => hb.then g1.fh ok1 hp1 fun e u F2 H2 _ g2 q2 ok2 hp2 => ?_⟩
  have q1 := AR.mono g2 q1
  unfold dOwnIx at hp2
  split at hp2
  · split at hp2
    · rename_i hcc
      subst hcc
      obtain ⟨p, dx, fs, rfl, h1, h2, r⟩ := ar_ins g2.fh q1
      refine ⟨p, dx, fs, rfl, h1, F2, [_, _], g2.fh, .consR q1 (.consR q2 .nil), ok2.st.monoH ok2.h0, ?_⟩
      show Post X.K ca .v _ F2 H2 (f _ _) Q
      cases hg : f _ _ with
      | ok y => rw [hg] at hp2; exact hp2
      | er x => rw [hg] at hp2; exact hp2.elim
      | bad => rw [hg] at hp2; exact hp2.elim
    · exact hp2.elim
  · exact hp2.elim
end
end Um

namespace Um
open L2 PySem PySem.Spec PyProof.Rows

/-! ## Own exceptions: raise, try -/
theorem takesN0 {X : Cx} : L2N.Takes X (fun _ _ _ _ => False) := fun _ _ ⟨_, _, _, _, _, _, _, _, _, _, _, _, _, _, _, _, w⟩ => w.elim
/-- a class over ValueError without an own __init__, that may be raised -/
structure ExcK (K : PySem.W.Frag) (mg : Str → Option Value) (C : Addr) (x : Str) : Prop where
  gC : mg x = some (.ref C)
  kC : PySem.W.keepIn K (.ref C) = true
  q : PySem.W.excIn K C [.type "ValueError", .type "Exception", .type "BaseException", .type "object"] "ValueError.__new__" = true
  b : PySem.W.subIn K (.ref C) (.type "BaseException") = some true
  t : PySem.W.typeIn K (.ref C) = some (.type "type")
section
variable {α : Type} {P : Pt α} {nx bk ct : Jp α} {env : En} {rest : List Stmt}
theorem ss_raiseK (G : P.Good) (tk : L2N.Takes P.X P.W) {c : Str} {e : Expr} {pos : Pos} (he : L2N.PMk P.X e (fun _ H Q => Q (.ref (P.ca c)) none H)) :
    SSs P nx bk ct env (.Raise (some e) none pos :: rest) (.er ⟨c, [], []⟩) := fun D hr hn hb hc σ H ⟨F, a⟩ => by
  refine .cons (L2N.ps_raise G.calm tk he) ?_
  exact G.er _ F H σ a.eq.symm a.go a.ho _ _ ⟨rfl, .inl ⟨rfl, rfl, rfl⟩⟩
theorem ss_raise0 (G : P.Good) (tk : L2N.Takes P.X P.W) {c : Str} {x m : Str} {j : Nat} {p p2 pos pos' : Pos} (T : ExcK P.X.K P.X.mg (P.ca c) x) (hg : Gl P.X x := by rfl) (hdb : (x == ("__debug__" : Str)) = false := by decide) :
    SSs P nx bk ct env (.Raise (some (.Call (.Name x p) [.Constant (.str m) j p2] [] pos)) none pos' :: rest) (.er ⟨c, [], []⟩) :=
  ss_raiseK G tk (L2N.pmk_own PySem.F.excBase_ValueError T.q T.gC T.kC (raises_own T.b T.t) hg hdb)
end
/-! ### try -/
/-- what a body comes to: a returned value, or it goes on -/
inductive Fl (S : Type) where
  | ret (d : D) | nxt (s : S)
def tryC {α S : Type} (b : R (Fl S)) (hand : Exc → R α) (after : S → R α) (ret : D → R α) : R α := match b with
  | .ok (.ret d) => ret d
  | .ok (.nxt s) => after s
  | .er x => hand x
  | .bad => .bad
/-- an except clause: tbl says which classes it takes -/
def exCase {α : Type} (tbl : List (Str × Bool)) (x : Exc) (r : R α) : R α := match tbl.lookup x.cls with
  | some true => noEr r
  | some false => .er x
  | none => .bad
def Pt.body {α : Type} (P : Pt α) (pn : List (Addr × Obj)) (xe : Value → Shared → Prop) (W : WX) (envH : En) {S : Type} (b : R (Fl S)) : Pt (Fl S) :=
  { ca := P.ca, X := P.X.tr pn xe, W := W, F0 := P.F0, H0 := P.H0, envH := envH, res := b, ret := fun d => .ok (.ret d), m := P.m, Q := P.Q }
def Pt.hand {α : Type} (P : Pt α) (F1 : Hp) (a : Addr) (oe : Obj) (pn : List (Addr × Obj)) : Pt α :=
  { ca := P.ca, X := P.X.suite a ((a, oe) :: pn), W := fun _ _ _ _ => False, F0 := F1, H0 := P.H0, envH := [], res := P.res, ret := P.ret, m := P.m, Q := P.Q }
/-- what a handler knows of the exception that it holds -/
structure HInf (K : PySem.W.Frag) (ca : Ca) (F1 : Hp) (a : Addr) (oe : Obj) (x : Exc) (d : Option Addr) : Prop where
  z : L2N.Zn (.ref (ca x.cls)) d oe
  f : ∃ vs, oe.data = .fields vs
theorem pss_imp {X : Cx} {ss : List Stmt} {t : TS} (h : ∀ D σ H, t D σ H → WSs X ss D σ H) : PSs X ss t := ⟨fun pins s σ H D I q => pss_W.run pins s σ H D I (h D σ H q)⟩
theorem EnOk.setNone {K : PySem.W.Frag} {ca : Ca} {H0 F H : Hp} {σ : L2.St} {env : En} {i : Nat} (h : EnOk K ca H0 F H σ env) : EnOk K ca H0 F H (σ.set i none) (env.set i none) := by
  refine ⟨h.h0, by rw [List.length_set, List.length_set, h.len], fun j s hj => ?_, fun j k x y hj hk e => ?_, h.st⟩
  · rcases set_some hj with ⟨_, e⟩ | ⟨ne, hj'⟩
    · cases e
    · obtain ⟨u, h1, h2⟩ := h.at_ j s hj'
      exact ⟨u, by rw [List.getElem?_set_ne ne]; exact h1, h2⟩
  · rcases set_some hj with ⟨_, e1⟩ | ⟨n1, hj'⟩
    · cases e1
    · rcases set_some hk with ⟨_, e2⟩ | ⟨n2, hk'⟩
      · cases e2
      · rw [List.getElem?_set_ne n1, List.getElem?_set_ne n2] at e
        exact h.own j k x y hj' hk' e
theorem EnOk.setE {K : PySem.W.Frag} {ca : Ca} {H0 F H : Hp} {σ : L2.St} {env : En} {i : Nat} {a : Addr} {dd : Option Addr} {xc : Exc} (h : EnOk K ca H0 F H σ env) (hx : ExcRep K ca F (.ref (ca xc.cls)) dd xc) : EnOk K ca H0 F H (σ.set i (some (.ref a))) (env.set i (some (.e a dd xc))) := by
  refine ⟨h.h0, by rw [List.length_set, List.length_set, h.len], fun j s hj => ?_, fun j k x y hj hk e => ?_, h.st⟩
  · rcases set_some hj with ⟨rfl, e⟩ | ⟨ne, hj'⟩
    · cases e
      refine ⟨.ref a, ?_, rfl, hx⟩
      rw [List.getElem?_set_self (by rw [h.len]; exact lt_of_set hj)]
    · obtain ⟨u, h1, h2⟩ := h.at_ j s hj'
      exact ⟨u, by rw [List.getElem?_set_ne ne]; exact h1, h2⟩
  · rcases set_some hj with ⟨_, e1⟩ | ⟨n1, hj'⟩
    · cases e1
    · rcases set_some hk with ⟨_, e2⟩ | ⟨n2, hk'⟩
      · cases e2
      · rw [List.getElem?_set_ne n1, List.getElem?_set_ne n2] at e
        exact h.own j k x y hj' hk' e
/-- no slot of one's own -/
def noOwn (e : En) : Bool := e.all fun s => match s with | some (.o _) => false | _ => true
theorem noOwn_at {e : En} (h : noOwn e = true) {i : Nat} {x : D} : e[i]? ≠ some (some (.o x)) := fun q => by
  have := List.all_eq_true.mp h _ (List.mem_of_getElem? q)
  cases this
section
variable {α : Type} {P : Pt α} {nx bk ct : Jp α} {env : En} {rest : List Stmt}
theorem ss_try (G : P.Good) (tk : L2N.Takes P.X P.W) {S : Type} {i : Nat} {n x : Str} {cC : Value} {body suite : List Stmt} {b₀ : Stmt} {np pos pos' : Pos} {b : R (Fl S)} {hand : Exc → R α} {after : S → R α} (envH : En) (envL : S → En) (tbl : List (Str × Bool))
    (hcls : ∀ c bb, tbl.lookup c = some bb → PySem.W.exmOne P.X.K (.ref (P.ca c)) cC = some bb)
    (hB : ∀ pn xe W, L2N.Takes (P.X.tr pn xe) W → (P.body pn xe W envH b).Good → SSs (P.body pn xe W envH b) (jOf envL fun s => .ok (.nxt s)) jNo jNo env body b)
    (hH : ∀ F1 a oe pn xc d, HInf P.X.K P.ca F1 a oe xc d → (P.hand F1 a oe pn).GoodH → SSs (P.hand F1 a oe pn) (fun e' r' => ∃ s, EnLe (envL s) (e'.set i none) ∧ r' = after s) jNo jNo (envH.set i (some (.e a d xc))) (b₀ :: suite) (hand xc))
    (hk : ∀ s, SSs P nx bk ct (envL s) rest (after s))
    (hc : Names P.X x cC) (hle : EnLe envH env) (hno : noOwn envH = true := by rfl) (hlen : 1 < envH.length := by exact Nat.succ_lt_succ (Nat.succ_pos _)) (hP : P.envH = [] := by rfl)
    (hst : P.X.stack = P.X.env :: P.X.outer := by rfl) (hfr : P.X.env.frame = some P.X.env.locals := by rfl) (hi : P.X.N[i]? = some n := by rfl) (hln : P.X.env.kindOf n = some .local := by rfl) :
    SSs P nx bk ct env (.Try body [.ExceptHandler (some (.Name x np)) (some n) (b₀ :: suite) pos'] [] [] pos :: rest) (tryC b (fun xc => exCase tbl xc (hand xc)) after P.ret) := fun D hr hn hbk hct σ H ⟨F, a⟩ => by
  have hoP : ∀ F H σ, HOk P F H σ := fun F H σ => ⟨.inl (by rw [hP]; exact Nat.zero_le _), fun i s h => by rw [hP] at h; simp at h⟩
  refine .cons (L2N.ps_try_as hst hfr G.nd hi hln hc tk (tb := fun W D σ H => ∀ pn xe, L2N.Takes (P.X.tr pn xe) W → PassesOwn (model P.X.prog P.X.w) P.X.A P.X.env xe → WSs (P.X.tr pn xe) body D σ H)
    (ts := fun a cls d D σ H => ∀ oe pn, L2N.Zn cls d oe → (∃ vs, oe.data = .fields vs) → WSs (P.X.suite a ((a, oe) :: pn)) (b₀ :: suite) D σ H)
    (fun W pn xe t p => pss_imp fun D σ H h => h pn xe t p) (fun a oe cls d pn z f => pss_imp fun D σ H h => h oe pn z f)) ?_
  intro pn xe t p
  have ae := a.eq
  refine hB pn xe _ t ⟨G.nd, G.calm, p, fun d v F1 H1 e g r => G.rt d v F1 H1 ?_ g r, fun xc F1 H1 σ1 e g ho c d er => ?_, fun e => ?_, (fun d e => nomatch e), G.st⟩ { D with nx := fun σ' H' => WSs P.X rest D σ' H' } hr ?_ (fun _ _ z => z.elim) (fun _ _ z => z.elim) σ H ⟨F, a.go, a.en, ?_, rfl⟩
  · have e' : b = .ok (.ret d) := e
    rw [← ae, e']; rfl
  · -- an exception
    have e' : b = .er xc := e
    rw [e'] at ae
    have ae' : exCase tbl xc (hand xc) = P.res := ae
    unfold exCase at ae'
    have ec : c = .ref (P.ca xc.cls) := er.1
    cases hl : tbl.lookup xc.cls with
    | none => rw [hl] at ae'; exact (G.nb ae'.symm).elim
    | some bb =>
      rw [hl] at ae'
      refine ⟨bb, by rw [ec]; exact hcls _ _ hl, fun hbb a1 ha1 => ?_, fun hbb => ?_⟩
      · subst hbb
        have ae2 : noEr (hand xc) = P.res := ae'
        have hres : hand xc = P.res := by
          cases hh : hand xc with
          | ok z => rw [hh] at ae2; exact ae2
          | er z => rw [hh] at ae2; exact (G.nb ae2.symm).elim
          | bad => rw [hh] at ae2; exact (G.nb ae2.symm).elim
        have hner : ∀ z, P.res ≠ .er z := fun z q => by
          rw [← hres] at q
          rw [q] at ae2
          exact G.nb ae2.symm
        intro oe pn2 z f
        subst ec
        refine hH F1 a1 oe pn2 xc d ⟨z, f⟩ ⟨G.nd, PassesOwn.never, fun d v F H e g2 q => G.rt d v F H e (go_at g g2) q, fun x F H σ e g2 h => absurd e (hner x), G.nb, G.rb, G.st.monoF g.f⟩ _ ?_ ?_ (fun _ _ z => z.elim) (fun _ _ z => z.elim) _ _ ⟨F1, ⟨Le.refl F1, g.h, g.fh, fun _ _ _ n => n⟩, ?_, ⟨.inl (Nat.zero_le _), fun i s h => by cases i <;> cases h⟩, hres⟩
        · exact hr
        · rintro e2 r2 ⟨s, l, rfl⟩ σ2 H2 ⟨F2, a2⟩
          refine hk s D hr hn hbk hct _ H2 ⟨F2, go_at g a2.go, (a2.en.setNone).weak l, hoP _ _ _, a2.eq⟩
        · refine EnOk.setE (hx := er) ⟨g.h, ?_, fun j s hj => ?_, fun j k x y h1 => absurd h1 (noOwn_at hno), G.st.monoF g.f⟩
          · rcases ho.1 with h | h
            · exact absurd (show envH.length ≤ 1 from h) (by omega)
            · exact h
          · obtain ⟨v, h1, h2⟩ := ho.2 j s hj
            refine ⟨v, h1, ?_⟩
            cases s with
            | d x => exact h2
            | b x => exact h2
            | o x => exact absurd hj (noOwn_at hno)
            | p u => exact h2
            | e a dd x => exact h2
      · subst hbb
        exact G.er xc F1 H1 σ1 ae'.symm g (hoP _ _ _) c d er
  · have e' : b = .bad := e
    rw [e'] at ae
    exact G.nb ae.symm
  · rintro e2 r2 ⟨s, l, rfl⟩ σ2 H2 ⟨F2, a2⟩
    have e2 : Fl.nxt s = Fl.nxt s := rfl
    have eb : b = .ok (.nxt s) := a2.eq.symm
    rw [eb] at ae
    exact hk s D hr hn hbk hct σ2 H2 ⟨F2, a2.go, a2.en.weak l, hoP _ _ _, ae⟩
  · refine ⟨.inr (by rw [a.en.len]; exact hle.length.symm), fun j s hj => ?_⟩
    obtain ⟨v, h1, h2⟩ := a.en.at_ j s (hle.get j s hj)
    refine ⟨v, h1, ?_⟩
    cases s with
    | d x => exact h2
    | b x => exact h2
    | o x => trivial
    | p u => exact h2
    | e a dd x => exact h2
end
end Um

namespace Um
open L2 PySem PySem.Spec PyProof.Rows

/-! ## The exception that a suite holds -/
def exIs (tbl : List (Str × Bool)) (x : Exc) : R D := match tbl.lookup x.cls with
  | some b => .ok (.bl b)
  | none => .bad
def exFld (cs : List Str) (f : Str) (x : Exc) : R D := if x.cls ∈ cs then lookD f x.ns x.ds else .bad
theorem call_isX {X0 : Cx} {a D : Addr} {oe : Obj} {d : Option Addr} {pn : List (Addr × Obj)} (C : ExcC X0.K D) (hz : L2N.Zn (.ref D) d oe) (hf : ∃ vs, oe.data = .fields vs) :
    CallR (X0.suite a ((a, oe) :: pn)) (.builtin "isinstance") (fun xs H Q => ∃ (c : V) (cv : Value) (b : Bool), xs = [.ref a, c] ∧ (∀ u, RelV c u → u = cv) ∧ PySem.W.kitOne X0.K (.ref D) cv = some b ∧ (d = none ∨ ∃ dd fs, d = some dd ∧ H dd = some (.xd fs)) ∧ Q (.bl b) H) := by
  intro pins s σ H xs us Q I r h
  obtain ⟨c, cv, b, rfl, hcv, e, hd, q⟩ := h
  cases r with
  | cons rx rr =>
    cases rr with
    | cons rt rr =>
      cases rr
      cases rx
      have ec := hcv _ rt
      subst ec
      obtain ⟨hget, _⟩ := I.pin (a, oe) (List.mem_append.mpr (.inl List.mem_cons_self))
      obtain ⟨vs, hv⟩ := hf
      have hcl : (PySem.W.clsIn X0.K D).isSome = true := by
        obtain ⟨cd, hc, _⟩ := PySem.W.any_some C.hd
        rw [hc]; rfl
      have fin : ∀ {od : Option Obj}, PySem.W.InstAt s.heap a oe D od → wpAny (model X0.prog X0.w) (X0.A.mark (some (.ref a))) (call (.builtin "isinstance") [.ref a, _]) (EP (X0.suite a ((a, oe) :: pn)) pins σ Q) (fun _ _ => False) s := fun {od} J =>
        PySem.W.kia_one (PySem.W.kitx_exc hcl C.hg C.hk C.hs C.ha C.hn C.ht C.hm) I.kIn J e (fun z => nomatch z) fun tk => ⟨.bl b, H, I.kept (t' := tk) fun _ _ z => z, rfl, q⟩
      rcases hd with rfl | ⟨dd, fs, rfl, hdd⟩
      · refine fin (od := none) ?_
        obtain ⟨oc, od, oda, osl⟩ := oe
        obtain ⟨h1, h2, _⟩ := hz
        dsimp only at h1 h2 hv
        subst h1 h2 hv
        exact ⟨hget, rfl, rfl, trivial⟩
      · have hx : ObjOk X0.prog X0.w H s.heap dd (.xd fs) := I.hok dd _ hdd
        obtain ⟨mA, hns, hr⟩ := hx
        obtain ⟨od, ho, hl⟩ := lookIn_ns hns
        exact fin (od := some od) ⟨hget, hz.1, by unfold PySem.W.notCls; rw [hv] <;> rfl, by rw [hz.2.1]; exact ho⟩
section
variable {ca : Ca} {X0 : Cx} {W : WX} {H0 F1 : Hp} {env : En} {a : Addr} {oe : Obj} {pn : List (Addr × Obj)} {xc : Exc} {d : Option Addr} {i : Nat} {n : Str} {p p1 pos : Pos}
theorem exr_dict {K : PySem.W.Frag} {F H : Hp} {c : Value} (le : Le F H) (h : ExcRep K ca F c d xc) : d = none ∨ ∃ dd fs, d = some dd ∧ H dd = some (.xd fs) := by
  rcases h.2 with ⟨_, _, e⟩ | ⟨p, fs, e, h1, _, _⟩
  · exact .inl e
  · exact .inr ⟨p, fs, e, le _ _ h1⟩
/-- isinstance(e, C) -/
theorem se_isE (I : HInf X0.K ca F1 a oe xc d) {ce : Expr} {dc : D} {cv : Value} (tbl : List (Str × Bool)) (hT : ∀ c bb, tbl.lookup c = some bb → ExcC X0.K (ca c) ∧ PySem.W.kitOne X0.K (.ref (ca c)) cv = some bb)
    (hce : SE ca (X0.suite a ((a, oe) :: pn)) W H0 .v env ce (.ok dc)) (hcv : ∀ F v u, Rep X0.K ca F v dc → RelV v u → u = cv) (hm : X0.mg "isinstance" = none) (he : env[i]? = some (some (.e a d xc)) := by rfl) (hN : X0.N[i]? = some n := by rfl)
    (hg : Gl (X0.suite a ((a, oe) :: pn)) "isinstance" := by rfl) (hv : bootBuiltins "isinstance" = some (.builtin "isinstance") := by decide +kernel)
    (hvs : Vis X0.env.scope n := by first | exact Or.inl rfl | exact Or.inr (Or.inl rfl) | exact Or.inr (Or.inr rfl)) (hd : (n == ("__debug__" : Str)) = false := by decide) (hcd : (n == ("__classdict__" : Str)) = false := by decide)
    (hs1 : starEach [.Name n p1, ce] X0.env = (false, eval (.Name n p1) X0.env) :: starEach [ce] X0.env := by rfl) (hs2 : starEach [ce] X0.env = (false, eval ce X0.env) :: starEach [] X0.env := by rfl)
    (hpl : (backTo pos (starEach [ce] X0.env)).any (·.1) = false := by rfl) :
    SE ca (X0.suite a ((a, oe) :: pn)) W H0 .v env (.Call (.Name "isinstance" p) [.Name n p1, ce] [] pos) (exIs tbl xc) := fun F H σ Q le ok hp => by
  unfold exIs at hp
  cases hl : tbl.lookup xc.cls with
  | none => rw [hl] at hp; exact hp.elim
  | some b =>
    rw [hl] at hp
    obtain ⟨hC, hk⟩ := hT _ _ hl
    refine ⟨_, pe_callB (call_isX hC I.z I.f) hg hm hv (pa_cons (pe_var (X := X0.suite a ((a, oe) :: pn)) hN hvs hd hcd) (pa_cons pe_W pa_nil hs2) hs1) (by decide) (by decide) hs1 hpl, ?_⟩
    obtain ⟨v, h1, h2, hx⟩ := ok.at_ i _ he
    subst h2
    refine ⟨_, h1, ?_⟩
    refine hce F H σ _ le ok ?_
    intro v' F' H' g q
    exact ⟨v', cv, b, rfl, fun u hu => hcv F' v' u q hu, hk, exr_dict g.fh (ExcRep.mono _ _ g.f hx), hp _ F' H' g (.bl b)⟩
/-- e.f -/
theorem se_fldE (I : HInf X0.K ca F1 a oe xc d) {f : Str} (cs : List Str) (hT : ∀ c, c ∈ cs → XfC X0.K (ca c) ∧ PySem.W.findIn X0.K (.ref (ca c)) f = some none) (he : env[i]? = some (some (.e a d xc)) := by rfl) (hN : X0.N[i]? = some n := by rfl)
    (hvs : Vis X0.env.scope n := by first | exact Or.inl rfl | exact Or.inr (Or.inl rfl) | exact Or.inr (Or.inr rfl)) (hd : (n == ("__debug__" : Str)) = false := by decide) (hcd : (n == ("__classdict__" : Str)) = false := by decide)
    (hb : attributeBase (.Name n p1) f X0.env (eval (.Name n p1) X0.env) = eval (.Name n p1) X0.env := by rfl) :
    SE ca (X0.suite a ((a, oe) :: pn)) W H0 .v env (.Attribute (.Name n p1) f pos) (exFld cs f xc) := fun F H σ Q le ok hp => by
  unfold exFld at hp
  split at hp
  · rename_i hc
    obtain ⟨hX, hno⟩ := hT _ hc
    obtain ⟨v, h1, h2, hx⟩ := ok.at_ i _ he
    subst h2
    refine ⟨_, pe_xf hX hno I.z.zc I.f (pe_var (X := X0.suite a ((a, oe) :: pn)) hN hvs hd hcd) hb, _, h1, rfl, rfl, ?_⟩
    rcases hx.2 with ⟨e1, e2, _⟩ | ⟨dd, fs, e, h3, h4, r⟩
    · rw [e1, e2] at hp; exact hp.elim
    · rw [← h4] at hp
      cases hl : lookD f (fs.map (·.1)) xc.ds with
      | ok y =>
        obtain ⟨u, h5, h6⟩ := lookD_ok r hl
        rw [hl] at hp
        exact ⟨dd, fs, u, e, le _ _ h3, h5, hp u F H (Go.refl le) h6⟩
      | er x => exact absurd hl lookD_er
      | bad => rw [hl] at hp; exact hp.elim
  · exact hp.elim
end
/-! ## A constructor that may raise -/
/-- an exception with a name passes -/
def exOk {β : Type} : R β → R β
  | .er x => if x.cls = Str.empty then .bad else .er x
  | r => r
@[simp] theorem exOk_ok {β : Type} (a : β) : exOk (.ok a) = .ok a := (Eq.refl _).trans (Eq.refl _)
theorem exOk_er {β : Type} {x : Exc} (h : x.cls ≠ Str.empty) : exOk (.er x : R β) = .er x := if_neg h
def tMakeKS (C : Addr) (n m : Nat) (sp : Sp) (gV : List V → List V → List V) (E : L2.St → XK) (t tk : TA) : TE := fun σ H Q => t σ H fun vs H1 => tk σ H1 fun zs H2 => vs.length = n ∧ zs.length = m ∧ ∀ x dx, H2 x = none → H2 dx = none → dx ≠ x →
  sp (gV (.ref x :: vs) zs) (upd (upd H2 dx (.own x)) x (.ins C dx [])) (fun v H3 => v = .non ∧ Q (.ref x) H3) (E σ)
section
variable {X : Cx} {CX : CXT} {k n : Nat} {f C : Addr} {fd : FuncData} {ps ks : List Str} {sp : Sp} {E : L2.St → XK} {x : Str} {p pos : Pos} {e : Expr} {es : List Expr} {kws : List Keyword} {t tk : TA} {g : List Value → List Value → List Value} {gV : List V → List V → List V}
theorem run_makeKS {pins : List (Addr × Obj)} {σ : L2.St} {H : Hp} {s : Shared} {Q : VK} {us ws : List Value} {vs zs : List V} {E : XK} (M : Mk X.K C f) (F : FnOk X.prog X.w X.K X.mg X.base CX k f fd ps sp) (hr : Room (k + 1) X.A) (hb : KBn X.K fd ps (n + 1) ks g gV) (hx : PassesAt CX X σ E)
    (I : Inv X pins σ H s) (r : Vals vs us) (rz : Vals zs ws) (l1 : vs.length = n) (l2 : zs.length = ks.length)
    (h : ∀ x dx, H x = none → H dx = none → dx ≠ x → sp (gV (.ref x :: vs) zs) (upd (upd H dx (.own x)) x (.ins C dx [])) (fun v H2 => v = .non ∧ Q (.ref x) H2) E) :
    wpAny (model X.prog X.w) X.A (call (.ref C) us (ks.zip ws)) (EP X pins σ Q) X.xe s := by
  have hq := h (s.heap.objs.size + 1) s.heap.objs.size (I.hok.fresh (Nat.le_succ _)) (I.hok.fresh (Nat.le_refl _)) (Nat.ne_of_lt (Nat.lt_succ_self _))
  have I2 := Inv.made (C := C) I
  have r1 : Vals (V.ref (s.heap.objs.size + 1) :: vs) (Value.ref (s.heap.objs.size + 1) :: us) := .cons rfl r
  have n1 : (Value.ref (s.heap.objs.size + 1) :: us).length = n + 1 := by rw [List.length_cons, ← r.length, l1]
  refine wpAny_call (make_map (f := f) I.kIn M.makes M.init (beq_iff_eq.mp M.fn) (codeAny_mono (F.run _ X.stack _ _ ⟨Value.ref (s.heap.objs.size + 1) :: us, ks.zip ws⟩ (g (Value.ref (s.heap.objs.size + 1) :: us) ws) _ _ E (hr.make C us (ks.zip ws))
    (I2.env0.make C us (ks.zip ws)) (hb.to _ (Value.ref (s.heap.objs.size + 1) :: us) ws I2.kIn n1 (rz.length.symm.trans l2)) (hb.rel r1 rz) hq) fun r s' hq' => ?_))
  cases r with
  | error e => exact hx pins _ _ e s' I2 hq'
  | ok fl =>
    cases fl with
    | ret u =>
      obtain ⟨v, H', I3, rv, ev, q3⟩ := I2.after hq'
      subst ev
      exact ⟨rv, ⟨V.ref (s.heap.objs.size + 1), H', I3, rfl, q3⟩⟩
    | next => exact False.elim hq'
    | brk => exact False.elim hq'
    | cont => exact False.elim hq'
theorem pe_makeKS (M : Mk X.K C f) (F : FnOk X.prog X.w X.K X.mg X.base CX k f fd ps sp) (hr : Room (k + 1) X.A) (hg : Gl X x) (hm : X.mg x = some (.ref C)) (hb : KBn X.K fd ps (n + 1) ks g gV) (hx : ∀ σ, PassesAt CX X σ (E σ)) (ha : PA X (e :: es) t) (hkw : PK X kws tk)
    (hall : (backToKw pos (keywordEach kws X.env)).all (·.1.isSome) = true := by rfl) (hks : (backToKw pos (keywordEach kws X.env)).filterMap (·.1) = ks := by rfl) (hdb : (x == ("__debug__" : Str)) = false := by decide)
    (he : starEach (e :: es) X.env = (false, eval e X.env) :: starEach es X.env := by rfl) (hpl : ((backTo pos (starEach (e :: es) X.env)).any (·.1) || (backToKw pos (keywordEach kws X.env)).any (·.1.isNone)) = false := by rfl) :
    PE X (.Call (.Name x p) (e :: es) kws pos) (tMakeKS C n ks.length sp gV E t tk) := by
  refine ⟨fun pins s σ H Q I h => ?_⟩
  refine wpAny_Call_Name_kw (ld_glob I hg hm ?_ hdb)
  refine PySem.W.callWith_KW (h₀ := X.base) I.ok.mod.kin M.kp hall (thn (ha.run pos pins s σ H _ I h) fun us s1 ⟨vs, H1, I1, r, q⟩ => ?_) hpl he
  refine thn (hkw.run pos pins s1 σ H1 _ I1 q) fun ws s2 ⟨zs, H2, I2, rz, l1, l2, q2⟩ => ⟨I2.kIn, ?_⟩
  rw [hks]
  exact run_makeKS M F hr hb (hx σ) I2 r rz l1 l2 q2
end
section
variable {ca : Ca} {X : Cx} {W : WX} {H0 : Hp} {env : En} {e : Expr}
theorem se_makeS {c : Str} {n k np : Nat} {ms pm km : List Md} {ks : List Str} {f : List D → R D} {aD : List D → List D → List D} {p pos : Pos} {es : List Expr} {kws : List Keyword} {rs rk : R (List D)} (Df : IWay X.prog X.w X.K X.mg X.base ca c n ms f np ks pm km aD) (hr : Room k X.A) (tk : L2N.Takes X W)
    (ha : SA ca X W H0 pm env (e :: es) rs) (hk : SK ca X W H0 km env kws rk) (hl1 : pm.length = np := by rfl) (hl2 : km.length = ks.length := by rfl) (hnk : n + 1 ≤ k := by decide) (hg : Gl X c := by rfl) (hdb : (c == ("__debug__" : Str)) = false := by decide)
    (hall : (backToKw pos (keywordEach kws X.env)).all (·.1.isSome) = true := by rfl) (hks : (backToKw pos (keywordEach kws X.env)).filterMap (·.1) = ks := by rfl)
    (he : starEach (e :: es) X.env = (false, eval e X.env) :: starEach es X.env := by rfl) (hpl : ((backTo pos (starEach (e :: es) X.env)).any (·.1) || (backToKw pos (keywordEach kws X.env)).any (·.1.isNone)) = false := by rfl) :
    SE ca X W H0 .o env (.Call (.Name c p) (e :: es) kws pos) (rs.bind fun ds => rk.bind fun zs => exOk (f (aD ds zs))) := fun F H σ Q le ok hp => by
  obtain ⟨fI, fd, ps, gg, gV, aV, M, G, gm, b, hgV, hA⟩ := Df.ex
  refine ⟨_, pe_makeKS M G (hr.mono hnk) hg gm b (fun σ => L2N.passAt tk σ) pa_W pk_W hall hks hdb he hpl, ?_⟩
  refine ha.then le ok hp fun ds vs F1 H1 _ g1 q1 ok1 hp1 => ?_
  refine hk F1 H1 σ _ g1.fh ok1 ?_
  cases rk with
  | er x => exact hp1
  | bad => exact hp1
  | ok zs =>
    intro ws F2 H2 g2 q2
    have hp2 : Post X.K ca .o (ekOf X.K ca W σ) F1 H1 (exOk (f (aD ds zs))) Q := hp1
    have q1' := q1.mono g2
    refine ⟨by rw [← ars_len q1', hl1], by rw [← ars_len q2, hl2], fun x dx hx hdx hne => ?_⟩
    rw [hgV]
    have gd : Go F2 H2 F2 (upd H2 dx (.own x)) := Go.hid g2.fh hdx _
    have hxn : (upd H2 dx (.own x)) x = none := by rw [upd_ne (fun e => hne e.symm)]; exact hx
    refine ⟨F2, upd H2 dx (.own x), x, dx, aV vs ws, aD ds zs, rfl, gd.fh, Le.new hxn, hxn, upd_same, hA.ok F2 _ _ _ _ _ (q1'.mono gd) (q2.mono gd), ok1.stH (g2.trans gd), ?_⟩
    cases hf : f (aD ds zs) with
    | er z =>
      rw [hf] at hp2
      by_cases hz : z.cls = Str.empty
      · rw [show exOk (R.er z : R D) = .bad from if_pos hz] at hp2; exact hp2.elim
      · rw [exOk_er hz] at hp2
        exact ⟨hz, fun F' H' g3 c d er => hp2 F' H' ((g2.trans gd).trans g3) c d er⟩
    | bad => rw [hf] at hp2; exact hp2.elim
    | ok d =>
      rw [hf] at hp2
      intro F' H' g3 n3 o3
      refine ⟨rfl, hp2 (.ref x) F' H' ((g2.trans gd).trans g3) ⟨x, rfl, g2.h.free hx, n3, o3⟩⟩
end
/-! ## For the printed texts -/
inductive AllP (Q : Str → Bool → Prop) : List (Str × Bool) → Prop
  | nil : AllP Q []
  | cons {c : Str} {b : Bool} {l : List (Str × Bool)} (h : Q c b) (r : AllP Q l) : AllP Q ((c, b) :: l)
theorem AllP.lk {Q : Str → Bool → Prop} {l : List (Str × Bool)} (h : AllP Q l) : ∀ c b, l.lookup c = some b → Q c b := by
  induction h with
  | nil => intro c b h; cases h
  | @cons c' b' l h r ih =>
    intro c b hl
    rw [List.lookup_cons] at hl
    by_cases e : c == c'
    · rw [e] at hl
      have e2 : c = c' := eq_of_beq e
      subst e2
      cases hl
      exact h
    · rw [show (c == c') = false from by simpa using e] at hl
      exact ih c b hl
theorem hcv_cl {K : PySem.W.Frag} {ca : Ca} {c : Str} : ∀ F v u, Rep K ca F v (.cl c) → RelV v u → u = Value.ref (ca c) := fun F v u h r => by
  cases h; exact r
theorem hcv_ty {K : PySem.W.Frag} {ca : Ca} {n : String} : ∀ F v u, Rep K ca F v (.ty n) → RelV v u → u = Value.type n := fun F v u h r => by
  cases h; exact r
section
variable {α : Type} {P : Pt α} {nx bk ct : Jp α} {env : En} {rest : List Stmt}
theorem ss_tryJ (G : P.Good) (tk : L2N.Takes P.X P.W) {S : Type} {i : Nat} {n x : Str} {cC : Value} {body suite : List Stmt} {b₀ : Stmt} {np pos pos' : Pos} {b : R (Fl S)} {hand : (S → R α) → Exc → R α} {after : S → R α} (envH : En) (envL : S → En) (tbl : List (Str × Bool))
    (hcls : ∀ c bb, tbl.lookup c = some bb → PySem.W.exmOne P.X.K (.ref (P.ca c)) cC = some bb)
    (hB : ∀ pn xe W, L2N.Takes (P.X.tr pn xe) W → (P.body pn xe W envH b).Good → SSs (P.body pn xe W envH b) (jOf envL fun s => .ok (.nxt s)) jNo jNo env body b)
    (hH : ∀ K F1 a oe pn xc d, HInf P.X.K P.ca F1 a oe xc d → (P.hand F1 a oe pn).GoodH → SSs (P.hand F1 a oe pn) (fun e' r' => ∃ s, EnLe (envL s) (e'.set i none) ∧ r' = K s) jNo jNo (envH.set i (some (.e a d xc))) (b₀ :: suite) (hand K xc))
    (hk : ∀ s, SSs P nx bk ct (envL s) rest (after s))
    (hc : Names P.X x cC) (hle : EnLe envH env) (hno : noOwn envH = true := by rfl) (hlen : 1 < envH.length := by exact Nat.succ_lt_succ (Nat.succ_pos _)) (hP : P.envH = [] := by rfl)
    (hst : P.X.stack = P.X.env :: P.X.outer := by rfl) (hfr : P.X.env.frame = some P.X.env.locals := by rfl) (hi : P.X.N[i]? = some n := by rfl) (hln : P.X.env.kindOf n = some .local := by rfl) :
    SSs P nx bk ct env (.Try body [.ExceptHandler (some (.Name x np)) (some n) (b₀ :: suite) pos'] [] [] pos :: rest) (joinC (fun k => tryC b (fun xc => exCase tbl xc (hand k xc)) k P.ret) after) :=
  ss_try G tk envH envL tbl hcls hB (fun F1 a oe pn xc d I GH => hH after F1 a oe pn xc d I GH) hk hc hle hno hlen hP hst hfr hi hln
end
end Um
namespace Um
open L2 PySem PySem.Spec PyProof.Rows
section
variable {α : Type} {P : Pt α} {nx bk ct : Jp α} {env : En} {rest : List Stmt}
/-- an expression for its doing alone -/
theorem ss_expr (G : P.GoodH) {e : Expr} {re : R D} {k : D → R α} {pos : Pos} (h : SE P.ca P.X P.W P.H0 .r env e re) (hk : ∀ d, SSs P nx bk ct env rest (k d)) (hs : swapsWith e none pos.line P.X.env = pure false := by rfl) : SSs P nx bk ct env (.Expr e pos :: rest) (re.bind k) := fun D hr hn hb hc σ H ⟨F, a⟩ => by
  refine .cons (ps_expr pe_W hs) ?_
  exact a.ev G h fun d v F' H' _ g q a' => hk d D hr hn hb hc σ H' ⟨F', a'⟩
end
end Um
namespace Um
open L2 PySem PySem.Spec PyProof.Rows
theorem kit_self {K : PySem.W.Frag} {C : Addr} : PySem.W.kitOne K (.ref C) (.ref C) = some true := by
  unfold PySem.W.kitOne
  rw [if_pos (beq_self_eq_true _)]
theorem kit_ref {K : PySem.W.Frag} {c C : Addr} {b : Bool} (hn : (Value.ref c == Value.ref C) = false) (hdct : PySem.W.hasDictIn K C = true) (ht : PySem.W.typeIn K (.ref C) = some (.type "type")) (hs : PySem.W.subIn K (.ref c) (.ref C) = some b) : PySem.W.kitOne K (.ref c) (.ref C) = some b := by
  obtain ⟨cd, hc, _⟩ := PySem.W.any_some hdct
  have e2 : ((PySem.W.clsIn K C).isSome && PySem.W.typeIn K (.ref C) == some (.type "type")) = true := by rw [hc, ht]; rfl
  unfold PySem.W.kitOne
  rw [hn, if_neg Bool.false_ne_true]
  show (if ((PySem.W.clsIn K C).isSome && PySem.W.typeIn K (.ref C) == some (.type "type")) = true then PySem.W.subIn K (.ref c) (.ref C) else none) = some b
  rw [if_pos e2]; exact hs
theorem kit_ty {K : PySem.W.Frag} {c : Addr} {T : String} {b : Bool} (hm : PySem.W.kitMeta T = true) (hs : PySem.W.subIn K (.ref c) (.type T) = some b) : PySem.W.kitOne K (.ref c) (.type T) = some b := by
  unfold PySem.W.kitOne
  rw [if_neg (show ¬ (Value.ref c == Value.type T) = true from by simp)]
  show (if PySem.W.kitMeta T = true then PySem.W.subIn K (.ref c) (.type T) else none) = some b
  rw [if_pos hm]; exact hs
end Um

namespace Um
open L2 PySem PySem.Spec PyProof.Rows
section
variable {α : Type} {P : Pt α} {nx bk ct : Jp α} {env : En} {rest : List Stmt}
/-! ### xs.insert(i, e) -/
def dIns (xs : List D) (i d : D) : R D := match i with
  | .int k => if 0 ≤ k ∧ k < 2 ^ 63 ∧ xs.length < sizeLine then .ok (.lst (xs.take k.toNat ++ [d] ++ xs.drop k.toNat)) else .bad
  | _ => .bad
theorem ss_ins (G : P.GoodH) {i : Nat} {x : Str} {e ix : Expr} {re ri : R D} {k : D → R α} {d0 : D} {px apos cpos pos : Pos} (hi : SE P.ca P.X P.W P.H0 .r env ix ri) (h : SE P.ca P.X P.W P.H0 .v env e re) (he : env[i]? = some (some (.o d0)) := by rfl)
    (hk : ∀ d, SSs P nx bk ct (env.set i (some (.o d))) rest (k d)) (hN : P.X.N[i]? = some x := by rfl)
    (hv : Vis P.X.env.scope x := by first | exact Or.inl rfl | exact Or.inr (Or.inl rfl) | exact Or.inr (Or.inr rfl)) (hd : (x == ("__debug__" : Str)) = false := by decide) (hcd : (x == ("__classdict__" : Str)) = false := by decide)
    (hs : starEach [ix, e] P.X.env = (false, eval ix P.X.env) :: starEach [e] P.X.env := by rfl) (hs2 : starEach [e] P.X.env = (false, eval e P.X.env) :: starEach [] P.X.env := by rfl)
    (hbase : attributeBase (.Name x px) "insert" P.X.env (eval (.Name x px) P.X.env) = eval (.Name x px) P.X.env := by rfl)
    (hfew : ((backTo cpos (starEach [ix, e] P.X.env)).all (fun x => !x.1) && (backToKw cpos (keywordEach [] P.X.env)).all (fun x => x.1.isSome)
      && decide ([ix, e].length + ([] : List Keyword).length + (if ([] : List Keyword).isEmpty then 0 else 1) < 30)) = true := by rfl)
    (hline : (apos.endLine == cpos.line) = true := by rfl) (hplain : (backTo cpos (starEach [e] P.X.env)).any (·.1) = false := by rfl) :
    SSs P nx bk ct env (.Expr (.Call (.Attribute (.Name x px) "insert" apos) [ix, e] [] cpos) pos :: rest) ((lstOf d0).bind fun xs => ri.bind fun j => re.bind fun d => (dIns xs j d).bind k) := fun D hr hn hb hct σ H ⟨F, a⟩ => by
  obtain ⟨v, h1, p, e1, n, f, o⟩ := a.en.at_ i _ he
  subst e1
  obtain ⟨xs, rfl⟩ := lstOf_ok (by rw [a.eq]; exact G.nb)
  refine .cons (ps_expr (pe_bm PySem.F.plainAttrs_list PySem.F.slot_list_insert PySem.F.type_list_insert mt_insert (pe_var hN hv hd hcd) (pa_cons pe_W (pa_cons pe_W pa_nil hs2) hs) hbase hfew hline hs hplain)) ?_
  obtain ⟨vs, hl, r⟩ := ownLst o
  refine ⟨_, h1, .inl ⟨rfl, vs, .inl (.inl hl)⟩, ?_⟩
  have a0 : AtF P F env (ri.bind fun j => re.bind fun d => (dIns xs j d).bind k) σ H := ⟨a.go, a.en, a.ho, a.eq⟩
  refine a0.ev G hi fun j u F' H' _ g q a' => ?_
  refine a'.ev G h fun d w F2 H2 _ g2 q2 a2 => ?_
  have ae := a2.eq
  have g3 := g.trans g2
  unfold dIns at ae
  cases j with
  | int jj =>
    dsimp only at ae
    split at ae
    · rename_i hz
      rw [ar_int q]
      refine ⟨p, vs, jj, w, rfl, rfl, g3.h _ _ hl, by rw [r.length]; exact hz.2.2, hz.1, hz.2.1, ?_⟩
      exact hk _ D hr hn hb hct σ _ ⟨F2, (⟨a2.go, a2.en, a2.ho, ae⟩ : AtF P F2 env (k (.lst (xs.take jj.toNat ++ [d] ++ xs.drop jj.toNat))) σ H2).mut he h1 n (g3.fr p _ hl f) (.inl ⟨_, _, rfl, upd_same, (((r.mono g3.f).take jj.toNat).append (.cons q2 .nil)).append ((r.mono g3.f).drop jj.toNat)⟩)⟩
    · exact absurd ae.symm G.nb
  | _ => exact absurd ae.symm G.nb
end
/-! ### t <= u, two tuples of ints -/
def leL (a b : List Int) : Bool := Ob.lexAt (fun j => decide (a.getD j 0 = b.getD j 0)) (fun j => decide (a.getD j 0 ≤ b.getD j 0)) (decide (a.length ≤ b.length)) 0 (min a.length b.length)
def dLeT (x y : D) : R Bool := match x with
  | .tup xs => (match y with
    | .tup ys => (match intsOf xs, intsOf ys with
      | some a, some b => .ok (leL a b)
      | _, _ => .bad)
    | _ => .bad)
  | _ => .bad
theorem ob_leT {ca : Ca} {X : Cx} (hu0 : X.A.units + 65 < cLine) : OB ca X (compareOp .LtE) dLeT := fun E F H x y dx dy Q le hx hy hp => by
  unfold dLeT at hp
  split at hp
  · split at hp
    · split at hp
      · rename_i a b ea eb
        obtain ⟨p, vs, rfl, h1, r1⟩ := ar_tup hx
        obtain ⟨q, ws, rfl, h2, r2⟩ := ar_tup hy
        rw [intsOf_eq ea] at r1
        rw [intsOf_eq eb] at r2
        rw [r1.ints_inv] at h1
        rw [r2.ints_inv] at h2
        exact ⟨_, op_leT (Nat.lt_of_le_of_lt (Nat.le_add_right _ _) hu0), p, q, a, b, rfl, rfl, le.t h1.t, le.t h2.t, hp F H (Go.refl le)⟩
      · exact hp.elim
    · exact hp.elim
  · exact hp.elim
theorem lexAt_shift (e r : Nat → Bool) (z : Bool) : ∀ (k i : Nat), Ob.lexAt e r z (i + 1) k = Ob.lexAt (fun j => e (j + 1)) (fun j => r (j + 1)) z i k
  | 0, _ => rfl
  | k + 1, i => by rw [Ob.lexAt_succ, Ob.lexAt_succ, lexAt_shift e r z k (i + 1)]
theorem leL_nil (b : List Int) : leL [] b = true := by
  unfold leL
  rw [show min ([] : List Int).length b.length = 0 by simp, Ob.lexAt_zero]
  simp
theorem leL_nil' (x : Int) (a : List Int) : leL (x :: a) [] = false := by
  unfold leL
  rw [show min (x :: a).length ([] : List Int).length = 0 by simp, Ob.lexAt_zero]
  simp
theorem leL_cons (x y : Int) (a b : List Int) : leL (x :: a) (y :: b) = if x = y then leL a b else decide (x ≤ y) := by
  unfold leL
  rw [show min (x :: a).length (y :: b).length = min a.length b.length + 1 by simp only [List.length_cons]; omega, Ob.lexAt_succ, lexAt_shift]
  have e0 : (decide ((x :: a).getD 0 0 = (y :: b).getD 0 0) = true) = (x = y) := by simp
  by_cases h : x = y
  · rw [if_pos (by simpa using h), if_pos h]; simp
  · rw [if_neg (by simpa using h), if_neg h]; rfl
end Um

namespace Um
open L2 PySem PySem.Spec PyProof.Rows PySem.W PySem.Calls

/-! ## Own exceptions whose __init__ says super().__init__(text) and stores its arguments -/
section
variable {prog : Program} {w : World} {A : Around} {E : Value → Shared → Prop} {R : Result → Shared → Prop} {s : Shared} {K : PySem.W.Frag} {mg : Str → Option Value} {C : Addr}
/-- ValueError.__init__, bound to e, called -/
theorem call_mw {u e t0 : Addr} {rest : List Value} {Q : Value → Shared → Prop} (T : OexC K C) (X : K.In s.heap) (hu : s.heap.get? u = some (kxs_mw "ValueError.__init__" e)) (he : s.heap.get? e = some (excObj C t0 none .none)) (hz : rest.length ≤ sizeLine)
    (hq : ∀ h' t1, (∀ b o, b ≠ e → s.heap.get? b = some o → h'.get? b = some o) → h'.get? e = some (excObj C t1 none .none) → Q .none { s with heap := h' }) :
    wpAny (model prog w) A (call (.ref u) rest) Q E s := by
  obtain ⟨nm, q, N, bs, bm, sn, sub, ab, col, dd, k0, k1, k2, k3, k5, hC, hbm⟩ := T.cls
  have hC' := X _ _ hC
  obtain ⟨hh, g, d, tk, os⟩ := s
  refine wpAny_call (codeAny_of_tree ?_)
  show wpAny _ A.in1 (callAny (.ref u) ⟨rest, []⟩) _ _ _
  simp only [callAny]
  refine wpAny_bind (wpAny_load hu ?_)
  simp only [kxs_mw, show (Value.type "method-wrapper" == Value.type "method" || Value.type "method-wrapper" == Value.type "builtin_function_or_method" || Value.type "method-wrapper" == Value.type "method-wrapper") = true by decide, if_true]
  refine KFB.if_so (by decide) ?_
  refine wpAny_bind (check_bound_init F.excBase_ValueError.toExcCallFacts hC' he rfl ?_)
  refine wpAny_bind (wpAny_pure (wpAny_pure ?_))
  refine ⟨plainId_quiet F.excBase_ValueError.init.plain _, codeAny_builtin F.excBase_ValueError.initEntry ?_⟩
  exact exc_init_tree (cls := .ref C) (t0 := t0) (dv := none) (c2 := .none) (c3 := .none) (b4 := .bool false) he hz fun h' k e' _ => hq h' _ k e'
end
/-- the def __init__ of such a class, as the written part has it -/
structure XiF (prog : Program) (K : PySem.W.Frag) (C fI : Addr) (fs : List Str) (params : Arguments) (body : List Stmt) (scope : Scope) (qual : Str) : Prop where
  ho : ∃ (oc : Value) (od : Option Addr) (doc pm : Value) (an : Option Addr) (cda : Addr) (ct : Value) (cc : Addr) (osl : Array (Option Value)) (ccl : Value) (cdd : Option Addr) (vs : Array Value) (ccs : Array (Option Value)) (file : Str) (tf : Tok) (cl : Value) (cld : Option Addr) (csl : Array (Option Value)),
    K.lookup fI = some ⟨oc, od, .func (ksFn "__init__" qual params body scope .none .none doc pm an (.ref cda) ct cc), osl⟩ ∧ codeIn K (.ref cda) qual = true ∧ K.lookup cda = some ⟨ccl, cdd, .fields vs, ccs⟩ ∧ vs[2]? = some (.str file tf) ∧
    ((prog.main.file : Str) == file) = true ∧ K.lookup cc = some ⟨cl, cld, .cell (some (.ref C)), csl⟩
/-- what the written part says of the class at C -/
structure XiC (prog : Program) (K : PySem.W.Frag) (mg : Str → Option Value) (C fI : Addr) (x : Str) (fs : List Str) : Prop where
  gC : mg x = some (.ref C)
  o : OexC K C
  sup : mg "super" = none
  noN : ∀ f ∈ fs, findIn K (.ref C) f = some none
  iC : findIn K (.ref C) "__init__" = some (some (.ref fI))
  tC : typeIn K (.ref fI) = some (.type "function")
  op : nsIn K cStatics "thirdparty.any" = some none
  sI : ks_superIn K C C "__init__" = some (some (.builtin "ValueError.__init__"))
  vE : subIn K (.ref C) (.type "ValueError") = some true
  mE : mroIn K C (.ref C) = some true
section
variable {prog : Program} {w : World} {A : Around} {E : Value → Shared → Prop} {R : Result → Shared → Prop} {s : Shared} {K : PySem.W.Frag} {mg : Str → Option Value} {C fI : Addr} {x : Str} {fs : List Str} {params : Arguments} {scope : Scope} {qual : Str} {rest : List Stmt}
/-- the state behind super().__init__(text) -/
structure XiAt (s : Shared) (m : Str → Option Value) (C a : Addr) (h1 : Heap) : Prop where
  ns : h1.Ns s.heap.objs.size m
  keep : ∀ b o, b ≠ a → s.heap.get? b = some o → h1.get? b = some o
  obj : ∃ t1, h1.get? a = some (excObj C t1 none .none)
  big : s.heap.objs.size < h1.objs.size
/-- the call's reading: super().__init__(text) -/
structure XiEv (qual : Str) (scope : Scope) (o : Expr) (p2 p4 p5 : Pos) (c : Expr) : Prop where
  ev : ∀ (L fa : Addr) (cd : Value) (cc : Addr), ∃ pl : Sem Bool, eval (.Call (.Attribute o "__init__" p2) [c] [] p4) (ksEnv qual scope L fa cd cc) = (do
      let ov ← attributeBase o "__init__" (ksEnv qual scope L fa cd cc) (eval o (ksEnv qual scope L fa cd cc))
      PySem.standAt p2.atName
      let (f, first) ← holding [ov] (getMethod ov "__init__" pl)
      callWith p4 f first (backTo p4 (starEach [c] (ksEnv qual scope L fa cd cc))) [])
  int : ∀ (L fa : Addr) (cd : Value) (cc : Addr), interactive (ksEnv qual scope L fa cd cc) = false
  sw : ∀ (L fa : Addr) (cd : Value) (cc : Addr), swapsWith (.Call (.Attribute o "__init__" p2) [c] [] p4) none p5.line (ksEnv qual scope L fa cd cc) = pure false
theorem xi_enter {m : Str} {j : Nat} {p0 p1 p2 p3 p4 p5 : Pos} {a t0 : Addr} {args : Args} {binds : List (Str × Value)} {ar : Arg}
    (T : XiC prog K mg C fI x fs) (F : XiF prog K C fI fs params (.Expr (.Call (.Attribute (.Call (.Name "super" p0) [] [] p1) "__init__" p2) [.Constant (.str m) j p3] [] p4) p5 :: rest) scope qual)
    (X : K.In s.heap) (hlim : s.heap.NoLimit) (hg : s.heap.Ns mainGlobals mg) (hblt : ∃ mb, s.heap.Ns builtinsNs mb ∧ ∀ x : Str, x ≠ "__name__" → mb x = bootBuiltins x)
    (hx : s.heap.get? a = some (excObj C t0 none .none)) (hroom : A.depth < recursionLimit)
    (hb : ∀ {doc pm cdv ct : Value} {an : Option Addr} {cc : Addr}, BindsTo s (ksFn "__init__" qual params (.Expr (.Call (.Attribute (.Call (.Name "super" p0) [] [] p1) "__init__" p2) [.Constant (.str m) j p3] [] p4) p5 :: rest) scope .none .none doc pm an cdv ct cc) args binds)
    (hev : XiEv qual scope (.Call (.Name "super" p0) [] [] p1) p2 p4 p5 (.Constant (.str m) j p3)) (hp : (params.posonlyargs ++ params.args).head? = some ar) (hself : binds.reverse.lookup ar.arg = some (.ref a)) (hcell : ∀ x ∈ scope.names, x.2 ≠ .cell) (hloc : ∀ x ∈ binds, scope.names.lookup x.1 = some .local)
    (hks : scope.names.lookup ("super" : Str) = some .globalImplicit) (hkc : scope.names.lookup ("__class__" : Str) = some .free) (hka : scope.names.lookup ar.arg = some .local)
    (htop : (prog.main.scope.names.lookup ("super" : Str)).isSome = false)
    (h : ∀ h1 tk cda cc, XiAt s (fun y => binds.reverse.lookup y) C a h1 →
      wpAny (model prog w) (A.deeper (ksEnv qual scope s.heap.objs.size fI (.ref cda) cc)) (execs rest (ksEnv qual scope s.heap.objs.size fI (.ref cda) cc)) (fun fl s' => R (.ok (.ret (match fl with | .ret v => v | _ => .none))) s')
        (fun e s' => wpAny (model prog w) (A.deeper (ksEnv qual scope s.heap.objs.size fI (.ref cda) cc)) (leaving (ksEnv qual scope s.heap.objs.size fI (.ref cda) cc) e) (fun _ s'' => R (.error e) s'') (fun e' s'' => R (.error e') s'') s') { s with heap := h1, toks := tk })
    (hco : scope.isCoroutine = false) (hgen : scope.isGenerator = false) (hk : scope.kind = .function) :
    codeAny (model prog w) A (.call (.ref fI) args) R s := by
  obtain ⟨oc, od, doc, pm, an, cda, ct, cc, osl, ccl, cdd, vs, ccs, file, tf, cl, cld, csl, ho, hcd, hcode, hvs, hfile, hcellc⟩ := F.ho
  obtain ⟨nm, q, N, bs, bm, sn, sub, ab, col, dd, k0, k1, k2, k3, k5, hC, hbm⟩ := T.o.cls
  refine ks_codeAny_call_defAt (binds := binds) hroom (X _ _ ho) rfl hlim (codeRec_of X hcd) rfl hb hcell hloc (fun h₀ hn hk₀ => ?_) hco hgen hk
  obtain ⟨hp0, g, d, tk0, os⟩ := s
  have X₀ : K.In h₀ := X.keeps hk₀
  obtain ⟨pl, hpl⟩ := hev.ev hp0.objs.size fI (.ref cda) cc
  refine ks_wpAt_execs_cons (ks_wpAt_Expr_any (ks_wpAt_MethodCall (pl := pl) ?_ hpl) (hev.int _ _ _ _) (hev.sw _ _ _ _))
  refine ks_wpAt_super_base hks hkc rfl rfl (X₀ _ _ ho) rfl hp rfl (X₀ _ _ hcode) rfl hvs hfile htop ?_
  obtain ⟨mb, hb1, hb2⟩ := hblt
  refine ks_loadName_global hk hks (loadGlobal_builtin (hg.keeps hk₀) T.sup (hb1.keeps hk₀) ((hb2 "super" (by decide)).trans (by decide +kernel : bootBuiltins "super" = some (.type "super"))) ⟨rfl, ?_⟩)
  refine wpAny_loadName_free hk hkc rfl ⟨_, X₀ _ _ hcellc, rfl⟩ ?_
  refine wpAny_loadName_local hk hka hn hself ?_
  refine ks_wpAny_isType_cls (X₀ _ _ hC) rfl ⟨rfl, ?_⟩
  have hx0 : h₀.get? a = some (excObj C t0 none .none) := hk₀ _ _ hx
  refine ks_wpAny_call_super (X₀ _ _ hC) rfl hx0 rfl (fun c z => by cases z) (looks_mroIn X₀ T.mE) (fun h1 e1 k1 => ?_)
  have X1 : K.In h1 := X₀.keeps k1
  have hx1 := k1 _ _ hx0
  have hI : Looks (model prog w) h1 (isInstance (.ref a) (.type "ValueError")) true := (show InstAt h1 a (excObj C t0 none .none) C none from ⟨hx1, rfl, rfl, trivial⟩).type.andThen (looks_subIn X1 T.vE)
  have hmro : clsIn K C = some { name := nm, bases := bs, mro := .ref C :: bm, ns := N, qualname := q, hasDict := true, slotNames := sn, subclasses := sub, abstract := ab, collection := col, hasDel := false } := by unfold clsIn; rw [hC] <;> rfl
  have hsI := T.sI
  unfold ks_superIn at hsI
  rw [hmro] at hsI
  have haC : a ≠ C := ks_ne X1 (show InstAt h1 a (excObj C t0 none .none) C none from ⟨hx1, rfl, rfl, trivial⟩) hmro
  refine kxs_getMethod kxs_ValueError e1 (looks_opaque X1 T.op) (l₀ := .ref C :: bm) ?_ rfl X1 hsI hI haC rfl ?_
  · exact fun A Q E s k q => wpAny_bind ((looks_clsIn X1 hmro) A _ E s k (wpAny_pure q))
  refine kxs_callWith (i := "ValueError.__init__") (x := a) rfl (evalArgs_plain (spliced_cons ?_))
  refine Calls.Constant_str (k := j) (pos := p3) ?_
  refine wpAny_of_eq (a := []) rfl ?_
  have sz1 : hp0.objs.size < h1.objs.size := (show h₀.objs.size ≤ h1.objs.size from Nat.le_of_lt (Nat.lt_of_le_of_lt (Nat.le_refl _) (Heap.lt_size e1))) |> fun z => Nat.lt_of_lt_of_le hn.lt z
  have hu : (h1.push (kxs_mw "ValueError.__init__" a)).get? h1.objs.size = some (kxs_mw "ValueError.__init__" a) := Heap.get?_push_at rfl rfl
  refine ⟨hu, ?_⟩
  have kp : ∀ b o, h1.get? b = some o → (h1.push (kxs_mw "ValueError.__init__" a)).get? b = some o := fun b o e => Heap.get?_push_of_some _ e
  refine call_mw T.o (X1.keeps kp) hu (kp _ _ hx1) (by rw [sizeLine_eq]; show 1 ≤ _; omega) fun h' t1 k' e' => ?_
  refine wpAt_of_wpAny (h h' _ cda cc ⟨?_, fun b o hb e => k' b o hb (kp b o (k1 b o (hk₀ b o e))), ⟨t1, e'⟩, ?_⟩)
  · refine hn.at fun o z => k' _ o (fun y => ?_) (kp _ _ (k1 _ _ z))
    have := Heap.lt_size hx
    rw [← y] at this
    exact absurd this (Nat.lt_irrefl _)
  · have hq : h'.get? h1.objs.size = some (kxs_mw "ValueError.__init__" a) := k' _ _ (Nat.ne_of_gt (Heap.lt_size hx1)) hu
    exact Nat.lt_trans sz1 (Heap.lt_size hq)

/-- what __init__ leaves of a fresh exception at a -/
structure XiEnd (h h' : Heap) (a C dx : Addr) (mA : Str → Option Value) : Prop where
  keep : ∀ b o, b ≠ a → h.get? b = some o → h'.get? b = some o
  obj : ∃ t1, h'.get? a = some (excObj C t1 (some dx) .none)
  dbig : h.objs.size ≤ dx
  dne : dx ≠ a
  ns : h'.Ns1 dx mA
theorem ldX {M : Model} {A : Around} {E : Value → Shared → Prop} {s : Shared} {env : Env} {m : Str → Option Value} {y : Str} {pos : Pos} {v : Value} {Q : Value → Shared → Prop} (hn : s.heap.Ns env.locals m) (hv : m y = some v) (h : Q v s)
    (hk : env.scope.kind = .function) (hl : env.kindOf y = some .local) (hd : (y == ("__debug__" : Str)) = false) : wpAny M A (eval (.Name y pos) env) Q E s := wpAny_Name (wpAny_loadName_local hk hl hn hv h) hd
/-- the first field -/
theorem xi_first {f : Str} {q1 q2 q3 q4 : Pos} {a : Addr} {v : Value} {env : Env} {m : Str → Option Value} {h1 : Heap} {tk : Nat} {A : Around} {E : Value → Shared → Prop} {QF : Flow → Shared → Prop} {rest : List Stmt} (T : XiC prog K mg C fI x fs) (X : K.In s.heap) (hx : ∃ o, s.heap.get? a = some o) (hnx : K.lookup a = none) (S : XiAt s m C a h1) (hf : f ∈ fs)
    (hL : env.locals = s.heap.objs.size) (hself : m "self" = some (.ref a)) (hv : m f = some v) (hk : env.scope.kind = .function) (hl1 : env.kindOf "self" = some .local) (hl2 : env.kindOf f = some .local) (hd : (f == ("__debug__" : Str)) = false)
    (hs : swapsWith (.Name f q3) (some (.Attribute (.Name "self" q1) f q2)) q4.line env = pure false)
    (h : ∀ h3 tk3 dx t1, (∀ b o, b ≠ a → h1.get? b = some o → h3.get? b = some o) → h1.objs.size ≤ dx → dx ≠ a → h3.get? a = some (excObj C t1 (some dx) .none) → h3.Ns1 dx (fun y => if y = f then some v else none) →
      wpAny (model prog w) A (execs rest env) QF E { s with heap := h3, toks := tk3 }) :
    wpAny (model prog w) A (execs (.Assign [.Attribute (.Name "self" q1) f q2] (.Name f q3) q4 :: rest) env) QF E { s with heap := h1, toks := tk } := by
  obtain ⟨nm, q, N, bs, bm, sn, sub, ab, col, dd, k0, k1, k2, k3, k5, hC, hbm⟩ := T.o.cls
  obtain ⟨t1, hx1⟩ := S.obj
  have hmro : clsIn K C = some { name := nm, bases := bs, mro := .ref C :: bm, ns := N, qualname := q, hasDict := true, slotNames := sn, subclasses := sub, abstract := ab, collection := col, hasDel := false } := by unfold clsIn; rw [hC] <;> rfl
  have X1 : K.In h1 := fun b o e => S.keep b o (fun z => by rw [z, hnx] at e; cases e) (X b o e)
  have hn : h1.Ns env.locals m := by rw [hL]; exact S.ns
  refine wpAny_execs_cons (plainObj_wpAny_Assign_Attribute ?_ hs)
  refine ldX (v := v) hn hv (ldX (v := .ref a) hn hself ?_ hk hl1 (by decide)) hk hl2 hd
  refine set_plain X1 (ox := excObj C t1 none .none) (od := none) ⟨hx1, rfl, rfl, trivial⟩ T.o.sa ?_
  refine PySem.HandSPX.exc_osa X1 hx1 hmro (show PySem.HandSPX.refsVE (.ref C :: bm) = true from hbm) rfl (T.noN f hf) (fun h₃ tk₃ dx k₃ dn dne hx₃ hn₃ => ?_)
  exact h h₃ tk₃ dx t1 k₃ dn dne hx₃ hn₃
/-- __init__ run: n fields, each given its argument -/
def XiRun (prog : Program) (w : World) (K : PySem.W.Frag) (mg : Str → Option Value) (C fI : Addr) (fs : List Str) : Prop := ∀ (A : Around) (R : Result → Shared → Prop) (s : Shared) (a t0 : Addr) (us : List Value), us.length = fs.length → K.In s.heap → s.heap.NoLimit → s.heap.Ns mainGlobals mg →
  (∃ mb, s.heap.Ns builtinsNs mb ∧ ∀ x : Str, x ≠ "__name__" → mb x = bootBuiltins x) → s.heap.get? a = some (excObj C t0 none .none) → K.lookup a = none → A.depth < recursionLimit →
  (∀ h' tk dx, XiEnd s.heap h' a C dx (fun y => (fs.zip us).lookup y) → R (.ok (.ret .none)) { s with heap := h', toks := tk }) → codeAny (model prog w) A (.call (.ref fI) ⟨.ref a :: us, []⟩) R s
theorem lk1 (f : Str) (v : Value) : (fun y => if y = f then some v else none) = fun y => ([f].zip [v]).lookup y := by
  funext y
  show _ = List.lookup y [(f, v)]
  by_cases h : y = f
  · subst h; simp [List.lookup]
  · have : (y == f) = false := by simpa using h
    simp [List.lookup, h, this]
theorem lk2 (f g : Str) (v u : Value) (hne : f ≠ g) : (fun y => if y = g then some u else (if y = f then some v else none)) = fun y => ([f, g].zip [v, u]).lookup y := by
  funext y
  show _ = List.lookup y [(f, v), (g, u)]
  by_cases h : y = f
  · subst h; simp [List.lookup, hne]
  · have h1 : (y == f) = false := by simpa using h
    by_cases h' : y = g
    · subst h'; simp [List.lookup, h1]
    · have h2 : (y == g) = false := by simpa using h'
      simp [List.lookup, h, h', h1, h2]
theorem xi_run1 {f m : Str} {j : Nat} {p0 p1 p2 p3 p4 p5 q1 q2 q3 q4 : Pos} {ar : Arg} (T : XiC prog K mg C fI x [f])
    (F : XiF prog K C fI [f] params (.Expr (.Call (.Attribute (.Call (.Name "super" p0) [] [] p1) "__init__" p2) [.Constant (.str m) j p3] [] p4) p5 :: [.Assign [.Attribute (.Name "self" q1) f q2] (.Name f q3) q4]) scope qual)
    (hb : ∀ (s : Shared) (a : Addr) (v : Value) {doc pm cdv ct : Value} {an : Option Addr} {cc : Addr}, BindsTo s (ksFn "__init__" qual params (.Expr (.Call (.Attribute (.Call (.Name "super" p0) [] [] p1) "__init__" p2) [.Constant (.str m) j p3] [] p4) p5 :: [.Assign [.Attribute (.Name "self" q1) f q2] (.Name f q3) q4]) scope .none .none doc pm an cdv ct cc) ⟨[.ref a, v], []⟩ [("self", .ref a), (f, v)])
    (hev : XiEv qual scope (.Call (.Name "super" p0) [] [] p1) p2 p4 p5 (.Constant (.str m) j p3)) (hp : (params.posonlyargs ++ params.args).head? = some ar) (har : ar.arg = "self") (hcell : ∀ x ∈ scope.names, x.2 ≠ .cell)
    (hks : scope.names.lookup ("super" : Str) = some .globalImplicit) (hkc : scope.names.lookup ("__class__" : Str) = some .free) (hka : scope.names.lookup ("self" : Str) = some .local) (hkf : scope.names.lookup f = some .local)
    (hne : f ≠ "self") (hd : (f == ("__debug__" : Str)) = false) (htop : (prog.main.scope.names.lookup ("super" : Str)).isSome = false)
    (hco : scope.isCoroutine = false) (hgen : scope.isGenerator = false) (hk : scope.kind = .function)
    (hs : ∀ (L a : Addr) (cd : Value) (cc : Addr), swapsWith (.Name f q3) (some (.Attribute (.Name "self" q1) f q2)) q4.line (ksEnv qual scope L a cd cc) = pure false) : XiRun prog w K mg C fI [f] := by
  intro A R s a t0 us hl X hlim hg hblt hx hnx hroom hq
  match us, hl with
  | [v], _ =>
    have n1 : (("self" : Str) == f) = false := by simpa using fun z => hne z.symm
    have hS : List.lookup ("self" : Str) ([(f, v), ("self", Value.ref a)] : List (Str × Value)) = some (.ref a) := by simp [List.lookup, n1]
    have hF : List.lookup f ([(f, v), ("self", Value.ref a)] : List (Str × Value)) = some v := by simp [List.lookup]
    refine xi_enter (binds := [("self", .ref a), (f, v)]) T F X hlim hg hblt hx hroom (hb s a v) hev hp (by rw [har]; exact hS) hcell (fun y hy => ?_) hks hkc (by rw [har]; exact hka) htop (fun h1 tk cda cc S => ?_) hco hgen hk
    · simp only [List.mem_cons, List.not_mem_nil, or_false] at hy
      rcases hy with rfl | rfl
      · exact hka
      · exact hkf
    · refine xi_first T X ⟨_, hx⟩ hnx S (by simp) rfl hS hF hk hka hkf hd (hs _ _ _ _) fun h3 tk3 dx t1 k3 dn dne hx3 hn3 => ?_
      refine wpAny_execs_nil (hq h3 tk3 dx ⟨fun b o hb e => k3 b o hb (S.keep b o hb e), ⟨t1, hx3⟩, Nat.le_of_lt (Nat.lt_of_lt_of_le S.big dn), dne, ?_⟩)
      rw [← lk1]; exact hn3
theorem xi_run2 {f g m : Str} {j : Nat} {p0 p1 p2 p3 p4 p5 q1 q2 q3 q4 r1 r2 r3 r4 : Pos} {ar : Arg} (T : XiC prog K mg C fI x [f, g])
    (F : XiF prog K C fI [f, g] params (.Expr (.Call (.Attribute (.Call (.Name "super" p0) [] [] p1) "__init__" p2) [.Constant (.str m) j p3] [] p4) p5 :: [.Assign [.Attribute (.Name "self" q1) f q2] (.Name f q3) q4, .Assign [.Attribute (.Name "self" r1) g r2] (.Name g r3) r4]) scope qual)
    (hb : ∀ (s : Shared) (a : Addr) (v u : Value) {doc pm cdv ct : Value} {an : Option Addr} {cc : Addr}, BindsTo s (ksFn "__init__" qual params (.Expr (.Call (.Attribute (.Call (.Name "super" p0) [] [] p1) "__init__" p2) [.Constant (.str m) j p3] [] p4) p5 :: [.Assign [.Attribute (.Name "self" q1) f q2] (.Name f q3) q4, .Assign [.Attribute (.Name "self" r1) g r2] (.Name g r3) r4]) scope .none .none doc pm an cdv ct cc) ⟨[.ref a, v, u], []⟩ [("self", .ref a), (f, v), (g, u)])
    (hev : XiEv qual scope (.Call (.Name "super" p0) [] [] p1) p2 p4 p5 (.Constant (.str m) j p3)) (hp : (params.posonlyargs ++ params.args).head? = some ar) (har : ar.arg = "self") (hcell : ∀ x ∈ scope.names, x.2 ≠ .cell)
    (hks : scope.names.lookup ("super" : Str) = some .globalImplicit) (hkc : scope.names.lookup ("__class__" : Str) = some .free) (hka : scope.names.lookup ("self" : Str) = some .local) (hkf : scope.names.lookup f = some .local) (hkg : scope.names.lookup g = some .local)
    (hne : f ≠ "self") (hne2 : g ≠ "self") (hfg : f ≠ g) (hd : (f == ("__debug__" : Str)) = false) (hd2 : (g == ("__debug__" : Str)) = false) (htop : (prog.main.scope.names.lookup ("super" : Str)).isSome = false)
    (hco : scope.isCoroutine = false) (hgen : scope.isGenerator = false) (hk : scope.kind = .function)
    (hs : ∀ (L a : Addr) (cd : Value) (cc : Addr), swapsWith (.Name f q3) (some (.Attribute (.Name "self" q1) f q2)) q4.line (ksEnv qual scope L a cd cc) = pure false)
    (hs2 : ∀ (L a : Addr) (cd : Value) (cc : Addr), swapsWith (.Name g r3) (some (.Attribute (.Name "self" r1) g r2)) r4.line (ksEnv qual scope L a cd cc) = pure false) : XiRun prog w K mg C fI [f, g] := by
  intro A R s a t0 us hl X hlim hg hblt hx hnx hroom hq
  match us, hl with
  | [v, u], _ =>
    have n1 : (("self" : Str) == f) = false := by simpa using fun z => hne z.symm
    have n2 : (("self" : Str) == g) = false := by simpa using fun z => hne2 z.symm
    have n3 : (f == g) = false := by simpa using hfg
    have hS : List.lookup ("self" : Str) ([(g, u), (f, v), ("self", Value.ref a)] : List (Str × Value)) = some (.ref a) := by simp [List.lookup, n1, n2]
    have hF : List.lookup f ([(g, u), (f, v), ("self", Value.ref a)] : List (Str × Value)) = some v := by simp [List.lookup, n3]
    have hG : List.lookup g ([(g, u), (f, v), ("self", Value.ref a)] : List (Str × Value)) = some u := by simp [List.lookup]
    refine xi_enter (binds := [("self", .ref a), (f, v), (g, u)]) T F X hlim hg hblt hx hroom (hb s a v u) hev hp (by rw [har]; exact hS) hcell (fun y hy => ?_) hks hkc (by rw [har]; exact hka) htop (fun h1 tk cda cc S => ?_) hco hgen hk
    · simp only [List.mem_cons, List.not_mem_nil, or_false] at hy
      rcases hy with rfl | rfl | rfl
      · exact hka
      · exact hkf
      · exact hkg
    · refine xi_first T X ⟨_, hx⟩ hnx S (by simp) rfl hS hF hk hka hkf hd (hs _ _ _ _) fun h3 tk3 dx t1 k3 dn dne hx3 hn3 => ?_
      obtain ⟨nm, q, N, bs, bm, sn, sub, ab, col, dd, k0, k1, k2, k3', k5, hC, hbm⟩ := T.o.cls
      have hmro : clsIn K C = some { name := nm, bases := bs, mro := .ref C :: bm, ns := N, qualname := q, hasDict := true, slotNames := sn, subclasses := sub, abstract := ab, collection := col, hasDel := false } := by unfold clsIn; rw [hC] <;> rfl
      have kk : ∀ b o, b ≠ a → s.heap.get? b = some o → h3.get? b = some o := fun b o hb e => k3 b o hb (S.keep b o hb e)
      have X3 : K.In h3 := fun b o e => kk b o (fun z => by rw [z, hnx] at e; cases e) (X b o e)
      have hLa : s.heap.objs.size ≠ a := Nat.ne_of_gt (Heap.lt_size hx)
      have hn : h3.Ns s.heap.objs.size _ := S.ns.at fun o z => k3 _ o hLa z
      obtain ⟨oD, esD, epD, hoD, hdD, _⟩ := hn3.count (Within.cons f v (Within.nil))
      refine wpAny_execs_cons (plainObj_wpAny_Assign_Attribute ?_ (hs2 _ _ _ _))
      refine ldX (v := u) hn hG (ldX (v := .ref a) hn hS ?_ hk hka (by decide)) hk hkg hd2
      refine set_plain X3 (ox := excObj C t1 (some dx) .none) (od := some oD) ⟨hx3, rfl, rfl, hoD⟩ T.o.sa ?_
      refine PySem.OEX.osa_old X3 hx3 hn3 (Within.cons f v Within.nil) (by simp) hmro (show PySem.HandSPX.refsVE (.ref C :: bm) = true from hbm) rfl (T.noN g (by simp)) (fun h4 tk4 k4 hn4 => ?_)
      refine wpAny_execs_nil (hq h4 tk4 dx ⟨fun b o hb e => k4 b o (fun z => ?_) (kk b o hb e), ⟨t1, k4 _ _ (fun z => dne z.symm) hx3⟩, Nat.le_of_lt (Nat.lt_of_lt_of_le S.big dn), dne, ?_⟩)
      · have := Heap.lt_size e
        rw [z] at this
        exact absurd (Nat.lt_of_lt_of_le (Nat.lt_trans this S.big) dn) (Nat.lt_irrefl _)
      · rw [← lk2 f g v u hfg]; exact hn4
end
end Um

namespace Um
open L2 PySem PySem.Spec PyProof.Rows
theorem relO_zip : ∀ {fs : List Str} {vs : List V} {us : List Value}, Vals vs us → ∀ f : Str, RelO ((fs.zip vs).lookup f) ((fs.zip us).lookup f)
  | [], _, _, _, _ => trivial
  | _ :: _, _, _, .nil, _ => trivial
  | g :: fs, v :: vs, u :: us, .cons r rr, f => by
    show RelO (List.lookup f ((g, v) :: fs.zip vs)) (List.lookup f ((g, u) :: fs.zip us))
    rw [List.lookup_cons, List.lookup_cons]
    cases f == g with
    | true => exact r
    | false => exact relO_zip rr f
section
variable {X : Cx} {C fI : Addr} {x : Str} {fs : List Str} {k : Nat}
/-- x(e, ..), an own exception -/
def tMkX (C : Addr) (fs : List Str) (ta : TA) : L2.St → Hp → XK → Prop := fun σ H Q => ta σ H fun vs H1 => vs.length = fs.length ∧ vs.length ≤ 1000 ∧ ∀ d, H1 d = none → Q (.ref C) (some d) (upd H1 d (.xd (fs.zip vs)))
theorem pmk_xi {e : Expr} {es : List Expr} {ta : TA} {p pos : Pos} (T : XiC X.prog X.K X.mg C fI x fs) (RN : XiRun X.prog X.w X.K X.mg C fI fs) (hr : Room k X.A) (ha : PA X (e :: es) ta) (hg : Gl X x) (hdb : (x == ("__debug__" : Str)) = false)
    (he : starEach (e :: es) X.env = (false, eval e X.env) :: starEach es X.env) (hpl : (backTo pos (starEach es X.env)).any (·.1) = false) :
    L2N.PMk X (.Call (.Name x p) (e :: es) [] pos) (tMkX C fs ta) := by
  intro pins s σ H Q I h
  obtain ⟨nm, q, N, bs, bm, sn, sub, ab, col, dd, k0, k1, k2, k3, k5, hC, hbm⟩ := T.o.cls
  refine wpAny_Call_Name_kw (ld_glob I hg T.gC ?_ hdb)
  refine PySem.W.callWith_K (h₀ := X.base) I.ok.mod.kin T.o.kC (thn (ha.run pos pins s σ H _ I h) fun us s1 ⟨vs, H1, I1, r1, hl, hz, q1⟩ => ⟨I1.kIn, ?_⟩) he hpl
  show wpAny _ _ (call (.ref C) us) _ _ _
  have hlim := I1.nolimit
  have hglob := I1.mod.glob.keeps I1.bk
  obtain ⟨mb, hb1, hb2⟩ := I1.mod.blt
  have hblt := hb1.keeps I1.bk
  obtain ⟨hp, g, dr, tk, os⟩ := s1
  have kk : ∀ b o, hp.get? b = some o → ((hp.push (PySem.W.kdv_tup us)).push (PySem.HandSPX.excO C hp.objs.size)).get? b = some o := fun b o e => Heap.get?_push_of_some _ (Heap.get?_push_of_some _ e)
  have hget : ((hp.push (PySem.W.kdv_tup us)).push (PySem.HandSPX.excO C hp.objs.size)).get? (hp.objs.size + 1) = some (PySem.HandSPX.excO C hp.objs.size) := by heap_get
  have hnx : X.K.lookup (hp.objs.size + 1) = none := by
    cases e : X.K.lookup (hp.objs.size + 1) with
    | none => rfl
    | some o =>
      have z : hp.get? (hp.objs.size + 1) = some o := I1.kIn _ _ e
      exact absurd (Nat.lt_of_succ_lt (Heap.lt_size z)) (Nat.lt_irrefl _)
  have hus : us.length ≤ sizeLine := by
    rw [← Paired.length r1, sizeLine_eq]
    omega
  have hul : us.length = fs.length := by rw [← Paired.length r1]; exact hl
  refine wpAny_call (PySem.HandSPX.call_own F.excBase_ValueError (fun Y => PySem.HandSPX.refsVE_contains Y bm hbm) (I1.kIn _ _ hC) (PySem.W.looks_findIn I1.kIn T.iC) (fun self => PySem.W.bind_fn I1.kIn self T.tC) hus ?_)
  refine RN _ _ ⟨(hp.push (PySem.W.kdv_tup us)).push (PySem.HandSPX.excO C hp.objs.size), g, dr, tk, os⟩ (hp.objs.size + 1) hp.objs.size us hul (I1.kIn.keeps kk) (hlim.keeps kk) (hglob.keeps kk) ⟨mb, hblt.keeps kk, hb2⟩ hget hnx ?_ fun h' tk' dx M => ⟨rfl, ?_⟩
  · show X.A.depth + 1 < recursionLimit
    have := hr.dp
    omega
  show L2N.MkP X pins σ Q (.ref (hp.objs.size + 1)) ⟨h', g, dr, tk', os⟩
  obtain ⟨t1, hoe⟩ := M.obj
  have hns := M.ns
  have dn : hp.objs.size ≤ dx := by
    have z := M.dbig
    have e2 : ((hp.push (PySem.W.kdv_tup us)).push (PySem.HandSPX.excO C hp.objs.size)).objs.size = hp.objs.size + 1 + 1 := by rw [Heap.size_push, Heap.size_push]
    have z2 : hp.objs.size + 1 + 1 ≤ dx := by rw [← e2]; exact z
    omega
  obtain ⟨G', g1, g2⟩ := restrict h' fun b => decide (b ≠ hp.objs.size + 1)
  have gk : ∀ b, b ≠ hp.objs.size + 1 → G'.get? b = h'.get? b := fun b hb => g1 b (decide_eq_true hb)
  have ge : G'.get? (hp.objs.size + 1) = none := g2 (hp.objs.size + 1) (by simp)
  have ne1 : ∀ {b : Addr} {o : Obj}, hp.get? b = some o → b ≠ hp.objs.size + 1 := fun e => Nat.ne_of_lt (Nat.lt_succ_of_lt (Heap.lt_size e))
  have old : ∀ b o, hp.get? b = some o → G'.get? b = some o := fun b o q => (gk b (ne1 q)).trans (M.keep b o (ne1 q) (kk b o q))
  have ob : ObjOk X.prog X.w (upd H1 dx (.xd (fs.zip vs))) G' dx (.xd (fs.zip vs)) := ⟨_, hns.at (fun o q => (gk dx M.dne).trans q), fun f => relO_zip r1 f⟩
  have J : Inv X pins σ (upd H1 dx (.xd (fs.zip vs))) ⟨G', g, dr, tk', os⟩ := I1.laid (t' := tk') old dn ob
  refine ⟨hp.objs.size + 1, _, _, ⟨G', g, dr, tk', os⟩, _, .ref C, some dx, rfl, J, fun b o q => ?_, ge, hoe, ⟨rfl, rfl, fun vs z => by cases z; rfl⟩, rfl, rfl, ?_, rfl, I1.bare, raises_own T.o.exC T.o.tyC, q1 dx (I1.hok.fresh dn)⟩
  · by_cases hb : b = hp.objs.size + 1
    · have q' : G'.get? b = some o := q
      rw [hb, ge] at q'; cases q'
    · exact (gk b hb).symm.trans q
  · rw [upd_ne (Ne.symm M.dne)]
    exact I1.hok.fresh (Nat.le_succ _)
end
theorem zip_fst {α β : Type} : ∀ {a : List α} {b : List β}, b.length = a.length → (a.zip b).map (·.1) = a
  | [], [], _ => rfl
  | _ :: _, _ :: _, h => by
    rw [List.zip_cons_cons, List.map_cons, zip_fst (by simpa using h)]
  | [], _ :: _, h => by simp at h
  | _ :: _, [], h => by simp at h
theorem zip_snd {α β : Type} : ∀ {a : List α} {b : List β}, b.length = a.length → (a.zip b).map (·.2) = b
  | [], [], _ => rfl
  | _ :: _, _ :: _, h => by
    rw [List.zip_cons_cons, List.map_cons, zip_snd (by simpa using h)]
  | [], _ :: _, h => by simp at h
  | _ :: _, [], h => by simp at h
section
variable {α : Type} {P : Pt α} {nx bk ct : Jp α} {env : En} {rest : List Stmt}
/-- raise x(e, ..), an own class that stores its arguments -/
theorem ss_raiseX (G : P.Good) (tk : L2N.Takes P.X P.W) {c x : Str} {fs : List Str} {k : Nat} {ms : List Md} {e : Expr} {es : List Expr} {rs : R (List D)} {p pos pos' : Pos}
    (T : ∃ fI, XiC P.X.prog P.X.K P.X.mg (P.ca c) fI x fs ∧ XiRun P.X.prog P.X.w P.X.K P.X.mg (P.ca c) fI fs) (hr : Room k P.X.A) (ha : SA P.ca P.X P.W P.H0 ms env (e :: es) rs) (hm : ∀ m ∈ ms, m = Md.v := by decide) (hl : ms.length = fs.length := by rfl) (hn : fs.length ≤ 1000 := by decide)
    (hg : Gl P.X x := by rfl) (hdb : (x == ("__debug__" : Str)) = false := by decide)
    (he : starEach (e :: es) P.X.env = (false, eval e P.X.env) :: starEach es P.X.env := by rfl) (hpl : (backTo pos (starEach es P.X.env)).any (·.1) = false := by rfl) :
    SSs P nx bk ct env (.Raise (some (.Call (.Name x p) (e :: es) [] pos)) none pos' :: rest) (rs.bind fun ds => .er ⟨c, fs, ds⟩) := fun D hr' hn' hb hc σ H ⟨F, a⟩ => by
  obtain ⟨fI, T1, RN⟩ := T
  refine .cons (L2N.ps_raise G.calm tk (pmk_xi T1 RN hr pa_W hg hdb he hpl)) ?_
  have ae := a.eq
  refine ha F H σ _ a.go.fh a.en ?_
  cases rs with
  | er z => exact fun F' H' g => G.er z F' H' σ ae.symm (a.go.trans g) (a.ho.mono g)
  | bad => exact G.nb ae.symm
  | ok ds =>
    intro vs F1 H1 g q
    have r := q.reps hm
    have hvl : vs.length = fs.length := by rw [← ars_len q, hl]
    refine ⟨hvl, by omega, fun d hd => ?_⟩
    have g2 : Go F1 H1 (upd F1 d (.xd (fs.zip vs))) (upd H1 d (.xd (fs.zip vs))) := Go.new g.fh hd _
    exact G.er _ _ _ σ ae.symm (a.go.trans (g.trans g2)) (a.ho.mono (g.trans g2)) _ _ ⟨rfl, .inr ⟨d, fs.zip vs, rfl, upd_same, zip_fst hvl, by rw [zip_snd hvl]; exact r.mono (Le.new (g.fh.free hd))⟩⟩
end
end Um

namespace Um
open L2 PySem PySem.Spec PyProof.Rows

/-! ## Defs called while an exception is handled -/
structure DefH (P : Program) (w : World) (K : PySem.W.Frag) (mg : Str → Option Value) (base : Heap) (ca : Ca) (x : Str) (n : Nat) (ms : List Md) (m : Md) (f : List D → R D) : Prop where
  ex : ∃ (a : Addr) (fd : FuncData) (ps : List Str), L2H.FnH P w K mg base (L2N.CX P w) n a fd ps (spOf K ca ms m f) ∧ mg x = some (.ref a) ∧ PySem.W.keepIn K (.ref a) = true ∧ Binds K fd ps []
section
variable {ca : Ca} {X : Cx} {W : WX} {H0 : Hp} {env : En}
theorem se_callH {x : Str} {n k : Nat} {ms : List Md} {m : Md} {f : List D → R D} {e : Expr} {es : List Expr} {rs : R (List D)} {p pos : Pos} (Df : DefH X.prog X.w X.K X.mg X.base ca x n ms m f) (hr : L2H.RoomH k X.A) (hc : L2H.HotC X) (tk : L2N.Takes X W) (ha : SA ca X W H0 ms env (e :: es) rs)
    (hnk : n ≤ k := by decide) (hg : Gl X x := by rfl) (hdb : (x == ("__debug__" : Str)) = false := by decide)
    (he : starEach (e :: es) X.env = (false, eval e X.env) :: starEach es X.env := by rfl) (hpl : (backTo pos (starEach es X.env)).any (·.1) = false := by rfl) :
    SE ca X W H0 m env (.Call (.Name x p) (e :: es) [] pos) (rs.bind f) := fun F H σ Q le ok hp => by
  obtain ⟨a, fd, ps, G, gm, kp, b⟩ := Df.ex
  refine ⟨_, L2H.pe_callH G (hr.mono hnk) hc hg gm kp b (fun σ => L2N.passAt tk σ) pa_W hdb he hpl, ?_⟩
  refine ha.then le ok hp fun ds vs F1 H1 _ g1 q1 ok1 hp1 => ?_
  exact ⟨F1, ds, g1.fh, q1, ok1.st.monoH ok1.h0, hp1⟩
end
/-- the handler's own context bears its exception -/
theorem hot_hand {X0 : Cx} {ca : Ca} {F1 : Hp} {a : Addr} {oe : Obj} {xc : Exc} {d : Option Addr} {pn : List (Addr × Obj)} (I : HInf X0.K ca F1 a oe xc d) : L2H.HotC (X0.suite a ((a, oe) :: pn)) := by
  obtain ⟨vs, hv⟩ := I.f
  exact ⟨(a, oe), ⟨rfl, vs, hv, I.z.2.2 vs hv⟩, List.mem_cons_self⟩
theorem room_hand {X0 : Cx} {a : Addr} {l : List (Addr × Obj)} {k : Nat} (r : Room k X0.A) : L2H.RoomH k (X0.suite a l).A := ⟨r.dp, r.un⟩
theorem hot_cx {CX : CXT} {P : Program} {w : World} {K : PySem.W.Frag} {mg : Str → Option Value} {base : Heap} {N : List Str} {qual : Str} {scope : Scope} {f : Addr} {cd : Value} {A : Around} {outer : List Env} {s : Shared} {H : Hp} {E : XK} {p : Addr × Obj} (h : L2H.Hot1 A p) :
    L2H.HotC (L2H.cxH CX P w K mg base N qual scope f cd A outer s H E p) := ⟨p, h, List.mem_singleton.mpr rfl⟩
theorem okNH {P : Program} {w : World} {K : PySem.W.Frag} {mg : Str → Option Value} {base : Heap} {CX : CXT} {x qual : Str} {st : Stmt} {f : Addr} {fd : FuncData} {N ps : List Str} {k : Nat} {sp : Sp} (F : Fun K x qual st f fd) (S : FnScope N ps (defScope st)) (len : ∀ vs H Q E, sp vs H Q E → vs.length = ps.length)
    (hbody : ∀ (cdv : Value) (A : Around) (outer : List Env) (s : Shared) (H : Hp) (vs : List V) (Q : VK) (E : XK) (p : Addr × Obj), L2H.Hot1 A p → L2H.RoomH k (A.deeper (envOfC qual (defScope st) s.heap.objs.size f cdv)) → sp vs H Q E →
      ∃ t, PSs (L2H.cxH CX P w K mg base N qual (defScope st) f cdv A outer s H E p) (defBody st) t ∧ t { nx := fun _ H' => Q .non H', rt := Q } (start N vs) H) : L2H.FnH P w K mg base CX (k + 1) f fd ps sp := by
  obtain ⟨oc, od, kV, doc, pm, an, cdv, ct, osl, rfl, lk, hcd⟩ := F.ex
  exact L2H.fn_ofH lk hcd S len fun A outer s H vs Q E p hot hr hsp => hbody cdv A outer s H vs Q E p hot hr hsp
/-- a def keeps its promise there, too -/
theorem defH_ok {P : Program} {w : World} {K : PySem.W.Frag} {mg : Str → Option Value} {base : Heap} {ca : Ca} {x qual : Str} {st : Stmt} {a : Addr} {fd : FuncData} {N ps : List Str} {k : Nat} {ms : List Md} {m : Md} {f : List D → R D}
    (F : Fun K x qual st a fd) (S : FnScope N ps (defScope st)) (hm : ms.length = ps.length) (hN : ps.length ≤ N.length)
    (gm : mg x = some (.ref a)) (b : Binds K fd ps [])
    (body : ∀ (cdv : Value) (A : Around) (outer : List Env) (s : Shared) (H : Hp) (Q : VK) (E : XK) (F0 : Hp) (ds : List D) (p : Addr × Obj), ds.length = ps.length → L2H.HotC (L2H.cxH (L2N.CX P w) P w K mg base N qual (defScope st) a cdv A outer s H E p) → L2H.RoomH k (A.deeper (envOfC qual (defScope st) s.heap.objs.size a cdv)) →
      (Pt.mk ca (L2H.cxH (L2N.CX P w) P w K mg base N qual (defScope st) a cdv A outer s H E p) (fun c d _ H' => E c d H') F0 H [] (f ds) R.ok m Q).GoodH →
      SSs (Pt.mk ca (L2H.cxH (L2N.CX P w) P w K mg base N qual (defScope st) a cdv A outer s H E p) (fun c d _ H' => E c d H') F0 H [] (f ds) R.ok m Q) (jEnd m) jNo jNo (argEnv ms ds N.length) (defBody st) (f ds)) :
    DefH P w K mg base ca x (k + 1) ms m f := by
  have lenA : ∀ {F H : Hp} {ms : List Md} {vs : List V} {ds : List D}, ARs K ca F H ms vs ds → ms.length = vs.length := fun q => by
    induction q with
    | nil => rfl
    | consR _ _ ih => rw [List.length_cons, List.length_cons, ih]
    | consV _ _ ih => rw [List.length_cons, List.length_cons, ih]
  refine ⟨a, fd, ps, okNH F S (fun vs H Q E h => ?_) (fun cdv A outer s H vs Q E p hot hr h => ?_), gm, F.kp, b⟩
  · obtain ⟨F0, ds, _, q, _, _⟩ := h
    rw [← hm, lenA q]
  · obtain ⟨F0, ds, le, q, hsk, hp⟩ := h
    have hl : ds.length = ps.length := by rw [← q.length, ← lenA q, hm]
    refine ⟨_, pss_W, ?_⟩
    have G : (Pt.mk ca (L2H.cxH (L2N.CX P w) P w K mg base N qual (defScope st) a cdv A outer s H E p) (fun c d _ H' => E c d H') F0 H [] (f ds) R.ok m Q).GoodH := by
      refine ⟨S.nd, passes_of rfl, fun d v F1 H1 e g r => ?_, fun z F1 H1 σ e g _ => ?_, fun e => ?_, (fun d e => nomatch e), hsk⟩
      · have e' : f ds = .ok d := e
        rw [e'] at hp
        exact hp v F1 H1 g r
      · have e' : f ds = .er z := e
        rw [e'] at hp
        exact hp F1 H1 g
      · have e' : f ds = .bad := e
        rw [e'] at hp
        exact hp
    refine body cdv A outer s H Q E F0 ds p hl (hot_cx hot) hr G _ rfl ?_ (fun _ _ z => z.elim) (fun _ _ z => z.elim) _ _ ⟨F0, Go.refl le, en_start q (by rw [q.length, hl]; exact hN) hsk, ⟨.inl (Nat.zero_le _), fun i s h => by simp at h⟩, rfl⟩
    rintro e' r' ⟨rfl, rfl⟩ σ H1 ⟨F1, a1⟩
    exact G.rt .non .non F1 H1 a1.eq.symm a1.go Rep.non
/-! ### for over range there -/
def WIH (X : Cx) (tg it : Expr) : TI := fun σ H R => ∃ t, L2H.PIH X tg it t ∧ t σ H R
theorem piH_W {X : Cx} {tg it : Expr} : L2H.PIH X tg it (WIH X tg it) := ⟨fun pins s σ H R I h => by
  obtain ⟨t, p, q⟩ := h
  exact p.run pins s σ H R I q⟩
def SIH (ca : Ca) (X : Cx) (W : WX) (H0 : Hp) (env : En) (tg it : Expr) (r : R (List D)) : Prop := ∀ F H σ (Q : It → Hp → Prop), Le F H → EnOk X.K ca H0 F H σ env →
  PostI ca X H0 (ekOf X.K ca W σ) F H r Q → WIH X tg it σ H Q
theorem siH_r1 {ca : Ca} {X : Cx} {W : WX} {H0 : Hp} {env : En} {tg a : Expr} {p pos : Pos} {rs : R (List D)} (h : SA ca X W H0 [.r] env [a] rs) (hm : X.mg "range" = none) (hg : Gl X "range" := by rfl)
    (hs : starEach [a] X.env = [(false, eval a X.env)] := by rfl) : SIH ca X W H0 env tg (.Call (.Name "range" p) [a] [] pos) (rs.bind dRng1) := fun F H σ Q le ok hp => by
  refine ⟨_, L2H.pi_range1H hg hm pa_W hs, h.thenI le ok hp fun ds vs F' H' _ g q _ hp' => ?_⟩
  unfold dRng1 at hp'
  split at hp'
  · split at hp'
    · rename_i hr
      cases q with
      | consR q1 q2 => cases q2; rw [ar_int q1]; exact ⟨_, rfl, hr.1, hr.2, hp' _ F' H' (Go.refl g.fh) itok_rng⟩
    · exact hp'.elim
  · exact hp'.elim
section
variable {α : Type} {P : Pt α} {nx bk ct : Jp α} {env : En} {rest : List Stmt}
theorem ss_forH (G : P.GoodH) (hC : L2H.HotC P.X) {S : Type} {x : Str} {it : Expr} {body : List Stmt} {ri : R (List D)} {bodyM : D → S → (S → R α) → (S → R α) → R α} {after : S → R α} {pos pos' : Pos} {j : Nat} (envL : S → En) (s0 : S)
    (hi : SIH P.ca P.X P.W P.H0 env (.Name x pos') it ri)
    (hb : ∀ F1, (P.at F1).GoodH → ∀ d s nxt brk, SSs (P.at F1) (jOf envL nxt) (jOf envL brk) (jOf envL nxt) ((envL s).set j (some (.d d))) body (bodyM d s nxt brk))
    (h0 : EnLe (envL s0) env) (hk : ∀ s, SSs P nx bk ct (envL s) rest (after s)) (hs : ∀ x, foldedSetIterable it P.X.env x = pure x := by intro _; rfl)
    (hj : P.X.N[j]? = some x := by rfl) (hx : Loc P.X.env.scope x := by first | exact .inl rfl | exact .inr rfl) (hh : noH P.envH j = true := by rfl)
    (hf : P.X.fn x = true ∨ P.X.env.scope.names.lookup x = some .local := by first | exact .inl rfl | exact .inr rfl) :
    SSs P nx bk ct env (.For (.Name x pos') it body [] pos :: rest) (ri.bind fun ds => forC ds s0 bodyM after) := fun D hr hn hb' hc σ H ⟨F, a⟩ => by
  refine .cons (L2H.ps_forH G.hp hC piH_W (pg_name G.nd hj hx hf) pss_W hs) ?_
  have ae := a.eq
  refine hi F H σ _ a.go.fh a.en ?_
  cases ri with
  | er x => exact fun F' H' g => G.er x F' H' σ ae.symm (a.go.trans g) (a.ho.mono g)
  | bad => exact G.nb ae.symm
  | ok ds =>
    intro J F1 H1 g1 io
    have a1 : AtF P F env (forC ds s0 bodyM after) σ H := ⟨a.go, a.en, a.ho, ae⟩
    have a1 := (a1.mono g1).weak h0
    have g01 := a1.go
    have G1 := G.at g01
    refine ⟨fun i m σ H => m = ds.length - i ∧ i ≤ ds.length ∧ ∃ s, ∃ F2, AtF (P.at F1) F2 (envL s) (forC (ds.drop i) s bodyM after) σ H, ⟨ds.length, by omega, Nat.zero_le _, s0, F1, a1.at⟩, ?_⟩
    rintro i m σ2 H2 ⟨rfl, hi2, s, F2, a2⟩
    have io2 := io F2 H2 a2.go.f a2.go.fh a2.en.h0
    by_cases hlt : i < ds.length
    · refine .inr ?_
      have hd : ds[i]? = some ds[i] := List.getElem?_eq_getElem hlt
      obtain ⟨hgo, hy⟩ := io2.1 i _ hd
      refine ⟨hgo, fun σ' H' => i + 1 ≤ ds.length ∧ ∃ s, ∃ F2, AtF (P.at F1) F2 (envL s) (forC (ds.drop (i + 1)) s bodyM after) σ' H', fun σ' H' ⟨h1, h2⟩ => ⟨_, by omega, rfl, h1, h2⟩, fun x H3 hyd => ?_⟩
      obtain ⟨F3, g3, q3⟩ := hy x H3 hyd
      have a3 := a2.mono g3
      have e3 : forC (ds.drop i) s bodyM after = bodyM ds[i] s (fun s' => forC (ds.drop (i + 1)) s' bodyM after) after := by
        rw [List.drop_eq_getElem_cons hlt]; rfl
      rw [e3] at a3
      show WSs (P.at F1).X body _ (σ2.set j (some x)) H3
      refine hb F1 G1 ds[i] s (fun s' => forC (ds.drop (i + 1)) s' bodyM after) after _ ?_ ?_ ?_ ?_ _ _ ⟨F3, a3.go, a3.en.setD q3, a3.ho.set hh, a3.eq⟩
      · exact hr
      · rintro e' r' ⟨s', l, rfl⟩ σ4 H4 ⟨F4, a4⟩
        exact ⟨hlt, s', F4, a4.weak l⟩
      · rintro e' r' ⟨s', l, rfl⟩ σ4 H4 ⟨F4, a4⟩
        exact hk s' D hr hn hb' hc σ4 H4 ⟨F4, (a4.weak l).up g01⟩
      · rintro e' r' ⟨s', l, rfl⟩ σ4 H4 ⟨F4, a4⟩
        exact ⟨hlt, s', F4, a4.weak l⟩
    · have e : i = ds.length := by omega
      subst e
      refine .inl ⟨io2.2, ?_⟩
      rw [List.drop_length] at a2
      exact hk s D hr hn hb' hc σ2 H2 ⟨F2, a2.up g01⟩
end
end Um
namespace Um
open L2 PySem PySem.Spec PyProof.Rows
theorem roomH64 {k : Nat} {A : Around} (r : L2H.RoomH k A) : A.units + 64 < cLine := by have := r.un; omega
theorem roomH65 {k : Nat} {A : Around} (r : L2H.RoomH k A) : A.units + 65 < cLine := by have := r.un; omega
end Um

namespace Um
open L2 PySem PySem.Spec PyProof.Rows

/-! ## Calls of instances: o(e, ..), o of an own class with __call__ -/
section
variable {M : Model} {A : Around} {E : Value → Shared → Prop} {s : Shared} {pos : Pos} {x : Addr}
theorem callWith_inst {env : Env} {e : Expr} {es : List Expr} {Q : Value → Shared → Prop}
    (h : wpAny M A (spliced (backTo pos (starEach (e :: es) env))) (fun vs s1 => (∃ ox, s1.heap.get? x = some ox ∧ ox.data = .plain) ∧ wpAny M A (call (.ref x) vs) Q E s1) E s)
    (he : starEach (e :: es) env = (false, eval e env) :: starEach es env) (hpl : (backTo pos (starEach es env)).any (·.1) = false) :
    wpAny M A (callWith pos (.ref x) [] (backTo pos (starEach (e :: es) env)) []) Q E s := by
  rw [he] at h ⊢
  have hno : (((backTo pos ((false, eval e env) :: starEach es env)).any (·.1)) || ([] : List (Option Str × Sem Value)).any (·.1.isNone)) = false := by
    show ((false || (backTo pos (starEach es env)).any (·.1)) || false) = false
    rw [hpl]; rfl
  unfold callWith
  refine wpAny_bind (wpAny_holding (wpAny_mono (Calls.evalArgs_plain (Q := fun a s1 => (∃ ox, s1.heap.get? x = some ox ∧ ox.data = .plain) ∧ wpAny M A (call (.ref x) a.pos a.kw) Q E s1) h) (fun a s1 ⟨⟨ox, ho, hd⟩, hc⟩ => wpAny_bind (wpAny_standAt ?_)) fun _ _ z => z))
  have hk : PySem.W.Looks M s1.heap (keeperOf (.ref x)) .caller := (PySem.W.Looks.ld (part := none) ho).andThen (by simp only [hd]; exact .now)
  simp only [hno]
  refine wpAny_bind (hk.here ?_)
  exact wpAny_bind (wpAny_mono (wpAny_operateT hc) (fun r s2 hr => wpAny_bind (wpAny_holding (wpAny_point (wpAny_pure hr)))) fun _ _ z => z)
end
section
variable {X : Cx} {CX : CXT} {k : Nat} {C f : Addr} {fd : FuncData} {ps : List Str} {sp : Sp} {E : L2.St → XK} {y : Str} {q pos : Pos} {e : Expr} {es : List Expr} {to : TE} {t : TA}
def tInst (C : Addr) (sp : Sp) (E : L2.St → XK) (to : TE) (t : TA) : TE := fun σ H Q => to σ H fun x H1 => ∃ a dx fs, x = .ref a ∧ H1 a = some (.ins C dx fs) ∧ t σ H1 fun vs H2 => (∃ dx fs, H2 a = some (.ins C dx fs)) ∧ sp (x :: vs) H2 Q (E σ)
theorem pe_inst (he : PE X (.Name y q) to) (FN : FnOk X.prog X.w X.K X.mg X.base CX k f fd ps sp) (hr : Room k X.A) (hb : Binds X.K fd ps []) (hs : PySem.W.findIn X.K (.ref C) "__call__" = some (some (.ref f))) (hf : PySem.W.isFn X.K (.ref f) = true) (hfn : PySem.W.fnIn X.K f = true)
    (hx : ∀ σ, PassesAt CX X σ (E σ)) (ha : PA X (e :: es) t) (hst : starEach (e :: es) X.env = (false, eval e X.env) :: starEach es X.env) (hpl : (backTo pos (starEach es X.env)).any (·.1) = false) :
    PE X (.Call (.Name y q) (e :: es) [] pos) (tInst C sp E to t) := by
  refine ⟨fun pins s σ H Q I h => ?_⟩
  refine wpAny_Call_Name_kw (thn (he.run pins s σ H _ I h) fun v s1 ⟨x, H1, I1, r1, a, dx, fs, ex, ha1, q1⟩ => ?_)
  subst ex
  obtain rfl : v = Value.ref a := r1
  refine callWith_inst (thn (ha.run pos pins s1 σ H1 _ I1 q1) fun us s2 ⟨vs, H2, I2, r2, ⟨dx2, fs2, ha2⟩, q2⟩ => ?_) hst hpl
  obtain ⟨mA, J, _⟩ := ins_get I2.hok ha2
  obtain ⟨od, J, _⟩ := J.look
  refine ⟨⟨_, J.at_, rfl⟩, ?_⟩
  have hl := FN.len _ _ _ _ q2
  have r3 : Vals (V.ref a :: vs) (Value.ref a :: us) := .cons rfl r2
  have hbd := hb s2 (Value.ref a :: us) I2.kIn (by rw [List.append_nil, ← r3.length]; exact hl)
  rw [List.append_nil] at hbd
  refine wpAny_call (PySem.W.kco_code I2.kIn J rfl hs hf hfn (codeAny_mono (FN.run X.A X.stack s2 H2 ⟨Value.ref a :: us, []⟩ (Value.ref a :: us) (V.ref a :: vs) Q (E σ) hr I2.env0 hbd r3 q2) fun r s' hq => ?_))
  cases r with
  | error er => exact hx σ pins H2 s2 er s' I2 hq
  | ok fl =>
    cases fl with
    | ret u => exact I2.after hq
    | next => exact False.elim hq
    | brk => exact False.elim hq
    | cont => exact False.elim hq
end
section
variable {ca : Ca} {X : Cx} {W : WX} {H0 : Hp} {env : En} {n k : Nat} {c : String} {ms : List Md} {m : Md} {f : List D → R D} {y : Str} {ro : R D} {e : Expr} {es : List Expr} {rs : R (List D)} {p pos : Pos}
theorem se_inst (Df : ODef X.prog X.w X.K X.mg X.base ca c "__call__" n (.r :: ms) m f) (hr : Room k X.A) (tk : L2N.Takes X W) (ho : SE ca X W H0 .r env (.Name y p) ro) (ha : SA ca X W H0 ms env (e :: es) rs) (hnk : n ≤ k := by decide)
    (hst : starEach (e :: es) X.env = (false, eval e X.env) :: starEach es X.env := by rfl) (hpl : (backTo pos (starEach es X.env)).any (·.1) = false := by rfl) :
    SE ca X W H0 m env (.Call (.Name y p) (e :: es) [] pos) (ro.bind fun d0 => (isOf c d0).bind fun d => rs.bind fun ds => f (d :: ds)) := fun F H σ Q le ok hp => by
  obtain ⟨fa, fd, ps, G, bd, hfi, hfn, hsf, hin⟩ := Df.ex
  refine ⟨_, pe_inst pe_W G (hr.mono hnk) bd hfi hfn hin (fun σ => L2N.passAt tk σ) pa_W hst hpl, ho.then le ok hp fun d v F1 H1 _ g1 q1 ok1 hp1 => ?_⟩
  cases d with
  | ins c' ns xs =>
    by_cases hcc : c' = Str.ofString c
    · rw [show isOf (Str.ofString c) (.ins c' ns xs) = .ok (.ins c' ns xs) from if_pos hcc] at hp1
      subst hcc
      obtain ⟨a, dx, fs, rfl, h1, h2, r⟩ := ar_ins g1.fh q1
      refine ⟨a, dx, fs, rfl, h1, ha.then g1.fh ok1 hp1 fun ds vs F2 H2 _ g2 q2 ok2 hp2 => ?_⟩
      have q1' := AR.mono g2 q1
      obtain ⟨a', dx', fs', e', h1', _, _⟩ := ar_ins g2.fh q1'
      cases e'
      exact ⟨⟨dx', fs', h1'⟩, F2, _, g2.fh, .consR q1' q2, ok2.st.monoH ok2.h0, hp2⟩
    · rw [show isOf (Str.ofString c) (.ins c' ns xs) = .bad from if_neg hcc] at hp1
      exact hp1.elim
  | _ => exact hp1.elim
end
end Um

namespace Um
open L2 PySem PySem.Spec PyProof.Rows

/-! ## try with any number of clauses, each with or without a name -/
/-- one clause: its class's value, the slot of its name, what its suite wishes -/
abbrev Clause := Value × Option Nat × (Addr → Value → Option Addr → TS)
/-- the ends of a suite whose name goes at its end -/
def endsAs (D : Ends) : Option Nat → Ends
  | none => D
  | some i => { nx := fun σ H => D.nx (σ.set i none) H, rt := D.rt, bk := fun σ H => D.bk (σ.set i none) H, ct := fun σ H => D.ct (σ.set i none) H }
def slotAs (σ : L2.St) (a : Addr) : Option Nat → L2.St
  | none => σ
  | some i => σ.set i (some (.ref a))
def wClauses (K : PySem.W.Frag) (Wout : WX) (D : Ends) : List Clause → WX
  | [] => Wout
  | (c, o, ts) :: l => fun cls d σ H => ∃ b, PySem.W.exmOne K cls c = some b ∧ (b = true → ∀ a, H a = none → ts a cls d (endsAs D o) (slotAs σ a o) H) ∧ (b = false → wClauses K Wout D l cls d σ H)
inductive ClausesOk (X : Cx) : List ExceptHandler → List Clause → Prop
  | nil : ClausesOk X [] []
  | cons {x : Str} {c : Value} {ts : Addr → Value → Option Addr → TS} {b₀ : Stmt} {suite : List Stmt} {np pos : Pos} {hds : List ExceptHandler} {l : List Clause} {o : Option Nat} {on : Option Str}
      (hn : (on = none ∧ o = none) ∨ ∃ n i, on = some n ∧ o = some i ∧ X.N[i]? = some n ∧ X.env.kindOf n = some .local) (hc : Names X x c)
      (hsu : ∀ a oe cls d pn, L2N.Zn cls d oe → (∃ vs, oe.data = .fields vs) → PSs (X.suite a ((a, oe) :: pn)) (b₀ :: suite) (ts a cls d)) (r : ClausesOk X hds l) :
      ClausesOk X (.ExceptHandler (some (.Name x np)) on (b₀ :: suite) pos :: hds) ((c, o, ts) :: l)
/-- where a try stands when an exception has landed there -/
structure Landed (X : Cx) (pins : List (Addr × Obj)) (σ : L2.St) (H : Hp) (B : Heap) (a : Addr) (cls : Value) (d : Option Addr) (sI s : Shared) : Prop where
  ok : X.Ok
  inv : Inv X pins σ H sI
  below : ∀ b o, sI.heap.get? b = some o → b ∉ frs X.stack → B.get? b = some o
  free : H a = none
  os : s.os = sI.os
  ag : AllBare s.gens
  up : sI.heap.UpToSlots s.heap
  fl : HandSPX.FlyingZ B (X.env :: X.outer) a (L2N.Zn cls d) s.heap
section
variable {X : Cx} {pins : List (Addr × Obj)} {σ : L2.St} {H : Hp} {D : Ends} {Wout : WX} {a : Addr} {B : Heap} {sI s : Shared} {cls : Value} {d : Option Addr}
theorem Landed.here (L : Landed X pins σ H B a cls d sI s) : Inv X pins σ H s := L.inv.landed L.below L.fl.1 L.up L.os L.ag
theorem Landed.move {h : Heap} (L : Landed X pins σ H B a cls d sI s) (fl : HandSPX.FlyingZ B (X.env :: X.outer) a (L2N.Zn cls d) h) (up : s.heap.UpToSlots h) : Landed X pins σ H B a cls d sI { s with heap := h } :=
  ⟨L.ok, L.inv, L.below, L.free, L.os, L.ag, L.up.trans up, fl⟩
/-- the suite's own view of the state -/
theorem Landed.suite (L : Landed X pins σ H B a cls d sI s) (hf : X.env.frame = some X.env.locals) : ∃ oe, L2N.Zn cls d oe ∧ (∃ vs, oe.data = .fields vs) ∧ Inv (X.suite a ((a, oe) :: (X.pn ++ pins))) [] σ H s := by
  obtain ⟨oe, vs, he, hz, hd⟩ := L.fl.there
  have off : ∀ e ∈ X.env :: X.outer, ∀ f, e.frame = some f → a ≠ f := fun e hm f ef z => by
    obtain ⟨_, o, eo, no⟩ := L.fl.2.2.1.mem (List.mem_filterMap.mpr ⟨e, hm, by rw [ef, ← z]⟩)
    rw [he] at eo
    cases eo
    exact no _ hd
  refine ⟨oe, hz, ⟨vs, hd⟩, L.here.suite he hd L.free (off _ List.mem_cons_self _ hf) fun hm => ?_⟩
  obtain ⟨e, h1, h2⟩ := List.mem_filterMap.mp hm
  exact off e (List.mem_cons_of_mem _ h1) a h2 rfl
/-- no clause is left: the exception goes on -/
theorem Landed.on (L : Landed X pins σ H B a cls d sI s) (hs : X.stack = X.env :: X.outer) (hf : X.env.frame = some X.env.locals) (tk : L2N.Takes X Wout) (w : Wout cls d σ H) : wpAny (model X.prog X.w) X.A (handleBy (.ref a) X.env []) (SP X pins D) X.xe s := by
  refine wpAny_handleBy_nil ?_
  have fl := L.fl
  obtain ⟨_, _, _, _, _, T, _, _, he, _, hd, h1, _⟩ := id fl
  have up1 : wpAny (model X.prog X.w) X.A (setFlight (.ref a) X.env.frame) (fun _ s2 => wpAny (model X.prog X.w) X.A (throw (.ref a) : Sem Flow) (SP X pins D) X.xe s2) X.xe s := by
    rw [hf]
    exact HandSPX.setFlight_upZ fl fun h2 hh up => wpAny_throw (tk _ _ ⟨a, B, sI, pins, σ, H, cls, d, rfl, L.inv, L.below, L.up.trans up, .inr (.inr (by rw [hs]; exact hh)), L.free, L.os, L.ag, w⟩)
  unfold PySem.passOn
  refine wpAny_bind (wpAny_field he hd h1 ?_)
  rw [if_neg (show ¬ (Value.ref T == Value.none) = true by simp)]
  first
    | exact wpAny_bind (wpAny_pure (wpAny_bind up1))
    | exact wpAny_bind up1
theorem clauses_run (L : Landed X pins σ H B a cls d sI s) (hs : X.stack = X.env :: X.outer) (hf : X.env.frame = some X.env.locals) (hN : X.N.Nodup) (tk : L2N.Takes X Wout) :
    ∀ {hds : List ExceptHandler} {l : List Clause}, ClausesOk X hds l → wClauses X.K Wout D l cls d σ H → wpAny (model X.prog X.w) X.A (handleBy (.ref a) X.env hds) (SP X pins D) X.xe s := by
  intro hds l hk
  induction hk with
  | nil => exact L.on hs hf tk
  | @cons x c ts b₀ suite np pos hds l o on hn hc hsu r ih =>
    rintro ⟨b, hb, hyes, hno⟩
    obtain ⟨oe, hz, hv, S⟩ := L.suite hf
    obtain ⟨_, _, he, hz', _⟩ := L.fl.there
    refine wpAny_handleBy_cons (codeAny_handlers_test ?_) (by intro q; cases q)
    have hty : PySem.W.Looks (model X.prog X.w) s.heap (typeOf (.ref a)) cls := fun A Q E s1 k q => wpAny_typeOf_ref (k _ _ he) (by rw [hz'.1]; exact q)
    have hcl : ∀ {Q : Value → Shared → Prop} {E : Value → Shared → Prop}, Q c s → wpAny (model X.prog X.w) (X.A.mark (some (.ref a))) (eval (.Name x np) X.env) Q E s := fun {Q E} q => by
      obtain ⟨hg, hdb, hm | ⟨hm, hbt, hnn⟩⟩ := hc
      · exact ld_glob (X := X.suite a ((a, oe) :: (X.pn ++ pins))) S hg hm q hdb
      · exact ld_blt (X := X.suite a ((a, oe) :: (X.pn ++ pins))) S hg hm hbt q hnn hdb
    refine hcl ((PySem.W.exm_one (M := model X.prog X.w) L.here.kIn hty hb).here ?_)
    cases b with
    | false => exact ih (hno rfl)
    | true =>
      have go := hyes rfl a L.free
      rcases hn with ⟨rfl, rfl⟩ | ⟨n, i, rfl, rfl, hi, hln⟩
      · refine codeAny_handlers_suite (HandSPX.lands_againZ L.fl fun h2 fl2 up2 => ?_)
        obtain ⟨oe2, hz2, hv2, S2⟩ := (L.move fl2 up2).suite hf
        refine wpAny_mono ((hsu a oe2 cls d (X.pn ++ pins) hz2 hv2).run [] _ _ H _ S2 go) (fun f s6 q6 => ?_) fun _ _ z => False.elim z
        cases f with
        | ret u =>
          obtain ⟨v, σ6, H6, S6, r6, q6⟩ := q6
          exact ⟨v, σ6, H6, S6.unsuite L.ok, r6, q6⟩
        | next =>
          obtain ⟨σ6, H6, S6, q6⟩ := q6
          exact ⟨σ6, H6, S6.unsuite L.ok, q6⟩
        | brk =>
          obtain ⟨σ6, H6, S6, q6⟩ := q6
          exact ⟨σ6, H6, S6.unsuite L.ok, q6⟩
        | cont =>
          obtain ⟨σ6, H6, S6, q6⟩ := q6
          exact ⟨σ6, H6, S6.unsuite L.ok, q6⟩
      · refine codeAny_handlers_suite_as (HandSPX.lands_againZ L.fl fun h2 fl2 up2 => ?_)
        obtain ⟨oe2, hz2, hv2, S2⟩ := (L.move fl2 up2).suite hf
        refine store_ok (X := X.suite a ((a, oe2) :: (X.pn ++ pins))) (v := .ref a) S2 hN hi (.inl hln) rfl (fun s5 S5 => ?_) (.inr hln)
        refine wpAny_mono ((hsu a oe2 cls d (X.pn ++ pins) hz2 hv2).run [] s5 _ H _ S5 go) (fun f s6 q6 => ?_) fun _ _ z => False.elim z
        cases f with
        | ret u =>
          obtain ⟨v, σ6, H6, S6, r6, q6⟩ := q6
          exact gone_ok (S6.unsuite L.ok) hN hi hln fun s7 J7 => ⟨v, _, H6, J7, r6, q6⟩
        | next =>
          obtain ⟨σ6, H6, S6, q6⟩ := q6
          exact gone_ok (S6.unsuite L.ok) hN hi hln fun s7 J7 => ⟨_, H6, J7, q6⟩
        | brk =>
          obtain ⟨σ6, H6, S6, q6⟩ := q6
          exact gone_ok (S6.unsuite L.ok) hN hi hln fun s7 J7 => ⟨_, H6, J7, q6⟩
        | cont =>
          obtain ⟨σ6, H6, S6, q6⟩ := q6
          exact gone_ok (S6.unsuite L.ok) hN hi hln fun s7 J7 => ⟨_, H6, J7, q6⟩
theorem ps_tryN {X : Cx} {Wout : WX} {body : List Stmt} {h₀ : ExceptHandler} {hds : List ExceptHandler} {l : List Clause} {pos : Pos} {tb : WX → TS} (hs : X.stack = X.env :: X.outer) (hf : X.env.frame = some X.env.locals) (hN : X.N.Nodup) (tk : L2N.Takes X Wout)
    (hb : ∀ W pn xe, L2N.Takes (X.tr pn xe) W → PassesOwn (model X.prog X.w) X.A X.env xe → PSs (X.tr pn xe) body (tb W)) (hh : ClausesOk X (h₀ :: hds) l) :
    PS X (.Try body (h₀ :: hds) [] [] pos) (fun D σ H => tb (wClauses X.K Wout D l) D σ H) := by
  refine ⟨fun pins s σ H D I h => ?_⟩
  have ok := I.ok
  refine wpAny_Try_except (wpAny_mono ((hb (wClauses X.K Wout D l) (X.pn ++ pins) _ (fun u s' xx => ?_) PassesOwn.looking).run [] s σ H D (I.toTry _) h) (fun f s1 q => ?_) (fun e s1 he => he))
  · obtain ⟨a, B, sI, pins', σ', H', cls, d, rfl, J', nb, up, sky, na, os, ag, w⟩ := xx
    have sky' : L2.Sky B (X.env :: X.outer) a (L2N.Zn cls d) X.env.locals s'.heap := by rw [← hs]; exact sky
    exact L2N.Sky.land L2N.Zn.steady (by rw [ok.frames, hs]) hf sky' fun h3 fl3 up3 => clauses_run (s := { s' with heap := h3 }) ⟨ok, J'.ofTry ok, nb, na, os, ag, up.trans up3, fl3⟩ hs hf hN tk hh w
  · cases f with
    | ret u =>
      obtain ⟨v, σ', H', J', r, q⟩ := q
      exact ⟨v, σ', H', J'.ofTry ok, r, q⟩
    | next =>
      obtain ⟨σ', H', J', q⟩ := q
      exact wpAny_execs_nil ⟨σ', H', J'.ofTry ok, q⟩
    | brk =>
      obtain ⟨σ', H', J', q⟩ := q
      exact ⟨σ', H', J'.ofTry ok, q⟩
    | cont =>
      obtain ⟨σ', H', J', q⟩ := q
      exact ⟨σ', H', J'.ofTry ok, q⟩
end
/-! ### the same over data -/
def exElse {α : Type} (tbl : List (Str × Bool)) (x : Exc) (r e : R α) : R α := match tbl.lookup x.cls with
  | some true => noEr r
  | some false => e
  | none => .bad
/-- what a suite without an end of its own leads to -/
def jAs {α S : Type} (envL : S → En) (K : S → R α) : Option Nat → Jp α
  | none => fun e' r' => ∃ s, EnLe (envL s) e' ∧ r' = K s
  | some i => fun e' r' => ∃ s, EnLe (envL s) (e'.set i none) ∧ r' = K s
def envAs (envH : En) (x : Sl) : Option Nat → En
  | none => envH
  | some i => envH.set i (some x)
inductive SHs {α S : Type} (P : Pt α) (envH : En) (envL : S → En) (K : S → R α) : List ExceptHandler → (Exc → R α) → Prop
  | nil : SHs P envH envL K [] (fun x => .er x)
  | cons {x : Str} {cC : Value} {b₀ : Stmt} {suite : List Stmt} {np pos : Pos} {hds : List ExceptHandler} {hand more : Exc → R α} {on : Option Str} (o : Option Nat) (tbl : List (Str × Bool))
      (hcls : ∀ c bb, tbl.lookup c = some bb → PySem.W.exmOne P.X.K (.ref (P.ca c)) cC = some bb) (hc : Names P.X x cC)
      (hn : (on = none ∧ o = none) ∨ ∃ n i, on = some n ∧ o = some i ∧ P.X.N[i]? = some n ∧ P.X.env.kindOf n = some .local)
      (hH : ∀ F1 a oe pn xc d, HInf P.X.K P.ca F1 a oe xc d → (P.hand F1 a oe pn).GoodH → SSs (P.hand F1 a oe pn) (jAs envL K o) jNo jNo (envAs envH (.e a d xc) o) (b₀ :: suite) (hand xc))
      (r : SHs P envH envL K hds more) : SHs P envH envL K (.ExceptHandler (some (.Name x np)) on (b₀ :: suite) pos :: hds) (fun xc => exElse tbl xc (hand xc) (more xc))
theorem SHs.as {α S : Type} {P : Pt α} {envH : En} {envL : S → En} {K : S → R α} {x n : Str} {cC : Value} {b₀ : Stmt} {suite : List Stmt} {np pos : Pos} {hds : List ExceptHandler} {hand more : Exc → R α} (i : Nat) (tbl : List (Str × Bool))
    (hcls : ∀ c bb, tbl.lookup c = some bb → PySem.W.exmOne P.X.K (.ref (P.ca c)) cC = some bb) (hc : Names P.X x cC)
    (hH : ∀ F1 a oe pn xc d, HInf P.X.K P.ca F1 a oe xc d → (P.hand F1 a oe pn).GoodH → SSs (P.hand F1 a oe pn) (fun e' r' => ∃ s, EnLe (envL s) (e'.set i none) ∧ r' = K s) jNo jNo (envH.set i (some (.e a d xc))) (b₀ :: suite) (hand xc))
    (r : SHs P envH envL K hds more) (hi : P.X.N[i]? = some n := by rfl) (hln : P.X.env.kindOf n = some .local := by rfl) : SHs P envH envL K (.ExceptHandler (some (.Name x np)) (some n) (b₀ :: suite) pos :: hds) (fun xc => exElse tbl xc (hand xc) (more xc)) :=
  SHs.cons (some i) tbl hcls hc (.inr ⟨n, i, rfl, rfl, hi, hln⟩) hH r
theorem SHs.un {α S : Type} {P : Pt α} {envH : En} {envL : S → En} {K : S → R α} {x : Str} {cC : Value} {b₀ : Stmt} {suite : List Stmt} {np pos : Pos} {hds : List ExceptHandler} {hand more : Exc → R α} (tbl : List (Str × Bool))
    (hcls : ∀ c bb, tbl.lookup c = some bb → PySem.W.exmOne P.X.K (.ref (P.ca c)) cC = some bb) (hc : Names P.X x cC)
    (hH : ∀ F1 a oe pn xc d, HInf P.X.K P.ca F1 a oe xc d → (P.hand F1 a oe pn).GoodH → SSs (P.hand F1 a oe pn) (fun e' r' => ∃ s, EnLe (envL s) e' ∧ r' = K s) jNo jNo envH (b₀ :: suite) (hand xc))
    (r : SHs P envH envL K hds more) : SHs P envH envL K (.ExceptHandler (some (.Name x np)) none (b₀ :: suite) pos :: hds) (fun xc => exElse tbl xc (hand xc) (more xc)) :=
  SHs.cons none tbl hcls hc (.inl ⟨rfl, rfl⟩) hH r
section
variable {α : Type} {P : Pt α} {nx bk ct : Jp α} {env : En} {rest : List Stmt}
theorem exElse_bad {tbl : List (Str × Bool)} {x : Exc} {r e : R α} (h : tbl.lookup x.cls = none) : exElse tbl x r e = .bad := by unfold exElse; rw [h]
theorem exElse_t {tbl : List (Str × Bool)} {x : Exc} {r e : R α} (h : tbl.lookup x.cls = some true) : exElse tbl x r e = noEr r := by unfold exElse; rw [h]
theorem exElse_f {tbl : List (Str × Bool)} {x : Exc} {r e : R α} (h : tbl.lookup x.cls = some false) : exElse tbl x r e = e := by unfold exElse; rw [h]
theorem noEr_is {r s : R α} (h : noEr r = s) (hs : s ≠ .bad) : r = s ∧ ∀ z, s ≠ .er z := by
  cases r with
  | ok a => subst h; exact ⟨rfl, fun z e => nomatch e⟩
  | er x => exact absurd h.symm hs
  | bad => exact absurd h.symm hs
theorem hoNo (hP : P.envH = []) (F H : Hp) (σ : L2.St) : HOk P F H σ := ⟨.inl (by rw [hP]; exact Nat.zero_le _), fun i s h => by rw [hP] at h; simp at h⟩
/-- the clauses wish what the data tell -/
theorem shs_ok (G : P.Good) {S : Type} {envH : En} {envL : S → En} {K : S → R α} (hno : noOwn envH = true) (hlen : 1 < envH.length) (hP : P.envH = []) {hds : List ExceptHandler} {hand : Exc → R α} (h : SHs P envH envL K hds hand) :
    ∃ l, ClausesOk P.X hds l ∧ ∀ D : Ends, D.rt = P.Q → (∀ s σ H, At P (envL s) (K s) σ H → D.nx σ H) → ∀ F1 H1 σ1 xc d, Go P.F0 P.H0 F1 H1 → HOk { P with envH := envH } F1 H1 σ1 → ExcRep P.X.K P.ca F1 (.ref (P.ca xc.cls)) d xc → hand xc = P.res →
      wClauses P.X.K P.W D l (.ref (P.ca xc.cls)) d σ1 H1 := by
  induction h with
  | nil => exact ⟨[], .nil, fun D _ _ F1 H1 σ1 xc d g _ er ae => G.er xc F1 H1 σ1 ae.symm g (hoNo hP _ _ _) _ _ er⟩
  | @cons x cC b₀ suite np pos hds hand more on o tbl hcls hc hn hH r ih =>
    obtain ⟨l, hl, hw⟩ := ih
    refine ⟨(cC, o, fun a cls d D σ H => ∀ oe pn, L2N.Zn cls d oe → (∃ vs, oe.data = .fields vs) → WSs (P.X.suite a ((a, oe) :: pn)) (b₀ :: suite) D σ H) :: l, .cons hn hc (fun a oe cls d pn z f => pss_imp fun D σ H h => h oe pn z f) hl, ?_⟩
    intro D hr hk F1 H1 σ1 xc d g ho er ae
    cases hlk : tbl.lookup xc.cls with
    | none =>
      have ae' : exElse tbl xc (hand xc) (more xc) = P.res := ae
      rw [exElse_bad hlk] at ae'
      exact absurd ae'.symm G.nb
    | some bb =>
      refine ⟨bb, hcls _ _ hlk, fun hb a ha oe pn z f => ?_, fun hb => ?_⟩
      · subst hb
        have ae' : exElse tbl xc (hand xc) (more xc) = P.res := ae
        rw [exElse_t hlk] at ae'
        obtain ⟨hres, hner⟩ := noEr_is ae' G.nb
        have en0 : EnOk P.X.K P.ca P.H0 F1 H1 σ1 envH := by
          refine ⟨g.h, ?_, fun j s hj => ?_, fun j k x y h1 => absurd h1 (noOwn_at hno), (G.st.monoF g.f)⟩
          · rcases ho.1 with h | h
            · exact absurd (show envH.length ≤ 1 from h) (by omega)
            · exact h
          · obtain ⟨v, h1, h2⟩ := ho.2 j s hj
            refine ⟨v, h1, ?_⟩
            cases s with
            | o x => exact absurd hj (noOwn_at hno)
            | d x => exact h2
            | b x => exact h2
            | p u => exact h2
            | e a dd x => exact h2
        have GH : (P.hand F1 a oe pn).GoodH := ⟨G.nd, PassesOwn.never, fun d v F H e g2 q => G.rt d v F H e (go_at g g2) q, fun x F H σ e g2 h => absurd e (hner x), G.nb, G.rb, G.st.monoF g.f⟩
        have st : ∀ (o : Option Nat), At (P.hand F1 a oe pn) (envAs envH (.e a d xc) o) (hand xc) (slotAs σ1 a o) H1 := fun o => by
          refine ⟨F1, ⟨Le.refl F1, g.h, g.fh, fun _ _ _ n => n⟩, ?_, ⟨.inl (Nat.zero_le _), fun i s h => by cases i <;> cases h⟩, hres⟩
          cases o with
          | none => exact en0
          | some i => exact EnOk.setE (hx := er) en0
        refine hH F1 a oe pn xc d ⟨z, f⟩ GH (endsAs D o) ?_ ?_ (fun _ _ z => z.elim) (fun _ _ z => z.elim) _ _ (st o)
        · cases o <;> exact hr
        · intro e2 r2 h2 σ2 H2 ⟨F2, a2⟩
          cases o with
          | none =>
            obtain ⟨s, l2, rfl⟩ := h2
            exact hk s _ H2 ⟨F2, go_at g a2.go, a2.en.weak l2, hoNo hP _ _ _, a2.eq⟩
          | some i =>
            obtain ⟨s, l2, rfl⟩ := h2
            exact hk s _ H2 ⟨F2, go_at g a2.go, (a2.en.setNone).weak l2, hoNo hP _ _ _, a2.eq⟩
      · subst hb
        have ae' : exElse tbl xc (hand xc) (more xc) = P.res := ae
        rw [exElse_f hlk] at ae'
        exact hw D hr hk F1 H1 σ1 xc d g ho er ae'
theorem ss_tryN (G : P.Good) (tk : L2N.Takes P.X P.W) {S : Type} {body : List Stmt} {h₀ : ExceptHandler} {hds : List ExceptHandler} {pos : Pos} {b : R (Fl S)} {hand : (S → R α) → Exc → R α} {after : S → R α} (envH : En) (envL : S → En)
    (hB : ∀ pn xe W, L2N.Takes (P.X.tr pn xe) W → (P.body pn xe W envH b).Good → SSs (P.body pn xe W envH b) (jOf envL fun s => .ok (.nxt s)) jNo jNo env body b)
    (hH : ∀ K, SHs P envH envL K (h₀ :: hds) (hand K)) (hk : ∀ s, SSs P nx bk ct (envL s) rest (after s)) (hle : EnLe envH env) (hno : noOwn envH = true := by rfl) (hlen : 1 < envH.length := by exact Nat.succ_lt_succ (Nat.succ_pos _)) (hP : P.envH = [] := by rfl)
    (hst : P.X.stack = P.X.env :: P.X.outer := by rfl) (hfr : P.X.env.frame = some P.X.env.locals := by rfl) :
    SSs P nx bk ct env (.Try body (h₀ :: hds) [] [] pos :: rest) (joinC (fun k => tryC b (hand k) k P.ret) after) := fun D hr hn hbk hct σ H ⟨F, a⟩ => by
  obtain ⟨l, hl, hw⟩ := shs_ok G hno hlen hP (hH after)
  refine .cons (ps_tryN hst hfr G.nd tk (tb := fun W D σ H => ∀ pn xe, L2N.Takes (P.X.tr pn xe) W → PassesOwn (model P.X.prog P.X.w) P.X.A P.X.env xe → WSs (P.X.tr pn xe) body D σ H) (fun W pn xe t p => pss_imp fun D σ H h => h pn xe t p) hl) ?_
  intro pn xe t p
  have ae : tryC b (hand after) after P.ret = P.res := a.eq
  have GB : (P.body pn xe (wClauses P.X.K P.W { D with nx := fun σ' H' => WSs P.X rest D σ' H' } l) envH b).Good := by
    refine ⟨G.nd, G.calm, p, fun d v F1 H1 e g r => G.rt d v F1 H1 ?_ g r, fun xc F1 H1 σ1 e g ho c d er => ?_, fun e => ?_, (fun d e => nomatch e), G.st⟩
    · have e' : b = .ok (.ret d) := e
      rw [← ae, e']; rfl
    · have e' : b = .er xc := e
      rw [e'] at ae
      have ec : c = .ref (P.ca xc.cls) := er.1
      subst ec
      exact hw { D with nx := fun σ' H' => WSs P.X rest D σ' H' } hr (fun s σ2 H2 h2 => hk s D hr hn hbk hct σ2 H2 h2) F1 H1 σ1 xc d g ho er ae
    · have e' : b = .bad := e
      rw [e'] at ae
      exact G.nb ae.symm
  refine hB pn xe _ t GB { D with nx := fun σ' H' => WSs P.X rest D σ' H' } hr ?_ (fun _ _ z => z.elim) (fun _ _ z => z.elim) σ H ⟨F, a.go, a.en, ?_, rfl⟩
  · rintro e2 r2 ⟨s, l2, rfl⟩ σ2 H2 ⟨F2, a2⟩
    have eb : b = .ok (.nxt s) := a2.eq.symm
    rw [eb] at ae
    exact hk s D hr hn hbk hct σ2 H2 ⟨F2, a2.go, a2.en.weak l2, hoNo hP _ _ _, ae⟩
  · refine ⟨.inr (by rw [a.en.len]; exact hle.length.symm), fun j s hj => ?_⟩
    obtain ⟨v, h1, h2⟩ := a.en.at_ j s (hle.get j s hj)
    refine ⟨v, h1, ?_⟩
    cases s with
    | o x => trivial
    | d x => exact h2
    | b x => exact h2
    | p u => exact h2
    | e a dd x => exact h2
end
end Um

namespace Um
open L2 PySem PySem.Spec PyProof.Rows
section
variable {ca : Ca} {X : Cx} {W : WX} {H0 F H : Hp} {env : En}
def dRngT1 : D → R D
  | .int n => if 0 ≤ n ∧ n ≤ 16777216 then .ok (.tup (rngD 0 1 n.toNat)) else .bad
  | _ => .bad
/-- tuple(range(e)) -/
theorem se_tupRg1 {a : Expr} {ra : R D} {p p' pos pos' : Pos} (hc : X.calm = true) (h : SE ca X W H0 .r env a ra) (hm : X.mg "range" = none) (hml : X.mg "tuple" = none) (hg : Gl X "range" := by rfl) (hgl : Gl X "tuple" := by rfl)
    (na : starEach [a] X.env = (false, eval a X.env) :: starEach [] X.env := by rfl) (nb : starEach [.Call (.Name "range" p) [a] [] pos] X.env = (false, eval (.Call (.Name "range" p) [a] [] pos) X.env) :: starEach [] X.env := by rfl) :
    SE ca X W H0 .v env (.Call (.Name "tuple" p') [.Call (.Name "range" p) [a] [] pos] [] pos') (ra.bind dRngT1) := fun F H σ Q le ok hp => by
  refine ⟨_, pe_tupRgN (m := ca tmK) hc hgl hml (prg_1 hg hm pe_W na) nb, h.then le ok hp fun d v F1 H1 _ g q _ hp1 => ?_⟩
  cases d with
  | int n =>
    unfold dRngT1 at hp1
    dsimp only at hp1
    split at hp1
    · rename_i hn
      refine ⟨n, ar_int q, RgOk.of_le (by omega) (by omega) (by omega) (by omega), fun t u ht hu => ?_⟩
      have rr := reps_rg (K := X.K) (ca := ca) (F := F1) 0 n
      rw [Int.sub_zero] at rr
      exact hp1 _ _ _ (Go.new g.fh ht _) (.tup (SqN.new hu) (rr.mono (Le.new (g.fh.free ht))))
    · exact hp1.elim
  | _ => exact hp1.elim
end
end Um

namespace Um
open L2 PySem PySem.Spec PyProof.Rows
section
variable {α : Type} {P : Pt α} {nx bk ct : Jp α} {env : En} {rest : List Stmt}
/-- the way on behind a branch: the rest itself, walked once for each branch -/
def jRest (P : Pt α) (nx bk ct : Jp α) (rest : List Stmt) : Jp α := fun e r => SSs P nx bk ct e rest r
theorem ss_nilD {bk' ct' : Jp α} {r : R α} (h : SSs P nx bk ct env rest r) : SSs P (jRest P nx bk ct rest) bk' ct' env [] r := ss_nil h
theorem ss_ifD (G : P.GoodH) {c : Expr} {A B : List Stmt} {tc : R Bool} {rA rB : R α} {pos : Pos} (h : ST P.ca P.X P.W P.H0 env c tc)
    (hA : SSs P (jRest P nx bk ct rest) bk ct env A rA) (hB : SSs P (jRest P nx bk ct rest) bk ct env B rB) :
    SSs P nx bk ct env (.If c A B pos :: rest) (tc.bind fun b => if b = true then rA else rB) := fun D hr hn hb hc σ H ⟨F, a⟩ => by
  refine .cons (ps_if pt_W pss_W pss_W) ?_
  refine a.evT G h fun b F' H' _ g a' => ?_
  have hj : ∀ e' r', jRest P nx bk ct rest e' r' → ∀ σ H, At P e' r' σ H → WSs P.X rest D σ H := fun e' r' hs σ H q => hs D hr hn hb hc σ H q
  cases b with
  | true => exact hA { D with nx := fun σ' H' => WSs P.X rest D σ' H' } hr hj hb hc σ H' ⟨F', a'⟩
  | false => exact hB { D with nx := fun σ' H' => WSs P.X rest D σ' H' } hr hj hb hc σ H' ⟨F', a'⟩
end
def cutF (F : Hp) (p : Addr) : Hp := fun b => if b = p then none else F b
theorem cut_ne {F : Hp} {p b : Addr} {u : HO} (h : F b = some u) (n : b ≠ p) : cutF F p b = some u := by unfold cutF; rw [if_neg n]; exact h
theorem cut_same {F : Hp} {p : Addr} : cutF F p p = none := if_pos rfl
theorem cut_le {F : Hp} {p : Addr} : Le (cutF F p) F := fun b u h => by
  unfold cutF at h
  split at h
  · cases h
  · exact h
section
variable {K : PySem.W.Frag} {ca : Ca} {F : Hp} {p : Addr} {us : List V}
theorem cut_t (hp : F p = some (.lst us)) {a : Addr} {vs : List V} (h : SqT K F a vs) : SqT K (cutF F p) a vs := by
  rcases h with (h | ⟨o, h⟩) | h
  · exact .inl (.inl (cut_ne h fun e => by subst e; rw [hp] at h; cases h))
  · exact .inl (.inr ⟨o, cut_ne h fun e => by subst e; rw [hp] at h; cases h⟩)
  · exact .inr h
theorem cut_n (hp : F p = some (.lst us)) {a : Addr} {vs : List V} (h : SqN K ca F a vs) : SqN K ca (cutF F p) a vs where
  t := cut_t hp h.t
  n := fun z => by
    obtain ⟨o, q, r⟩ := h.n z
    rcases q with ⟨u, q⟩ | q
    · exact ⟨o, .inl ⟨u, cut_ne q fun e => by subst e; rw [hp] at q; cases q⟩, r⟩
    · exact ⟨o, .inr q, r⟩
  x := fun z => cut_ne (h.x z) fun e => by subst e; have := h.x z; rw [hp] at this; cases this
mutual
theorem Rep.cutP (hp : F p = some (.lst us)) : ∀ {v : V} {d : D}, noL d = true → Rep K ca F v d → Rep K ca (cutF F p) v d
  | _, _, _, .non => .non
  | _, _, _, .bl b => .bl b
  | _, _, _, .int i => .int i
  | _, _, _, .str s => .str s
  | _, _, _, .ty s => .ty s
  | _, _, _, .cl s => .cl s
  | _, _, n, .lst h r => by simp [noL] at n
  | _, _, n, .scr h r => by simp [noL] at n
  | _, _, n, .tup h r => .tup (cut_n hp h) (Reps.cutP hp (by simpa [noL] using n) r)
  | _, _, n, .ins h hn r => .ins (cut_ne h fun e => by subst e; rw [hp] at h; cases h) hn (Reps.cutP hp (by simpa [noL] using n) r)
  | _, _, n, .dic h hn r => .dic (cut_ne h fun e => by subst e; rw [hp] at h; cases h) hn (Reps.cutP hp (by simpa [noL] using n) r)
  | _, _, n, .fdic h hn r => .fdic (cut_ne h fun e => by subst e; rw [hp] at h; cases h) hn (Reps.cutP hp (by simpa [noL] using n) r)
  | _, _, n, .tdic h hn hk r => .tdic (cut_ne h fun e => by subst e; rw [hp] at h; cases h) hn (fun x hx => cut_t hp (hk x hx)) (Reps.cutP hp (by simpa [noL] using n) r)
  | _, _, n, .ktup h r => .ktup (cut_t hp h) (Reps.cutP hp (by simpa [noL] using n) r)
  | _, _, _, .ptr h => .ptr h
theorem Reps.cutP (hp : F p = some (.lst us)) : ∀ {vs : List V} {ds : List D}, noLs ds = true → Reps K ca F vs ds → Reps K ca (cutF F p) vs ds
  | _, _, _, .nil => .nil
  | _, _, n, .cons h r => .cons (Rep.cutP hp (by simp [noLs] at n; exact n.1) h) (Reps.cutP hp (by simp [noLs] at n; exact n.2) r)
end
end
/-- a new list without lists in it -/
def lentL (d0 y : D) : R D := match d0, y with
  | .lst _, .lst ys => if noLs ys = true then .ok (.lst ys) else .bad
  | .lst _, .ins c ns ys => if noLs ys = true then .ok (.ins c ns ys) else .bad
  | _, _ => .bad
section
variable {ca : Ca} {X : Cx} {W : WX} {H0 F H : Hp} {env : En} {a : Expr} {ra : R D}
theorem EnOk.lendP {K : PySem.W.Frag} {i : Nat} {ds : List D} (le : Le F H) (en : EnOk K ca H0 F H σ env) (he : env[i]? = some (some (.o (.lst ds)))) : ∃ (p : Addr) (us : List V), F p = none ∧ H p = some (.lst us) ∧ Le (upd F p (.lst us)) H ∧ EnOk K ca H0 (upd F p (.lst us)) H σ (env.set i (some (.d (.lst ds)))) := by
  obtain ⟨v, h1, p, e, n, f, o⟩ := en.at_ i _ he
  subst e
  rcases o with ⟨vs, ds', e, hu, r⟩ | ⟨kvs, ks, ds', e, h, q, r⟩ | ⟨c, dx, ns, fs, ds', e, h, q, r⟩ | ⟨_, _, _, e, _⟩
  · cases e
    have l2 : Le F (upd F p (.lst vs)) := Le.new f
    refine ⟨p, vs, f, hu, fun b w hb => ?_, ⟨en.h0, by rw [List.length_set, en.len], fun j s hj => ?_, fun j k x y hj hk e => ?_, en.st.monoF l2⟩⟩
    · by_cases hbp : b = p
      · subst hbp; rw [upd_same] at hb; cases hb; exact hu
      · rw [upd_ne hbp] at hb; exact le b w hb
    · rcases set_some hj with ⟨rfl, e⟩ | ⟨ne, hj'⟩
      · cases e
        exact ⟨.ref p, h1, Rep.lst upd_same (r.mono l2)⟩
      · obtain ⟨w, h2, h3⟩ := en.at_ j s hj'
        refine ⟨w, h2, ?_⟩
        cases s with
        | d x => exact Rep.mono l2 h3
        | b x =>
          rcases h3 with h3 | ⟨q, e, h3⟩
          · exact .inl (h3.mono l2)
          · exact .inr ⟨q, e, h3.monoF l2⟩
        | o x =>
          obtain ⟨q, e, m1, m2, m3⟩ := h3
          have hqp : q ≠ p := fun z => ne (en.own i j _ x he hj' (by rw [h1, h2, e, z]))
          exact ⟨q, e, m1, by rw [upd_ne hqp]; exact m2, m3.monoF l2⟩
        | p x => exact h3
        | e a dd x => exact ⟨h3.1, ExcRep.mono _ _ l2 h3.2⟩
    · rcases set_some hj with ⟨_, e1⟩ | ⟨n1, hj'⟩
      · cases e1
      · rcases set_some hk with ⟨_, e2⟩ | ⟨n2, hk'⟩
        · cases e2
        · exact en.own j k x y hj' hk' e
  · cases e
  · cases e
  · cases e
/-- a list of one's own is lent as data: what comes back holds no list -/
theorem se_lendL {i : Nat} {d : D} (h : SE ca X W H0 .o (env.set i (some (.d d))) a ra) (he : env[i]? = some (some (.o d)) := by rfl) : SE ca X W H0 .o env a ((noEr ra).bind (lentL d)) := fun F H σ Q le en hp => by
  cases ra with
  | er x => exact absurd hp (by simp [noEr, R.bind, Post])
  | bad => exact absurd hp (by simp [noEr, R.bind, Post])
  | ok y =>
    have hp' : Post X.K ca .o (ekOf X.K ca W σ) F H (lentL d y) Q := hp
    cases d with
    | lst ds0 =>
      cases y with
      | lst ys =>
        unfold lentL at hp'
        dsimp only at hp'
        split at hp'
        · rename_i hn
          obtain ⟨p, us, f, hu, l2, en2⟩ := en.lendP le he
          refine h _ H σ Q l2 en2 ?_
          intro v F1 H1 g q
          have fp : F1 p = some (.lst us) := g.f _ _ upd_same
          obtain ⟨q1, rfl, n1, n2, o⟩ := q
          have hqp : q1 ≠ p := fun e => by subst e; rw [hu] at n1; cases n1
          refine hp' (.ref q1) (cutF F1 p) H1 ⟨fun b u hb => ?_, g.h, cut_le.trans g.fh, fun b u hb hn2 => ?_⟩ ⟨q1, rfl, n1, ?_, ?_⟩
          · have hbp : b ≠ p := fun e => by subst e; rw [f] at hb; cases hb
            exact cut_ne (g.f _ _ (by rw [upd_ne hbp]; exact hb)) hbp
          · by_cases hbp : b = p
            · subst hbp; exact cut_same
            · have := g.fr b u hb (by rw [upd_ne hbp]; exact hn2)
              unfold cutF; rw [if_neg hbp]; exact this
          · unfold cutF; rw [if_neg hqp]; exact n2
          · rcases o with ⟨vs, ds, e, h1, r⟩ | ⟨kvs, ks, ds, e, _⟩ | ⟨_, _, _, _, _, e, _⟩ | ⟨_, _, _, e, _⟩
            · cases e
              exact .inl ⟨_, _, rfl, h1, r.cutP fp hn⟩
            · cases e
            · cases e
            · cases e
        · exact hp'.elim
      | ins c0 ns0 ys =>
        unfold lentL at hp'
        dsimp only at hp'
        split at hp'
        · rename_i hn
          obtain ⟨p, us, f, hu, l2, en2⟩ := en.lendP le he
          refine h _ H σ Q l2 en2 ?_
          intro v F1 H1 g q
          have fp : F1 p = some (.lst us) := g.f _ _ upd_same
          obtain ⟨q1, rfl, n1, n2, o⟩ := q
          have hqp : q1 ≠ p := fun e => by subst e; rw [hu] at n1; cases n1
          refine hp' (.ref q1) (cutF F1 p) H1 ⟨fun b u hb => ?_, g.h, cut_le.trans g.fh, fun b u hb hn2 => ?_⟩ ⟨q1, rfl, n1, ?_, ?_⟩
          · have hbp : b ≠ p := fun e => by subst e; rw [f] at hb; cases hb
            exact cut_ne (g.f _ _ (by rw [upd_ne hbp]; exact hb)) hbp
          · by_cases hbp : b = p
            · subst hbp; exact cut_same
            · have := g.fr b u hb (by rw [upd_ne hbp]; exact hn2)
              unfold cutF; rw [if_neg hbp]; exact this
          · unfold cutF; rw [if_neg hqp]; exact n2
          · rcases o with ⟨vs, ds, e, h1, r⟩ | ⟨kvs, ks, ds, e, _⟩ | ⟨_, _, _, _, _, e, h1, h2, r⟩ | ⟨_, _, _, e, _⟩
            · cases e
            · cases e
            · cases e
              exact .inr (.inr (.inl ⟨_, _, _, _, _, rfl, h1, h2, r.cutP fp hn⟩))
            · cases e
        · exact hp'.elim
      | _ => exact hp'.elim
    | _ => cases y <;> exact hp'.elim
end
end Um

namespace Um
open L2 PySem PySem.Spec PyProof.Rows
/-! ## enumerate(xs), xs a list or a tuple -/
theorem meets_enumerate_newB1 {v : Value} {o : Obj} {H : Heap → Prop} (B : Begins v o H) :
    Meets (Builtin.«enumerate.__new__» ⟨[.type "enumerate", v], []⟩) (fun _ R s => H s.heap ∧
      R (.ok (.ret (.ref (s.heap.push o).objs.size))) { s with heap := (s.heap.push o).push { cls := .type "enumerate", data := .fields #[.none, .bool false, .ref s.heap.objs.size, rawInt 0, .none, .none] } }) :=
  .of_wp fun prog w A R s h => by
    obtain ⟨hp, g, d, tk, os⟩ := s; obtain ⟨h1, h⟩ := h
    have hsub := sub_enumerate
    have q1 : ∀ {A' : Around} {E : Value → Shared → Prop} {Q : Value → Shared → Prop}, Q (.ref hp.objs.size) ⟨hp.push o, g, d, tk, os⟩ → wpAny (model prog w) A' (pyIter v) Q E ⟨hp, g, d, tk, os⟩ :=
      fun q => B.iter prog w _ _ ⟨hp, g, d, tk, os⟩ _ h1 q
    wp_walk using q1
    refine wpAny_stack_any fun st => wpAny_pure ?_
    split
    · rename_i c _ _ _ _ _
      cases (c == Value.type "enumerate")
      · wp_walk using q1
        exact ⟨_, rfl, h⟩
      · wp_walk using q1
        exact ⟨_, rfl, h⟩
    · wp_walk using q1
      exact ⟨_, rfl, h⟩
section
variable {prog : Program} {w : World} {A : Around} {E : Value → Shared → Prop} {s : Shared}
theorem enum_begins1 {v : Value} {o : Obj} {H : Heap → Prop} {Q : Value → Shared → Prop} (B : Begins v o H) (h1 : H s.heap)
    (h : ∀ h', IsEnum h' (s.heap.objs.size + 1) s.heap.objs.size 0 .none → h'.get? s.heap.objs.size = some o → h'.objs.size = s.heap.objs.size + 2 →
      (∀ b o, s.heap.get? b = some o → h'.get? b = some o) → Q (.ref (s.heap.objs.size + 1)) { s with heap := h' }) :
    wpAny (model prog w) A (call (.type "enumerate") [v]) Q E s := by
  refine callType_new F.called_enumerate (by decide) (F.typeCall_enumerate_1 _) (F.newCall_enumerate_1 _) (fun obj => F.args_object_init_2 obj _) F.entry_enumerate_new
    (meets_enumerate_newB1 B) ⟨h1, ?_⟩
  have hz : (s.heap.push o).objs.size = s.heap.objs.size + 1 := Heap.size_push ..
  show _ ∧ _
  rw [hz]
  have he : IsEnum ((s.heap.push o).push { cls := .type "enumerate", data := .fields #[.none, .bool false, .ref s.heap.objs.size, rawInt 0, .none, .none] }) (s.heap.objs.size + 1) s.heap.objs.size 0 .none := by
    have := Heap.get?_push_size (s.heap.push o) (o := { cls := .type "enumerate", data := .fields #[.none, .bool false, .ref s.heap.objs.size, rawInt 0, .none, .none] }) rfl
    rw [hz] at this; exact this
  refine ⟨⟨_, he, rfl⟩, h _ he (Heap.get?_push_of_some _ (Heap.get?_push_size _ B.free)) (by rw [Heap.size_push, hz]) fun b o x => Heap.get?_push_of_some _ (Heap.get?_push_of_some _ x)⟩
end
/-- the tuple at a as it stands at each turn, each item in a new pair -/
def IteT (K : PySem.W.Frag) (a : Addr) : It :=
  ⟨fun i H => ∃ (xs : List V) (x : V), SqT K H a xs ∧ xs[i]? = some x, fun i H v H' => ∃ T x, v = .ref T ∧ H T = none ∧ H' = upd H T (.tup [.int (i : Nat), x]) ∧ ∀ xs, SqT K H a xs → xs[i]? = some x, fun i H => ∃ xs : List V, SqT K H a xs ∧ xs.length ≤ i⟩
theorem turn_enumT {P : Program} {w : World} {K : PySem.W.Frag} {elts : List Expr} {kk : Nat} {tpos : Pos} (a e it : Addr) (hat : a ≠ it) (hea : e ≠ a) :
    Turn P w K (.Tuple elts kk tpos) (IteT K a) [e, it] e (fun i h => (∃ old, IsEnum h e it ((i : Nat) : Int) old) ∧ h.IsTupleIter it a i ∧ e ≠ it) where
  mem := by simp
  obj := fun i h st b hb => by
    obtain ⟨⟨old, he⟩, ⟨o, ho, hc, hd⟩, _⟩ := st
    have e' : b = e ∨ b = it := by simpa using hb
    rcases e' with z | z
    · rw [z]; exact ⟨_, he, fun v q => nomatch q⟩
    · rw [z]; exact ⟨o, ho, fun v q => by rw [hd] at q; cases q⟩
  keep := fun i h h' st k => let ⟨⟨old, he⟩, hi, hne⟩ := st; ⟨⟨old, k e (by simp) _ he⟩, hi.at fun o q => k it (by simp) o q, hne⟩
  item := by
    intro X hP hw hK hc i pins s σ H E I hf st hg
    subst hP hw hK
    obtain ⟨⟨old, he⟩, hit, hne⟩ := st
    obtain ⟨xs, x, hq, hx⟩ := hg
    obtain ⟨its, rv, p, hz⟩ := I.tuple hq
    obtain ⟨u, hu, ru⟩ := rv.get hx
    have hT0 : s.heap.IsTuple a its.toArray := p
    have hel : e < s.heap.objs.size := Heap.lt_size he
    have hil : it < s.heap.objs.size := by obtain ⟨_, q, _⟩ := hit; exact Heap.lt_size q
    have hlt : i < its.toArray.size := by
      have := (List.getElem?_eq_some_iff.mp hu).1
      simpa using this
    refine wpAny_pyNext_enum_itemD (Draws.tuple (show X.A.in1.handled = none from I.ok.hd hc) it a hat its.toArray) he ⟨hit, hT0⟩ hlt hne (by simp [hne, hea]) fun u' h' tk hP' ho hst' hT hsz hk => ?_
    have hu' : u' = u := by
      have : its[i]? = some u' := by simpa using hP'
      rw [hu] at this; cases this; rfl
    subst hu'
    obtain ⟨hit', _⟩ := hst'
    refine ⟨_, rfl, wpAny_letOwnedTupleGo_enum (s := { s with heap := h', toks := tk + 1 }) ho fun h'' he' sb => ?_⟩
    have hT2 : h''.get? s.heap.objs.size = some { cls := .type "tuple", data := .seq #[.int i tk, u'] } := (sb.2 _ (Nat.ne_of_gt hel)).trans hT
    have new : ObjOk X.prog X.w (upd H s.heap.objs.size (.tup [.int (i : Nat), x])) h'' s.heap.objs.size (.tup [.int (i : Nat), x]) :=
      ⟨by show 2 ≤ sizeLine; decide, [.int i tk, u'], .cons ⟨_, rfl⟩ (.cons ru .nil), ⟨_, hT2, rfl, _, rfl⟩⟩
    have I1 : Inv X pins σ (upd H s.heap.objs.size (.tup [.int (i : Nat), x])) { s with heap := h'', toks := tk + 1 } :=
      I.turnedNew (ch := [e, it]) (fun b ob hb q => (sb.2 b (fun z => hb (by simp [z]))).trans (hk b ob (fun z => hb (by simp [z])) (fun z => hb (by simp [z])) q)) hf (Nat.le_refl _) new
    refine ⟨.ref s.heap.objs.size, _, I1, rfl, ⟨_, x, rfl, I.hok.fresh (Nat.le_refl _), rfl, fun ys hy => by rw [I.tuple_inj hy hq]; exact hx⟩, ⟨⟨u', ?_⟩, hit'.at fun o q => (sb.2 it (Ne.symm hne)).trans q, hne⟩, fun b hb => ?_⟩
    · have e1 : ((i + 1 : Nat) : Int) = (i : Int) + 1 := by omega
      rw [e1]; exact he'
    · have hb' : b < s.heap.objs.size := by
        have e' : b = e ∨ b = it := by simpa using hb
        rcases e' with z | z
        · rw [z]; exact hel
        · rw [z]; exact hil
      rw [upd_ne (Nat.ne_of_lt hb')]
      exact (hf b hb).1
  done := by
    intro X hP hw hK hc i pins s σ H E I hf st hg
    subst hP hw hK
    obtain ⟨⟨old, he⟩, hit, hne⟩ := st
    obtain ⟨xs, hq, hx⟩ := hg
    obtain ⟨its, rv, p, hz⟩ := I.tuple hq
    obtain ⟨f0, f1, f2, f3, f4, f5⟩ := hf it (by simp)
    have hT0 : s.heap.IsTuple a its.toArray := p
    have hl := rv.length
    have hT : s.TypeIs (.ref e) "enumerate" := ⟨_, he, rfl⟩
    have fin : ∀ h', Heap.ExtBut it s.heap h' → (none : Option Value) = none ∧ Inv X pins σ H { s with heap := h' } := fun h' eb => ⟨rfl, I.turned (t' := s.toks) (fun b o hb q => eb b o hb q) f0 f1 f3 f4 f5⟩
    have hno : its.toArray[i]? = none := by simp; omega
    unfold pyNext
    refine wpAny_bind (wpAny_attempt (wpAny_callSpecial?_slot (name := Str.ofString "__next__") hT F.slot_enumerate_next
      (wpAny_call_entry F.slot_enumerate_next hT F.entry_enumerate_next ?_ (F.args_enumerate_next_1 _))))
    show wpAny _ _ (field (.ref e) 2 >>= _) _ _ _
    refine wpAny_bind (wpAny_field he rfl (x := .ref it) rfl ?_)
    refine wpAny_bind (wpAny_nextOf_tuple_end (show X.A.in1.handled = none from I.ok.hd hc) hit hT0 hno fun h' x he' hx' => ?_)
    obtain ⟨o, ho, hc'⟩ := hx'
    refine wpAny_bind (wpAny_isInstance (T := "StopIteration") (b := true) ⟨o, ho, hc'⟩ isSubtype_stop ?_)
    exact wpAny_pure (fin h' he')
  self := fun A i s Q E st h => let ⟨⟨_, he⟩, _⟩ := st; wpAny_pyIter_enum he h
def iEnumB (K : PySem.W.Frag) (ta : TA) : TI := fun σ H R => ta σ H fun vs H1 => ∃ a xs, vs = [.ref a] ∧ ((SqL K H1 a xs ∧ R (Ite K a) H1) ∨ (SqT K H1 a xs ∧ R (IteT K a) H1))
theorem pi_enumB {X : Cx} {e : Expr} {ta : TA} {p pos tpos : Pos} {elts : List Expr} {kk : Nat} (hg : Gl X "enumerate") (hm : X.mg "enumerate" = none) (ha : PA X [e] ta) (hs : starEach [e] X.env = [(false, eval e X.env)] := by rfl) :
    PI X (.Tuple elts kk tpos) (.Call (.Name "enumerate" p) [e] [] pos) (iEnumB X.K ta) := by
  refine ⟨fun pins s σ H R I h => ?_⟩
  refine Call_ (ld_blt I hg hm boot_enumerate (PyProof.Rows.callWith_type1 (thn (ha.run pos pins s σ H _ I h) fun us s1 ⟨vs, H1, I1, r1, q1⟩ => ?_) hs rfl))
  obtain ⟨a, xs, ex, q⟩ := q1
  subst ex
  cases r1 with
  | cons r rr =>
    cases rr
    cases r
    have fp : ∀ b ∈ [s1.heap.objs.size + 1, s1.heap.objs.size], s1.heap.objs.size ≤ b := fun b hb => by
      have e' : b = s1.heap.objs.size + 1 ∨ b = s1.heap.objs.size := by simpa using hb
      rcases e' with z | z
      · rw [z]; exact Nat.le_add_right _ _
      · rw [z]; exact Nat.le_refl _
    rcases q with ⟨hq, q⟩ | ⟨hq, q⟩
    · obtain ⟨its, rv, p', hz⟩ := I1.list hq
      refine call_enumerate_list p'.isList fun h' he hit hsz hk => wpAny_pyIter_enum he ?_
      have I2 : Inv X pins σ H1 { s1 with heap := h' } := I1.kept (t' := s1.toks) hk
      exact ⟨s1.heap.objs.size + 1, [s1.heap.objs.size + 1, s1.heap.objs.size], _, _, H1, rfl, I2, turn_enum a (s1.heap.objs.size + 1) s1.heap.objs.size, ⟨⟨.none, he⟩, hit, Nat.succ_ne_self _⟩, fun b hb => I1.fpOk (fp b hb) (I1.hok.fresh (fp b hb)), q⟩
    · obtain ⟨its, rv, p', hz⟩ := I1.tuple hq
      have hT0 : s1.heap.IsTuple a its.toArray := p'
      have hal : a < s1.heap.objs.size := by obtain ⟨_, y, _⟩ := hT0; exact Heap.lt_size y
      refine enum_begins1 (begins_tuple a its.toArray) hT0 fun h' he hit hsz hk => wpAny_pyIter_enum he ?_
      have I2 : Inv X pins σ H1 { s1 with heap := h' } := I1.kept (t' := s1.toks) hk
      exact ⟨s1.heap.objs.size + 1, [s1.heap.objs.size + 1, s1.heap.objs.size], _, _, H1, rfl, I2, turn_enumT a (s1.heap.objs.size + 1) s1.heap.objs.size (Nat.ne_of_lt hal) (Nat.ne_of_gt (Nat.lt_succ_of_lt hal)), ⟨⟨.none, he⟩, ⟨_, hit, rfl, rfl⟩, Nat.succ_ne_self _⟩, fun b hb => I1.fpOk (fp b hb) (I1.hok.fresh (fp b hb)), q⟩

def enumD : Nat → List D → List D
  | _, [] => []
  | i, d :: ds => .tup [.int (i : Nat), d] :: enumD (i + 1) ds
theorem enumD_get : ∀ (ds : List D) (k i : Nat), (enumD k ds)[i]? = ds[i]?.map fun d => .tup [.int ((k + i : Nat) : Int), d]
  | [], _, _ => rfl
  | d :: ds, k, 0 => rfl
  | d :: ds, k, i + 1 => by
    show (enumD (k + 1) ds)[i]? = _
    rw [enumD_get ds (k + 1) i]
    simp only [List.getElem?_cons_succ]
    rw [show k + 1 + i = k + (i + 1) by omega]
theorem enumD_len : ∀ (ds : List D) (k : Nat), (enumD k ds).length = ds.length
  | [], _ => rfl
  | _ :: ds, k => by show (enumD (k + 1) ds).length + 1 = _; rw [enumD_len ds (k + 1)]; rfl
def dEnum : List D → R (List D)
  | [d] => (dItems d).bind fun ds => .ok (enumD 0 ds)
  | _ => .bad
section
variable {ca : Ca} {X : Cx} {W : WX} {H0 F H : Hp} {env : En}
theorem itok_enum {K : PySem.W.Frag} {a : Addr} {vs : List V} {ds : List D} (hn : ca tmK ≠ 1) (h : ∀ F2 H2, Le F F2 → Le F2 H2 → Le H0 H2 → SqL K H2 a vs) (r : Reps K ca F vs ds) : ItOk K ca H0 F (Ite K a) (enumD 0 ds) := fun F' H' l1 l2 l3 => by
  have hq := h F' H' l1 l2 l3
  refine ⟨fun i d hd => ?_, vs, hq, by rw [enumD_len, r.length]; exact Nat.le_refl _⟩
  rw [enumD_get] at hd
  obtain ⟨d0, h0, rfl⟩ := Option.map_eq_some_iff.mp hd
  obtain ⟨v, hv, rv⟩ := r.get h0
  refine ⟨⟨vs, v, hq, hv⟩, ?_⟩
  rintro x H'' ⟨T, y, rfl, hT, rfl, hy⟩
  have hyv : y = v := by have := hy vs hq; rw [hv] at this; cases this; rfl
  subst hyv
  refine ⟨_, Go.new l2 hT _, .tup (SqN.new (.inl ⟨hn, rfl⟩)) (.cons ?_ (.cons (rv.mono (l1.trans (Le.new (l2.free hT)))) .nil))⟩
  rw [show 0 + i = i by omega]
  exact .int _
theorem itok_enumT {K : PySem.W.Frag} {a : Addr} {vs : List V} {ds : List D} (hn : ca tmK ≠ 1) (h : ∀ F2 H2, Le F F2 → Le F2 H2 → Le H0 H2 → SqT K H2 a vs) (r : Reps K ca F vs ds) : ItOk K ca H0 F (IteT K a) (enumD 0 ds) := fun F' H' l1 l2 l3 => by
  have hq := h F' H' l1 l2 l3
  refine ⟨fun i d hd => ?_, vs, hq, by rw [enumD_len, r.length]; exact Nat.le_refl _⟩
  rw [enumD_get] at hd
  obtain ⟨d0, h0, rfl⟩ := Option.map_eq_some_iff.mp hd
  obtain ⟨v, hv, rv⟩ := r.get h0
  refine ⟨⟨vs, v, hq, hv⟩, ?_⟩
  rintro x H'' ⟨T, y, rfl, hT, rfl, hy⟩
  have hyv : y = v := by have := hy vs hq; rw [hv] at this; cases this; rfl
  subst hyv
  refine ⟨_, Go.new l2 hT _, .tup (SqN.new (.inl ⟨hn, rfl⟩)) (.cons ?_ (.cons (rv.mono (l1.trans (Le.new (l2.free hT)))) .nil))⟩
  rw [show 0 + i = i by omega]
  exact .int _
/-- enumerate(e), e data -/
theorem si_enum {rs : R (List D)} {e : Expr} {elts : List Expr} {kk : Nat} {p pos tpos : Pos} (h : SA ca X W H0 [.v] env [e] rs) (hn : ca tmK ≠ 1) (hm : X.mg "enumerate" = none) (hg : Gl X "enumerate" := by rfl)
    (hs : starEach [e] X.env = [(false, eval e X.env)] := by rfl) : SI ca X W H0 env (.Tuple elts kk tpos) (.Call (.Name "enumerate" p) [e] [] pos) (rs.bind dEnum) := fun F H σ Q le ok hp => by
  refine ⟨_, pi_enumB hg hm pa_W hs, h.thenI le ok hp fun ds vs F' H' _ g q _ hp' => ?_⟩
  cases q with
  | consV q1 q2 =>
    cases q2
    rename_i d _
    cases d with
    | lst xs =>
      cases q1 with
      | lst h1 r => exact ⟨_, _, rfl, .inl ⟨.inl (.inl (g.fh _ _ h1)), hp' _ F' H' (Go.refl g.fh) (itok_enum hn (fun F2 H2 l1 l2 _ => .inl (.inl (l2 _ _ (l1 _ _ h1)))) r)⟩⟩
    | scr xs =>
      cases q1 with
      | scr h1 r => exact ⟨_, _, rfl, .inl ⟨g.fh.l h1, hp' _ F' H' (Go.refl g.fh) (itok_enum hn (fun F2 H2 l1 l2 _ => l2.l (l1.l h1)) r)⟩⟩
    | tup xs =>
      cases q1 with
      | tup h1 r => exact ⟨_, _, rfl, .inr ⟨g.fh.t h1.t, hp' _ F' H' (Go.refl g.fh) (itok_enumT hn (fun F2 H2 l1 l2 _ => l2.t (l1.t h1.t)) r)⟩⟩
    | _ => exact hp'.elim
end
end Um

namespace Um
open L2 PySem PySem.Spec PyProof.Rows
/-! ## trees of the shape .w: data, or a list of data and of lists of one's own -/
def okW : Sh → List D → Bool
  | .n, [] => true
  | .c .v s, d :: ds => noL d && okW s ds
  | .c .o s, .lst _ :: ds => okW s ds
  | _, _ => false
section
variable {K : PySem.W.Frag} {ca : Ca} {F H : Hp}
theorem its_of : ∀ {s : Sh} {cs : List Addr} {vs : List V} {ds : List D}, Owns K ca F H s cs vs ds → okW s ds = true → Its K ca F H cs vs ds
  | _, _, _, _, .nil, _ => .nil
  | .c .v s, _, _, d :: ds, .cons (.leaf h) r, e => by
    have e' : noL d = true ∧ okW s ds = true := by simpa [okW] using e
    exact .data h e'.1 (its_of r e'.2)
  | _, _, _, d :: ds, .cons (.lst o) r, e => by
    cases d with
    | lst es =>
      obtain ⟨us, h, q⟩ := ownLst o
      exact .own h q (its_of r (by simpa [okW] using e))
    | _ => simp [okW] at e
  | _, _, _, _, .cons (.tup hu h r0) r, e => by simp [okW] at e
  | _, _, _, _, .cons (.wd h n) r, e => by simp [okW] at e
  | _, _, _, _, .cons (.wl h r0) r, e => by simp [okW] at e
theorem its_at : ∀ {cs : List Addr} {vs : List V} {ds : List D} {k : Nat} {xs : List D}, Its K ca F H cs vs ds → ds[k]? = some (.lst xs) → ∃ p us, vs[k]? = some (.ref p) ∧ p ∈ cs ∧ H p = some (.lst us) ∧ Reps K ca F us xs := by
  intro cs vs ds k xs r
  induction r generalizing k with
  | nil => intro h; simp at h
  | data h n r ih =>
    intro e
    cases k with
    | zero => simp at e; subst e; simp [noL] at n
    | succ k => exact ih (by simpa using e)
  | own h q r ih =>
    intro e
    cases k with
    | zero => simp at e; subst e; exact ⟨_, _, rfl, List.mem_cons_self, h, q⟩
    | succ k =>
      obtain ⟨p, us, h1, h2, h3, h4⟩ := ih (by simpa using e)
      exact ⟨p, us, by simpa using h1, List.mem_cons_of_mem _ h2, h3, h4⟩
theorem its_set : ∀ {cs : List Addr} {vs : List V} {ds : List D} {k : Nat} {p : Addr} {us : List V} {xs : List D}, Its K ca F H cs vs ds → cs.Nodup → p ∈ cs → vs[k]? = some (.ref p) → (∃ ys, ds[k]? = some (.lst ys)) → Reps K ca F us xs → Its K ca F (upd H p (.lst us)) cs vs (ds.set k (.lst xs)) := by
  intro cs vs ds k p us xs r
  induction r generalizing k with
  | nil => intro _ _ h; simp at h
  | data h n r ih =>
    intro nd hp hv hy q
    cases k with
    | zero => obtain ⟨ys, hy⟩ := hy; simp at hy; subst hy; simp [noL] at n
    | succ k => exact .data h n (ih nd hp (by simpa using hv) (by simpa using hy) q)
  | own h q0 r ih =>
    intro nd hp hv hy q
    cases k with
    | zero =>
      have e := Option.some.inj hv
      cases e
      rw [List.nodup_cons] at nd
      exact .own upd_same q (r.mono (Le.refl _) fun b hb u hu => by
        have : b ≠ p := fun e => nd.1 (e ▸ hb)
        rw [upd_ne this]; exact hu)
    | succ k =>
      rw [List.nodup_cons] at nd
      have hv' := (by simpa using hv : _ = some (V.ref p))
      have hy' := (by simpa using hy : ∃ ys, _ = some (D.lst ys))
      obtain ⟨ys, hys⟩ := hy'
      obtain ⟨p2, us2, h1, h2, _, _⟩ := its_at r hys
      rw [hv'] at h1
      cases h1
      refine .own ?_ q0 (ih nd.2 h2 hv' ⟨ys, hys⟩ q)
      rw [upd_ne (by rintro rfl; exact nd.1 h2)]; exact h
end
section
variable {ca : Ca} {X : Cx} {W : WX} {H0 F H F' H' : Hp} {env : En} {e : Expr} {es : List Expr} {r : R D} {rs : R (List D)} {us us' : List Nat} {s s' : Sh}
def lstW (s : Sh) (ds : List D) : R D := if okW s ds = true then dLst ds else .bad
theorem sqw_lst {pos : Pos} (h : SQA ca X W H0 env es us s rs) : SQ ca X W H0 env (.List es pos) us .w (rs.bind (lstW s)) := fun F H σ Q le ok hp => by
  refine ⟨_, pe_lst pa_W, h F H σ _ le ok ?_⟩
  cases rs with
  | er x => exact hp
  | bad => exact hp
  | ok ds =>
    intro vs F1 H1 cs g nd hc o
    have hp' : PostQ ca X H0 us .w env σ (ekOf X.K ca W σ) F H (lstW s ds) Q := hp
    unfold lstW at hp'
    split at hp'
    · rename_i hw
      unfold dLst at hp'
      split at hp'
      · rename_i hs
        refine ⟨by rw [o.length]; exact hs, fun p hpn => ?_⟩
        have hnp : ∀ q, q ∈ cs → q ≠ p := fun q hq e => by
          obtain ⟨u, hu⟩ := o.here q hq
          rw [e, hpn] at hu; cases hu
        refine hp' _ F1 _ (p :: cs) (g.trans (Go.hid g.fh hpn _)) (List.nodup_cons.mpr ⟨fun hm => hnp p hm rfl, nd⟩) (fun q hq => ?_) (.wl upd_same (its_of (o.mono (Le.refl _) fun q hq u hu => by rw [upd_ne (hnp q hq)]; exact hu) hw))
        rcases List.mem_cons.mp hq with e | hq
        · subst e; exact ⟨ok.h0.free (g.h.free hpn), g.fh.free hpn, .inl (g.h.free hpn)⟩
        · exact hc q hq
      · exact hp'.elim
    · exact hp'.elim
def datW (d : D) : R D := if noL d = true then .ok d else .bad
theorem sqw_dat (h : SE ca X W H0 .v env e r) : SQ ca X W H0 env e [] .w (r.bind datW) := fun F H σ Q le ok hp => by
  refine h F H σ Q le ok ?_
  cases r with
  | ok d =>
    intro v F' H' g q
    have hp' : PostQ ca X H0 [] .w env σ (ekOf X.K ca W σ) F H (datW d) Q := hp
    unfold datW at hp'
    split at hp'
    · rename_i hn
      exact hp' _ F' H' [] g List.nodup_nil (fun q hq => by cases hq) (.wd q hn)
    · exact hp'.elim
  | er x => exact hp
  | bad => exact hp
end
def wAt (d : D) (k : Nat) : R (List D) := match d with
  | .lst ds => (match ds[k]? with | some (.lst xs) => .ok xs | _ => .bad)
  | _ => .bad
def wSet (d : D) (k : Nat) (z : D) : D := match d with
  | .lst ds => .lst (ds.set k z)
  | d => d
section
variable {α : Type} {P : Pt α} {nx bk ct : Jp α} {env : En} {rest : List Stmt}
/-- x[k].append(e), x a list of lists -/
theorem sq_appW (G : P.GoodH) {i k : Nat} {d : D} {x : Str} {e : Expr} {re : R D} {kk : D → R α} {px apos cpos pos spos ipos : Pos} {jj : Nat} (h : SE P.ca P.X P.W P.H0 .v env e re)
    (hk : ∀ y, SSsQ P nx bk ct env i .w (wSet d k y) rest (kk y)) (hn : env[i]? = some none := by rfl) (hN : P.X.N[i]? = some x := by rfl)
    (hv : Vis P.X.env.scope x := by first | exact Or.inl rfl | exact Or.inr (Or.inl rfl) | exact Or.inr (Or.inr rfl)) (hd : (x == ("__debug__" : Str)) = false := by decide) (hcd : (x == ("__classdict__" : Str)) = false := by decide)
    (hpi : PlainIx (.Constant (.int (k : Int)) jj ipos) := by exact fun _ _ => rfl)
    (hs : starEach [e] P.X.env = (false, eval e P.X.env) :: starEach [] P.X.env := by rfl)
    (hbase : attributeBase (.Subscript (.Name x px) (.Constant (.int (k : Int)) jj ipos) spos) "append" P.X.env (eval (.Subscript (.Name x px) (.Constant (.int (k : Int)) jj ipos) spos) P.X.env) = eval (.Subscript (.Name x px) (.Constant (.int (k : Int)) jj ipos) spos) P.X.env := by rfl)
    (hfew : ((backTo cpos (starEach [e] P.X.env)).all (fun x => !x.1) && (backToKw cpos (keywordEach [] P.X.env)).all (fun x => x.1.isSome)
      && decide ([e].length + ([] : List Keyword).length + (if ([] : List Keyword).isEmpty then 0 else 1) < 30)) = true := by rfl)
    (hline : (apos.endLine == cpos.line) = true := by rfl) (hplain : (backTo cpos (starEach [] P.X.env)).any (·.1) = false := by rfl) :
    SSsQ P nx bk ct env i .w d (.Expr (.Call (.Attribute (.Subscript (.Name x px) (.Constant (.int (k : Int)) jj ipos) spos) "append" apos) [e] [] cpos) pos :: rest) ((wAt d k).bind fun xs => re.bind fun y => (dApp xs y).bind kk) := fun D hr hn' hb hct σ H ⟨F, a⟩ => by
  obtain ⟨cs0, v, h1, nd, hc, o⟩ := a.ow
  have hq : ∃ ds xs, d = .lst ds ∧ ds[k]? = some (.lst xs) := by
    have ae := a.at_.eq
    cases d with
    | lst ds =>
      cases hx : ds[k]? with
      | none => simp only [wAt, hx] at ae; exact absurd ae.symm G.nb
      | some z => cases z with
        | lst xs => exact ⟨ds, xs, rfl, hx⟩
        | _ => simp only [wAt, hx] at ae; exact absurd ae.symm G.nb
    | _ => exact absurd ae.symm G.nb
  obtain ⟨ds, xs, rfl, h3⟩ := hq
  obtain ⟨p, vs, cs, rfl, rfl, ht, r⟩ : ∃ (p : Addr) (vs : List V) (cs' : List Addr), v = .ref p ∧ cs0 = p :: cs' ∧ H p = some (.lst vs) ∧ Its P.X.K P.ca F H cs' vs ds := by
    cases o with
    | wd h n => simp [noL] at n
    | wl ht r => exact ⟨_, _, _, rfl, rfl, ht, r⟩
  obtain ⟨p', ws, h2, h4, hl, rr⟩ := its_at r h3
  refine .cons (ps_expr (pe_bm PySem.F.plainAttrs_list PySem.F.slot_list_append PySem.F.type_list_append mt_append (pe_ix ix_list (pe_var hN hv hd hcd) pe_int hpi) (pa_cons pe_W pa_nil hs) hbase hfew hline hs hplain)) ?_
  refine ⟨_, h1, ⟨p, vs, (k : Int), .ref p', rfl, rfl, .inl (.inl ht), atI_nat h2, .inl ⟨rfl, ws, .inl (.inl hl)⟩, ?_⟩⟩
  have a0 : AtF P F env (re.bind fun y => (dApp xs y).bind kk) σ H := ⟨a.at_.go, a.at_.en, a.at_.ho, by
    have ae := a.at_.eq
    simp only [wAt, h3, R.bind_ok] at ae
    exact ae⟩
  refine a0.ev G h fun y w F' H' _ g q a' => ?_
  have ae := a'.eq
  unfold dApp at ae
  split at ae
  · rename_i hz
    refine ⟨p', ws, w, rfl, rfl, g.h _ _ hl, by rw [rr.length]; exact hz, ?_⟩
    have hcp := hc p' (List.mem_cons_of_mem _ h4)
    have hF' : F' p' = none := g.fr p' _ hl hcp.1
    have go' : Go P.F0 P.H0 F' (upd H' p' (.lst (ws ++ [w]))) := ⟨a'.go.f, fun b u e => by rw [upd_ne (ne_of_none e hcp.2)]; exact a'.go.h b u e, fun b u e => by rw [upd_ne (ne_of_none e hF')]; exact a'.go.fh b u e, a'.go.fr⟩
    refine hk _ D hr hn' hb hct σ _ ⟨F', ⟨go', a'.en.shrink a.no (Le.refl _) go'.h, a'.ho, ae⟩, a.no, p :: cs, .ref p, h1, nd, fun q hq => ?_, ?_⟩
    · obtain ⟨u, hu⟩ := (Own.wl ht r).here q hq
      exact ⟨g.fr q u hu (hc q hq).1, (hc q hq).2⟩
    · have hpp : p ≠ p' := fun e => by
        have := (List.nodup_cons.mp nd).1
        exact this (e ▸ h4)
      have r' := r.mono (H' := H') g.f fun q _ u hu => g.h q u hu
      exact .wl (by rw [upd_ne hpp]; exact g.h _ _ ht) (its_set r' (List.nodup_cons.mp nd).2 h4 h2 ⟨_, h3⟩ ((rr.mono g.f).snoc q))
  · exact absurd ae.symm G.nb
/-- if c: A, no else; A may change the tree, the rest does not look at it -/
theorem sq_ifA (G : P.GoodH) {i : Nat} {s : Sh} {d : D} {c : Expr} {A : List Stmt} {tc : R Bool} {rA rB : R α} {pos : Pos} (h : ST P.ca P.X P.W P.H0 (env.set i (some (.d d))) c tc)
    (hA : SSsQ P (jRest P nx bk ct rest) bk ct env i s d A rA) (hB : SSs P nx bk ct env rest rB) (hn : env[i]? = some none := by rfl) :
    SSsQ P nx bk ct env i s d (.If c A [] pos :: rest) (tc.bind fun b => if b = true then rA else rB) := fun D hr hn' hb hc σ H ⟨F, a⟩ => by
  refine .cons (ps_if pt_W pss_W pss_W) ?_
  obtain ⟨F1, _, a1, back⟩ := a.lend hn
  refine a1.evT G h fun b F' H' _ g a' => ?_
  have a2 := back F' H' g
  have ae := a'.eq
  have hj : ∀ e' r', jRest P nx bk ct rest e' r' → ∀ σ H, At P e' r' σ H → WSs P.X rest D σ H := fun e' r' hs σ H q => hs D hr hn' hb hc σ H q
  cases b with
  | true => exact hA { D with nx := fun σ' H' => WSs P.X rest D σ' H' } hr hj hb hc σ H' ⟨F, ⟨a2.at_.go, a2.at_.en, a2.at_.ho, ae⟩, a2.no, a2.ow⟩
  | false => exact ⟨_, pss_nil, hB D hr hn' hb hc σ H' ⟨F, a2.at_.go, a2.at_.en, a2.at_.ho, ae⟩⟩
end
/-! ### y = e while a tree is lent; what comes back is a tree, too -/
noncomputable def cutS (F : Hp) (S : List Addr) : Hp := open Classical in fun b => if b ∈ S then none else F b
theorem cutS_in {F : Hp} {S : List Addr} {b : Addr} (h : b ∈ S) : cutS F S b = none := by unfold cutS; rw [if_pos h]
theorem cutS_out {F : Hp} {S : List Addr} {b : Addr} (h : ¬ b ∈ S) : cutS F S b = F b := by unfold cutS; rw [if_neg h]
theorem cutS_le {F : Hp} {S : List Addr} : Le (cutS F S) F := fun b u h => by
  by_cases hb : b ∈ S
  · rw [cutS_in hb] at h; cases h
  · rw [cutS_out hb] at h; exact h
section
variable {K : PySem.W.Frag} {ca : Ca} {F : Hp} {S : List Addr}
theorem cutS_ne (hp : ∀ p, p ∈ S → ∃ us, F p = some (.lst us)) {b : Addr} {u : HO} (h : F b = some u) (n : ∀ us, u ≠ .lst us) : cutS F S b = some u := by
  by_cases hb : b ∈ S
  · obtain ⟨us, e⟩ := hp b hb
    rw [h] at e; cases e
    exact absurd rfl (n us)
  · rw [cutS_out hb]; exact h
theorem cutS_t (hp : ∀ p, p ∈ S → ∃ us, F p = some (.lst us)) {a : Addr} {vs : List V} (h : SqT K F a vs) : SqT K (cutS F S) a vs := by
  rcases h with (h | ⟨o, h⟩) | h
  · exact .inl (.inl (cutS_ne hp h fun us e => by cases e))
  · exact .inl (.inr ⟨o, cutS_ne hp h fun us e => by cases e⟩)
  · exact .inr h
theorem cutS_n (hp : ∀ p, p ∈ S → ∃ us, F p = some (.lst us)) {a : Addr} {vs : List V} (h : SqN K ca F a vs) : SqN K ca (cutS F S) a vs where
  t := cutS_t hp h.t
  n := fun z => by
    obtain ⟨o, q, r⟩ := h.n z
    rcases q with ⟨u, q⟩ | q
    · exact ⟨o, .inl ⟨u, cutS_ne hp q fun us e => by cases e⟩, r⟩
    · exact ⟨o, .inr q, r⟩
  x := fun z => cutS_ne hp (h.x z) fun us e => by cases e
mutual
theorem Rep.cutS (hp : ∀ p, p ∈ S → ∃ us, F p = some (.lst us)) : ∀ {v : V} {d : D}, noL d = true → Rep K ca F v d → Rep K ca (cutS F S) v d
  | _, _, _, .non => .non
  | _, _, _, .bl b => .bl b
  | _, _, _, .int i => .int i
  | _, _, _, .str s => .str s
  | _, _, _, .ty s => .ty s
  | _, _, _, .cl s => .cl s
  | _, _, n, .lst h r => by simp [noL] at n
  | _, _, n, .scr h r => by simp [noL] at n
  | _, _, n, .tup h r => .tup (cutS_n hp h) (Reps.cutS hp (by simpa [noL] using n) r)
  | _, _, n, .ins h hn r => .ins (cutS_ne hp h fun us e => by cases e) hn (Reps.cutS hp (by simpa [noL] using n) r)
  | _, _, n, .dic h hn r => .dic (cutS_ne hp h fun us e => by cases e) hn (Reps.cutS hp (by simpa [noL] using n) r)
  | _, _, n, .fdic h hn r => .fdic (cutS_ne hp h fun us e => by cases e) hn (Reps.cutS hp (by simpa [noL] using n) r)
  | _, _, n, .tdic h hn hk r => .tdic (cutS_ne hp h fun us e => by cases e) hn (fun x hx => cutS_t hp (hk x hx)) (Reps.cutS hp (by simpa [noL] using n) r)
  | _, _, n, .ktup h r => .ktup (cutS_t hp h) (Reps.cutS hp (by simpa [noL] using n) r)
  | _, _, _, .ptr h => .ptr h
theorem Reps.cutS (hp : ∀ p, p ∈ S → ∃ us, F p = some (.lst us)) : ∀ {vs : List V} {ds : List D}, noLs ds = true → Reps K ca F vs ds → Reps K ca (cutS F S) vs ds
  | _, _, _, .nil => .nil
  | _, _, n, .cons h r => .cons (Rep.cutS hp (by simp [noLs] at n; exact n.1) h) (Reps.cutS hp (by simp [noLs] at n; exact n.2) r)
end
end
def item1 : D → Bool
  | .lst zs => noLs zs
  | d => noL d
def lentW : D → R D
  | .lst ys => if ys.all item1 = true then .ok (.lst ys) else .bad
  | d => if noL d = true then .ok d else .bad
section
variable {K : PySem.W.Frag} {ca : Ca} {F H : Hp} {S T : List Addr}
theorem Its.cutS (hp : ∀ p, p ∈ S → ∃ us, F p = some (.lst us)) (hT : ∀ p, p ∈ T → F p = none ∧ ¬ p ∈ S) : ∀ {cs : List Addr} {vs : List V} {ds : List D}, Its K ca F H cs vs ds → (∀ p, p ∈ cs → p ∈ T) → ds.all item1 = true → Reps K ca (cutS (lent F H T) S) vs ds := by
  have le : Le (Um.cutS F S) (Um.cutS (lent F H T) S) := fun b u h => by
    by_cases hb : b ∈ S
    · rw [cutS_in hb] at h; cases h
    · rw [cutS_out hb] at h ⊢
      exact lent_le (fun p hp => (hT p hp).1) b u h
  intro cs vs ds r
  induction r with
  | nil => intro _ _; exact .nil
  | @data v d cs vs ds h n r ih =>
    intro hc ha
    rw [List.all_cons, Bool.and_eq_true] at ha
    exact .cons ((Rep.cutS hp n h).mono le) (ih hc ha.2)
  | @own p us es cs vs ds h q r ih =>
    intro hc ha
    rw [List.all_cons, Bool.and_eq_true] at ha
    have hpT := hc p List.mem_cons_self
    refine .cons (.lst (vs := us) ?_ ((Reps.cutS hp ha.1 q).mono le)) (ih (fun b hb => hc b (List.mem_cons_of_mem _ hb)) ha.2)
    rw [cutS_out (hT p hpT).2, lent_in hpT]; exact h
end
section
variable {α : Type} {P : Pt α} {nx bk ct : Jp α} {env : En} {rest : List Stmt}
theorem sq_setW (G : P.GoodH) {i j : Nat} {d : D} {x : Str} {e : Expr} {re : R D} {k : D → R α} {pos pos' : Pos} (h : SE P.ca P.X P.W P.H0 (.q .w) (env.set i (some (.d d))) e re) (hk : ∀ y, SSsQ P nx bk ct (env.set j (some (.d y))) i .w d rest (k y)) (hn : env[i]? = some none := by rfl) (hij : j ≠ i := by decide)
    (hi : P.X.N[j]? = some x := by rfl) (hx : Loc P.X.env.scope x := by first | exact .inl rfl | exact .inr rfl) (hh : noH P.envH j = true := by rfl)
    (hs : swapsWith e (some (.Name x pos')) pos.line P.X.env = pure false := by rfl) (hf : P.X.fn x = true ∨ P.X.env.scope.names.lookup x = some .local := by first | exact .inl rfl | exact .inr rfl) :
    SSsQ P nx bk ct env i .w d (.Assign [.Name x pos'] e pos :: rest) ((re.bind lentW).bind k) := fun D hr hn' hb hc σ H ⟨F, a⟩ => by
  refine .cons (ps_set G.nd hi hx pe_W hs hf) ?_
  obtain ⟨cs, v, hv, nd, hcs, o⟩ := a.ow
  have hF : ∀ p, p ∈ cs → F p = none := fun p hp => (hcs p hp).1
  have hl : ∀ p, p ∈ cs → ∃ us, H p = some (.lst us) := fun p hp => by
    cases o with
    | wd h n => cases hp
    | wl ht r =>
      rcases List.mem_cons.mp hp with e | hp
      · subst e; exact ⟨_, ht⟩
      · exact r.here p hp
  have go1 : Go P.F0 P.H0 (lent F H cs) H := ⟨a.at_.go.f.trans (lent_le hF), a.at_.go.h, lent_leH a.at_.go.fh, fun p u hu hn2 => by
    have : ¬ p ∈ cs := fun hp => by rw [(hcs p hp).2] at hu; cases hu
    rw [lent_out this]
    exact a.at_.go.fr p u hu hn2⟩
  have en1 : EnOk P.X.K P.ca P.H0 (lent F H cs) H σ (env.set i (some (.d d))) := by
    have e1 := a.at_.en.shrink a.no (lent_le (H := H) hF) a.at_.en.h0
    have e2 := e1.setD (i := i) (o.rep hF fun p hp => hp)
    have hσ : σ.set i (some v) = σ := by
      obtain ⟨h1, h2⟩ := List.getElem?_eq_some_iff.mp hv
      rw [← h2]; exact List.set_getElem_self h1
    rw [hσ] at e2
    exact e2
  have ho1 : Um.HOk P (lent F H cs) H σ := ⟨a.at_.ho.1, fun j t hj => by
    obtain ⟨w, h1, h2⟩ := a.at_.ho.2 j t hj
    exact ⟨w, h1, h2.mono (lent_le hF)⟩⟩
  have a1 : AtF P (lent F H cs) (env.set i (some (.d d))) (re.bind fun y => (lentW y).bind k) σ H := ⟨go1, en1, ho1, by
    have := a.at_.eq
    rw [← this]; cases re <;> rfl⟩
  refine a1.ev G h fun y v2 F' H' _ g q a' => ?_
  have ae := a'.eq
  obtain ⟨cs2, nd2, hc2, o2⟩ := q
  have hp : ∀ p, p ∈ cs → ∃ us, F' p = some (.lst us) := fun p hp => by
    obtain ⟨us, hu⟩ := hl p hp
    exact ⟨us, g.f p _ (by rw [lent_in hp]; exact hu)⟩
  have hT : ∀ p, p ∈ cs2 → F' p = none ∧ ¬ p ∈ cs := fun p hp2 => ⟨(hc2 p hp2).2, fun hm => by
    obtain ⟨us, hu⟩ := hl p hm
    rw [(hc2 p hp2).1] at hu; cases hu⟩
  have leF : Le F (cutS (lent F' H' cs2) cs) := fun b u hb => by
    have hbc : ¬ b ∈ cs := fun hm => by rw [hF b hm] at hb; cases hb
    rw [cutS_out hbc]
    exact lent_le (fun p hp => (hT p hp).1) b u (g.f b u (lent_le hF b u hb))
  have key : ∀ y', lentW y = .ok y' → y' = y ∧ Rep P.X.K P.ca (cutS (lent F' H' cs2) cs) v2 y := fun y' hy => by
    have leC : Le (cutS F' cs) (cutS (lent F' H' cs2) cs) := fun b u h => by
      by_cases hb : b ∈ cs
      · rw [cutS_in hb] at h; cases h
      · rw [cutS_out hb] at h ⊢
        exact lent_le (fun p hp => (hT p hp).1) b u h
    cases o2 with
    | wd h n =>
      refine ⟨?_, (Rep.cutS hp n h).mono leC⟩
      cases y with
      | lst ys => simp [noL] at n
      | _ => first | (unfold lentW at hy; rw [if_pos n] at hy; exact (R.ok.inj hy).symm) | (simp only [lentW, n, if_true] at hy; exact (R.ok.inj hy).symm)
    | @wl p vs ds cs3 ht r =>
      unfold lentW at hy
      dsimp only at hy
      split at hy
      · rename_i hall
        refine ⟨(R.ok.inj hy).symm, .lst (vs := vs) ?_ (r.cutS hp hT (fun b hb => List.mem_cons_of_mem _ hb) hall)⟩
        rw [cutS_out (hT p List.mem_cons_self).2, lent_in List.mem_cons_self]; exact ht
      · cases hy
  cases hy : lentW y with
  | er z =>
    exfalso
    unfold lentW at hy
    split at hy <;> split at hy <;> cases hy
  | bad => rw [hy] at ae; exact absurd ae.symm G.nb
  | ok y' =>
    obtain ⟨rfl, hrep⟩ := key y' hy
    rw [hy] at ae
    have go2 : Go P.F0 P.H0 (cutS (lent F' H' cs2) cs) H' := ⟨a.at_.go.f.trans leF, a.at_.go.h.trans g.h, cutS_le.trans (lent_leH g.fh), fun p u hu hn2 => by
      by_cases hpc : p ∈ cs
      · exact cutS_in hpc
      · rw [cutS_out hpc]
        have : ¬ p ∈ cs2 := fun hm => by
          have := a.at_.go.h p u hu
          rw [(hc2 p hm).1] at this; cases this
        rw [lent_out this]
        exact a'.go.fr p u hu hn2⟩
    refine hk _ D hr hn' hb hc _ _ ⟨cutS (lent F' H' cs2) cs, ⟨go2, (a.at_.en.shrink a.no leF (a.at_.en.h0.trans g.h)).setD hrep, ?_, ae⟩, fun jj xx hjj => ?_, cs, v, by rw [List.getElem?_set_ne hij]; exact hv, nd, fun q hq => ⟨cutS_in hq, (hcs q hq).2⟩, o.mono leF fun q _ u hu => g.h q u hu⟩
    · exact HOk.set ⟨a.at_.ho.1, fun jj t hjj => by
        obtain ⟨w, h1, h2⟩ := a.at_.ho.2 jj t hjj
        exact ⟨w, h1, h2.mono leF⟩⟩ hh
    · rcases set_some hjj with ⟨_, e⟩ | ⟨_, hj'⟩
      · cases e
      · exact a.no jj xx hj'
end
end Um

namespace Um
open L2 PySem PySem.Spec PyProof.Rows
/-! ## raise X() -/
namespace N0
open L2N
theorem pmk_own0 {X : Cx} {C : Addr} {bmB : List Value} {B newId initId : String} {x : Str} {p pos : Pos} (F : ExcBaseFacts B newId initId bmB) (q : PySem.W.excIn X.K C bmB newId = true) (gC : X.mg x = some (.ref C)) (kC : PySem.W.keepIn X.K (.ref C) = true) (r : Raises X (.ref C)) (hg : Gl X x)
    (hdb : (x == ("__debug__" : Str)) = false := by decide) : L2N.PMk X (.Call (.Name x p) [] [] pos) (fun _ H Q => Q (.ref C) none H) := by
  intro pins s σ H Q I h
  refine wpAny_Call_Name_kw (ld_glob I hg gC ?_ hdb)
  refine PySem.W.callWith_K0 I.kIn kC ?_
  show wpAny _ _ (call (.ref C) []) _ _ _
  obtain ⟨bm, N, nm, qn, bs, hdct, sn, sub, ab, col, dd, k0, k1, k2, k3, k5, mN, hC, hN, hni, T⟩ := exc_obj I.kIn q
  refine wpAny_call_exc_subT F T hC hN hni (fun h' e hm => ?_) (Nat.zero_le _)
  exact mk_of I hm r h (I.hok.gone hm.new)
end N0
section
variable {α : Type} {P : Pt α} {nx bk ct : Jp α} {env : En} {rest : List Stmt}
theorem ss_raise00 (G : P.Good) (tk : L2N.Takes P.X P.W) {c : Str} {x : Str} {p pos pos' : Pos} (T : ExcK P.X.K P.X.mg (P.ca c) x) (hg : Gl P.X x := by rfl) (hdb : (x == ("__debug__" : Str)) = false := by decide) :
    SSs P nx bk ct env (.Raise (some (.Call (.Name x p) [] [] pos)) none pos' :: rest) (.er ⟨c, [], []⟩) :=
  ss_raiseK G tk (N0.pmk_own0 PySem.F.excBase_ValueError T.q T.gC T.kC (raises_own T.b T.t) hg hdb)
end
/-! ## sep.join(list of texts), l.index(x), reversed(range(n)) -/
def strsOf : List D → Option (List Str)
  | [] => some []
  | .str s :: ds => (strsOf ds).map (s :: ·)
  | _ :: _ => none
theorem strsOf_reps {K : PySem.W.Frag} {ca : Ca} {F : Hp} : ∀ {ds : List D} {ys : List Str} {vs : List V}, strsOf ds = some ys → Reps K ca F vs ds → vs = ys.map V.str
  | [], ys, vs, h, r => by cases r; cases h; rfl
  | .str s :: ds, ys, vs, h, r => by
    cases r with
    | cons h1 r =>
      obtain ⟨zs, hz, e⟩ := Option.map_eq_some_iff.mp h
      subst e
      cases h1
      rw [strsOf_reps hz r]; rfl
  | .non :: _, _, _, h, _ => by cases h
  | .bl _ :: _, _, _, h, _ => by cases h
  | .int _ :: _, _, _, h, _ => by cases h
  | .ty _ :: _, _, _, h, _ => by cases h
  | .cl _ :: _, _, _, h, _ => by cases h
  | .lst _ :: _, _, _, h, _ => by cases h
  | .scr _ :: _, _, _, h, _ => by cases h
  | .tup _ :: _, _, _, h, _ => by cases h
  | .ins _ _ _ :: _, _, _, h, _ => by cases h
  | .dic _ _ :: _, _, _, h, _ => by cases h
  | .fdic _ _ :: _, _, _, h, _ => by cases h
  | .ktup _ :: _, _, _, h, _ => by cases h
  | .tdic _ _ :: _, _, _, h, _ => by cases h
  | .ptr _ :: _, _, _, h, _ => by cases h
def asStr : D → R Str
  | .str s => .ok s
  | _ => .bad
def dJoin (a : Str) (d : D) : R D := match d with
  | .lst ds => (match strsOf ds with
    | some ys => if (ys.map (·.length)).sum + ys.length * a.length ≤ 16777216 then .ok (.str (Txt.join a ys)) else .bad
    | none => .bad)
  | _ => .bad
section
variable {ca : Ca} {X : Cx} {W : WX} {H0 F H : Hp} {env : En} {o e : Expr} {ro re : R D}
theorem se_join {apos cpos : Pos} (ho : SE ca X W H0 .v env o ro) (h : SE ca X W H0 .v env e re)
    (hs : starEach [e] X.env = (false, eval e X.env) :: starEach [] X.env := by rfl)
    (hbase : attributeBase o "join" X.env (eval o X.env) = eval o X.env := by rfl)
    (hfew : ((backTo cpos (starEach [e] X.env)).all (fun x => !x.1) && (backToKw cpos (keywordEach [] X.env)).all (fun x => x.1.isSome)
      && decide ([e].length + ([] : List Keyword).length + (if ([] : List Keyword).isEmpty then 0 else 1) < 30)) = true := by rfl)
    (hline : (apos.endLine == cpos.line) = true := by rfl) (hplain : (backTo cpos (starEach [] X.env)).any (·.1) = false := by rfl) :
    SE ca X W H0 .v env (.Call (.Attribute o "join" apos) [e] [] cpos) (ro.bind fun x => (asStr x).bind fun a => re.bind (dJoin a)) := fun F H σ Q le ok hp => by
  refine ⟨_, pe_bm PySem.F.plainAttrs_str PySem.F.slot_str_join PySem.F.type_str_join mt_join pe_W (pa_cons pe_W pa_nil hs) hbase hfew hline hs hplain, ho.then le ok hp fun d v F1 H1 _ g1 q1 ok1 hp1 => ?_⟩
  cases d with
  | str a =>
    cases q1
    refine ⟨rfl, h.then g1.fh ok1 hp1 fun d v F2 H2 _ g2 q2 ok2 hp2 => ?_⟩
    unfold dJoin at hp2
    cases d with
    | lst ds =>
      dsimp only at hp2
      cases hy : strsOf ds with
      | none => rw [hy] at hp2; exact hp2.elim
      | some ys =>
        rw [hy] at hp2
        dsimp only at hp2
        split at hp2
        · rename_i hz
          cases q2 with
          | lst h1 r =>
            rw [strsOf_reps hy r] at h1
            exact ⟨a, _, ys, rfl, rfl, .inl (.inl (.inl (g2.fh _ _ h1))), hz, hp2 _ F2 H2 (Go.refl g2.fh) (.str _)⟩
        · exact hp2.elim
    | _ => exact hp2.elim
  | _ => exact hp1.elim
def idxP (d : PyData) : List PyData → Nat → Option Nat
  | [], _ => none
  | z :: zs, k => if PyData.eqv z d = true then some k else idxP d zs (k + 1)
theorem idxP_some {d : PyData} : ∀ {ds : List PyData} {k j : Nat}, idxP d ds k = some j → k ≤ j ∧ (∃ z, ds[j - k]? = some z ∧ PyData.eqv z d = true) ∧ ∀ (m : Nat) (z : PyData), m < j - k → ds[m]? = some z → PyData.eqv z d = false
  | [], k, j, h => by cases h
  | z :: zs, k, j, h => by
    unfold idxP at h
    split at h
    · rename_i he
      cases h
      refine ⟨Nat.le_refl _, ⟨z, by rw [Nat.sub_self]; rfl, he⟩, fun m z' hm => by omega⟩
    · rename_i he
      obtain ⟨h1, ⟨z1, h2, h3⟩, h4⟩ := idxP_some h
      refine ⟨by omega, ⟨z1, by rw [show j - k = (j - (k + 1)) + 1 by omega]; simpa using h2, h3⟩, fun m z' hm hz => ?_⟩
      cases m with
      | zero => simp at hz; subst hz; simpa using he
      | succ m => exact h4 m z' (by omega) (by simpa using hz)
def dIndex (x d : D) : R D := match x with
  | .lst ds => (match toPys ds, toPy d with
    | some a, some b => if SeqAt.shaped (.list a) = true ∧ SeqAt.shaped b = true then (match idxP b a 0 with | some j => .ok (.int (j : Nat)) | none => .bad) else .bad
    | _, _ => .bad)
  | _ => .bad
def asLst (d : D) : R D := match d with | .lst ds => .ok (.lst ds) | _ => .bad
theorem se_index {apos cpos : Pos} (hu : X.A.units + 65 < cLine) (ho : SE ca X W H0 .v env o ro) (h : SE ca X W H0 .r env e re)
    (hs : starEach [e] X.env = (false, eval e X.env) :: starEach [] X.env := by rfl)
    (hbase : attributeBase o "index" X.env (eval o X.env) = eval o X.env := by rfl)
    (hfew : ((backTo cpos (starEach [e] X.env)).all (fun x => !x.1) && (backToKw cpos (keywordEach [] X.env)).all (fun x => x.1.isSome)
      && decide ([e].length + ([] : List Keyword).length + (if ([] : List Keyword).isEmpty then 0 else 1) < 30)) = true := by rfl)
    (hline : (apos.endLine == cpos.line) = true := by rfl) (hplain : (backTo cpos (starEach [] X.env)).any (·.1) = false := by rfl) :
    SE ca X W H0 .v env (.Call (.Attribute o "index" apos) [e] [] cpos) (ro.bind fun x => (asLst x).bind fun a => re.bind (dIndex a)) := fun F H σ Q le ok hp => by
  refine ⟨_, pe_bm PySem.F.plainAttrs_list PySem.F.slot_list_index PySem.F.type_list_index (mt_indexD hu) pe_W (pa_cons pe_W pa_nil hs) hbase hfew hline hs hplain, ho.then le ok hp fun d v F1 H1 _ g1 q1 ok1 hp1 => ?_⟩
  cases d with
  | lst ds =>
    cases q1 with
    | @lst p vs _ h1 r1 =>
      refine ⟨.inl ⟨rfl, vs, .inl (.inl (g1.fh _ _ h1))⟩, h.then g1.fh ok1 hp1 fun d v F2 H2 _ g2 q2 ok2 hp2 => ?_⟩
      unfold dIndex at hp2
      dsimp only at hp2
      split at hp2
      · rename_i a b ea eb
        split at hp2
        · rename_i hz
          split at hp2
          · rename_i j hj
            obtain ⟨_, ⟨z, hz1, hz2⟩, hz3⟩ := idxP_some hj
            have hl : AR X.K ca F2 H2 (.ref p) (.lst ds) := .inl (.lst (g2.f _ _ h1) (r1.mono g2.f))
            have e1 : toPy (.lst ds) = some (.list a) := by simp [toPy, ea]
            refine ⟨p, _, b, a, j, z, rfl, rfl, ar_dp g2.fh hl e1, ar_dp g2.fh q2 eb, hz.1, hz.2, by simpa using hz1, hz2, fun m z' hm hz' => hz3 m z' (by omega) hz', hp2 _ F2 H2 (Go.refl g2.fh) (.int _)⟩
          · exact hp2.elim
        · exact hp2.elim
      · exact hp2.elim
  | _ => exact hp1.elim
def dRevR : D → R (List D)
  | .int n => if inR n then .ok (rngD ((n.toNat : Int) - 1) (-1) n.toNat) else .bad
  | _ => .bad
theorem si_rev1 {tg a : Expr} {ra : R D} {p p' pos pos' : Pos} (h : SE ca X W H0 .r env a ra) (hm : X.mg "range" = none) (hmr : X.mg "reversed" = none) (hg : Gl X "range" := by rfl) (hgr : Gl X "reversed" := by rfl)
    (na : starEach [a] X.env = (false, eval a X.env) :: starEach [] X.env := by rfl) (nb : starEach [.Call (.Name "range" p) [a] [] pos] X.env = (false, eval (.Call (.Name "range" p) [a] [] pos) X.env) :: starEach [] X.env := by rfl) :
    SI ca X W H0 env tg (.Call (.Name "reversed" p') [.Call (.Name "range" p) [a] [] pos] [] pos') (ra.bind dRevR) := fun F H σ Q le ok hp => by
  refine ⟨_, pi_revR hgr hmr (prg_1 hg hm pe_W na) nb, ?_⟩
  refine h F H σ _ le ok ?_
  cases ra with
  | er x => exact hp
  | bad => exact hp.elim
  | ok d =>
    intro v F' H' g q
    have hp' : PostI ca X H0 (ekOf X.K ca W σ) F H (dRevR d) Q := hp
    cases d with
    | int n =>
      unfold dRevR at hp'
      dsimp only at hp'
      split at hp'
      · rename_i hn
        unfold inR at hn
        refine ⟨n, ar_int q, by omega, by omega, by omega, by omega, ?_⟩
        have e1 : (0 : Int) + (((n - 0).toNat : Nat) : Int) - 1 = (n.toNat : Int) - 1 := by rw [Int.sub_zero]; omega
        rw [e1, Int.sub_zero]
        exact hp' _ F' H' g itok_rngC
      · exact hp'.elim
    | _ => exact hp'.elim
end
end Um

namespace Um
open L2 PySem PySem.Spec PyProof.Rows
/-! ## Comprehensions: any target, two clauses -/
section
variable {ca : Ca} {X : Cx} {W : WX} {H0 F H : Hp} {env : En} {σ : L2.St}
/-- what a target does with an item -/
def Stores (ca : Ca) (X : Cx) (H0 : Hp) (env : En) (g : TG) (vs : List Nat) (ok : D → Prop) (envD : D → En) : Prop :=
  ∀ (d : D) (F H : Hp) (v : V) (σ : L2.St) (K : L2.St → Hp → Prop), ok d → Le F H → Rep X.K ca F v d → EnOk X.K ca H0 F H (L2.wipe σ vs) (wipeE env vs) → (∀ σ2, L2.wipe σ2 vs = L2.wipe σ vs → EnOk X.K ca H0 F H σ2 (envD d) → K σ2 H) → g v (L2.wipe σ vs) H K
theorem lc_readingG {tg it elt : Expr} {ifs : List Expr} {scope : Scope} {ri : R (List D)} {cM : D → R Bool} {eM : D → R D} {g : TG} {vs : List Nat} {envD : D → En}
    (hi : SI ca X W H0 env tg it ri) (hst : Stores ca X H0 env g vs (fun d => cM d ≠ .bad) envD)
    (hc : ∀ d s Hb C cl fp, STs ca (BX X s Hb scope C cl fp) W0 H0 (envD d) ifs (cM d))
    (he : ∀ d s Hb C cl fp, SE ca (BX X s Hb scope C cl fp) W0 H0 .v (envD d) elt (eM d)) :
    ∀ F H σ Q, Le F H → EnOk X.K ca H0 F H σ env → Post X.K ca .o (ekOf X.K ca W σ) F H (ri.bind fun ds => (compC ds cM eM).bind finC) Q →
      tLc (WI X tg it) g (lcTT X scope ifs) (lcT X scope elt) vs σ H Q := fun F H σ Q le ok hp => by
  refine hi F H σ _ le ok ?_
  cases ri with
  | er x => exact hp
  | bad => exact hp.elim
  | ok ds =>
    intro J F1 H1 g1 io Dl hD
    have hp1 : Post X.K ca .o (ekOf X.K ca W σ) F1 H1 ((compC ds cM eM).bind finC) Q := Post.mono g1 hp
    have ok1 := ok.mono g1
    have nb : (compC ds cM eM).bind finC ≠ .bad := fun z => by rw [z] at hp1; exact hp1
    have hF1 : F1 Dl = none := g1.fh.free hD
    refine ⟨fun i m H' => m = ds.length - i ∧ i ≤ ds.length ∧ ∃ F2 vs acc, Go F1 H1 F2 H' ∧ F2 Dl = none ∧ H' Dl = some (.lst vs) ∧ Reps X.K ca F2 vs acc ∧ (((compC (ds.drop i) cM eM).bind fun xs => finC (acc ++ xs)) = (compC ds cM eM).bind finC), ?_, ?_⟩
    · refine ⟨ds.length, by omega, Nat.zero_le _, F1, [], [], ⟨Le.refl F1, Le.new hD, g1.fh.trans (Le.new hD), fun _ _ _ n => n⟩, hF1, upd_same, .nil, rfl⟩
    · rintro i m H' ⟨rfl, hil, F2, ws, acc, g2, hn, hl, r, eq⟩
      have io2 := io F2 H' g2.f g2.fh (ok1.h0.trans g2.h)
      by_cases hlt : i < ds.length
      · refine .inr ?_
        have hd : ds[i]? = some ds[i] := List.getElem?_eq_getElem hlt
        obtain ⟨hgo, hy⟩ := io2.1 i _ hd
        refine ⟨hgo, fun H' => i + 1 ≤ ds.length ∧ ∃ F2 vs acc, Go F1 H1 F2 H' ∧ F2 Dl = none ∧ H' Dl = some (.lst vs) ∧ Reps X.K ca F2 vs acc ∧ (((compC (ds.drop (i + 1)) cM eM).bind fun xs => finC (acc ++ xs)) = (compC ds cM eM).bind finC), fun H' ⟨a, b⟩ => ⟨_, by omega, rfl, a, b⟩, fun v H3 hyd => ?_⟩
        obtain ⟨F3, g3, q3⟩ := hy v H3 hyd
        have g13 := g2.trans g3
        have hn3 : F3 Dl = none := g3.fr Dl _ hl hn
        have hl3 := g3.h _ _ hl
        have r3 := r.mono g3.f
        rw [List.drop_eq_getElem_cons hlt] at eq
        have eq' : ((noEr (cM ds[i])).bind fun b => if b = true then (noEr (eM ds[i])).bind fun x => (compC (ds.drop (i + 1)) cM eM).bind fun xs => finC (acc ++ (x :: xs)) else (compC (ds.drop (i + 1)) cM eM).bind fun xs => finC (acc ++ xs)) = (compC ds cM eM).bind finC := by
          rw [← eq]
          show _ = (((noEr (cM ds[i])).bind fun b => if b = true then (noEr (eM ds[i])).bind fun x => (compC (ds.drop (i + 1)) cM eM).bind fun xs => .ok (x :: xs) else compC (ds.drop (i + 1)) cM eM).bind fun xs => finC (acc ++ xs))
          cases noEr (cM ds[i]) with
          | ok b =>
            cases b with
            | true =>
              show (noEr (eM ds[i])).bind _ = ((noEr (eM ds[i])).bind _).bind _
              cases noEr (eM ds[i]) with
              | ok x =>
                show (compC _ cM eM).bind _ = ((compC _ cM eM).bind _).bind _
                cases compC (ds.drop (i + 1)) cM eM <;> rfl
              | er x => rfl
              | bad => rfl
            | false => rfl
          | er x => rfl
          | bad => rfl
        have hnb : cM ds[i] ≠ .bad := fun z => by rw [z] at eq'; exact nb eq'.symm
        refine hst ds[i] F3 H3 v σ _ hnb g13.fh q3 ((ok1.mono g13).wipe vs) fun σ2 hw ok3 => ⟨hw, fun s Hb C cl fp => ?_⟩
        refine hc ds[i] s Hb C cl fp F3 H3 _ _ g13.fh ok3 ?_
        cases hcd : cM ds[i] with
        | er z => rw [hcd] at eq'; exact absurd eq'.symm nb
        | bad => exact absurd hcd hnb
        | ok b =>
          rw [hcd] at eq'
          intro F4 H4 g4
          have hn4 : F4 Dl = none := g4.fr Dl _ hl3 hn3
          cases b with
          | false => exact ⟨hlt, F4, ws, acc, g13.trans g4, hn4, g4.h _ _ hl3, r3.mono g4.f, eq'⟩
          | true =>
            intro s Hb C cl fp
            refine he ds[i] s Hb C cl fp F4 H4 _ _ g4.fh (ok3.mono g4) ?_
            cases hed : eM ds[i] with
            | er z => rw [hed] at eq'; exact absurd eq'.symm nb
            | bad => rw [hed] at eq'; exact absurd eq'.symm nb
            | ok y =>
              rw [hed] at eq'
              intro w F5 H5 g5 q5
              have hn5 : F5 Dl = none := g5.fr Dl _ (g4.h _ _ hl3) hn4
              have g15 := (g13.trans g4).trans g5
              have eq2 : ((compC (ds.drop (i + 1)) cM eM).bind fun xs => finC (acc ++ [y] ++ xs)) = (compC ds cM eM).bind finC := by
                rw [← eq']
                show _ = (compC (ds.drop (i + 1)) cM eM).bind fun xs => finC (acc ++ (y :: xs))
                simp only [List.append_assoc, List.singleton_append]
              refine ⟨ws, g5.h _ _ (g4.h _ _ hl3), ?_, hlt, F5, ws ++ [w], acc ++ [y], ⟨g15.f, fun a u e => ?_, fun a u e => ?_, g15.fr⟩, hn5, upd_same, (r3.mono (g4.f.trans g5.f)).snoc q5, eq2⟩
              · rw [r.length]
                cases hq : compC (ds.drop (i + 1)) cM eM with
                | er z =>
                  rw [hq] at eq2
                  exact absurd eq2.symm (fun z2 => by rw [z2] at hp1; exact (compC_noer (z := z) hq).elim)
                | bad => rw [hq] at eq2; exact absurd eq2.symm nb
                | ok xs =>
                  rw [hq] at eq2
                  have e3 : finC (acc ++ [y] ++ xs) = (compC ds cM eM).bind finC := eq2
                  unfold finC at e3
                  split at e3
                  · rename_i hs
                    unfold short at hs
                    rw [List.length_append, List.length_append, List.length_singleton] at hs
                    omega
                  · exact absurd e3.symm nb
              · rw [upd_ne (ne_of_none e hD)]; exact g15.h a u e
              · rw [upd_ne (ne_of_none e hn5)]; exact g15.fh a u e
      · have e : i = ds.length := by omega
        subst e
        refine .inl ⟨io2.2, ?_⟩
        rw [List.drop_length] at eq
        have e2 : finC acc = (compC ds cM eM).bind finC := by rw [← eq]; show _ = finC (acc ++ []); rw [List.append_nil]
        rw [← e2] at hp1 nb
        unfold finC at hp1 nb
        split at hp1
        · exact hp1 _ F2 H' g2 ⟨Dl, rfl, hD, hn, .inl ⟨ws, acc, rfl, hl, r⟩⟩
        · exact hp1.elim
def en2 (env : En) (i j : Nat) : D → En
  | .tup [a, b] => (((env.set j none).set i none).set i (some (.d a))).set j (some (.d b))
  | _ => env
def en3 (env : En) (i j l : Nat) : D → En
  | .tup [a, b, c] => (((((env.set l none).set j none).set i none).set i (some (.d a))).set j (some (.d b))).set l (some (.d c))
  | _ => env
theorem set2_none {β : Type} (l : List (Option β)) (i j : Nat) (u v : Option β) : ((((((l.set j none).set i none).set i u).set j v).set j none).set i none) = (l.set j none).set i none := by
  apply List.ext_getElem?
  intro k
  simp only [List.getElem?_set, List.length_set]
  by_cases h1 : i = k <;> by_cases h2 : j = k <;> simp [h1, h2] <;> split <;> simp_all
theorem set3_none {β : Type} (s : List (Option β)) (i j l : Nat) (u v w : Option β) : ((((((((s.set l none).set j none).set i none).set i u).set j v).set l w).set l none).set j none).set i none = ((s.set l none).set j none).set i none := by
  apply List.ext_getElem?
  intro k
  simp only [List.getElem?_set, List.length_set]
  by_cases h1 : i = k <;> by_cases h2 : j = k <;> by_cases h3 : l = k <;> simp [h1, h2, h3] <;> split <;> simp_all
theorem stores_2 {i j : Nat} {cM : D → D → R Bool} : Stores ca X H0 env (gTup X.K 2 (gCons (gName i) (gCons (gName j) gNil))) [i, j] (fun d => unp2 d cM ≠ .bad) (en2 env i j) := fun d F H v σ K hnb le q ok hk => by
  dsimp only at hnb
  unfold unp2 at hnb
  split at hnb
  · rename_i a b
    obtain ⟨p, vs, rfl, hq, r⟩ := rep_tupI q
    cases r with
    | cons r1 r =>
      cases r with
      | cons r2 r =>
        cases r
        refine ⟨p, _, rfl, le.t hq.t, rfl, _, _, rfl, _, _, rfl, rfl, ?_⟩
        exact hk _ (set2_none σ i j _ _) ((ok.setD r1).setD r2)
  · exact absurd rfl hnb
theorem stores_3 {i j l : Nat} {cM : D → D → D → R Bool} : Stores ca X H0 env (gTup X.K 3 (gCons (gName i) (gCons (gName j) (gCons (gName l) gNil)))) [i, j, l] (fun d => unp3 d cM ≠ .bad) (en3 env i j l) := fun d F H v σ K hnb le q ok hk => by
  dsimp only at hnb
  unfold unp3 at hnb
  split at hnb
  · rename_i a b c
    obtain ⟨p, vs, rfl, hq, r⟩ := rep_tupI q
    cases r with
    | cons r1 r =>
      cases r with
      | cons r2 r =>
        cases r with
        | cons r3 r =>
          cases r
          refine ⟨p, _, rfl, le.t hq.t, rfl, _, _, rfl, _, _, rfl, _, _, rfl, rfl, ?_⟩
          exact hk _ (set3_none σ i j l _ _ _) (((ok.setD r1).setD r2).setD r3)
  · exact absurd rfl hnb
theorem STs.bad {ifs : List Expr} : STs ca X W H0 env ifs .bad := fun F H σ Q le ok hp => hp.elim
theorem SE.bad {m : Md} {e : Expr} : SE ca X W H0 m env e .bad := fun F H σ Q le ok hp => hp.elim
theorem sts_2 {i j : Nat} {ifs : List Expr} {c : D → D → R Bool} (h : ∀ a b, STs ca X W H0 ((((env.set j none).set i none).set i (some (.d a))).set j (some (.d b))) ifs (c a b)) (d : D) : STs ca X W H0 (en2 env i j d) ifs (unp2 d c) := by
  unfold unp2
  split
  · exact h _ _
  · exact STs.bad
theorem se_2 {i j : Nat} {m : Md} {e : Expr} {c : D → D → R D} (h : ∀ a b, SE ca X W H0 m ((((env.set j none).set i none).set i (some (.d a))).set j (some (.d b))) e (c a b)) (d : D) : SE ca X W H0 m (en2 env i j d) e (unp2 d c) := by
  unfold unp2
  split
  · exact h _ _
  · exact SE.bad
theorem sts_3 {i j l : Nat} {ifs : List Expr} {c : D → D → D → R Bool} (h : ∀ a b x, STs ca X W H0 ((((((env.set l none).set j none).set i none).set i (some (.d a))).set j (some (.d b))).set l (some (.d x))) ifs (c a b x)) (d : D) : STs ca X W H0 (en3 env i j l d) ifs (unp3 d c) := by
  unfold unp3
  split
  · exact h _ _ _
  · exact STs.bad
theorem se_3 {i j l : Nat} {m : Md} {e : Expr} {c : D → D → D → R D} (h : ∀ a b x, SE ca X W H0 m ((((((env.set l none).set j none).set i none).set i (some (.d a))).set j (some (.d b))).set l (some (.d x))) e (c a b x)) (d : D) : SE ca X W H0 m (en3 env i j l d) e (unp3 d c) := by
  unfold unp3
  split
  · exact h _ _ _
  · exact SE.bad
/-- [e for x, y in it if ..] -/
theorem se_comp2 {x y : Str} {p1 p2 p3 pos : Pos} {i j n : Nat} {it elt : Expr} {ifs : List Expr} {scope : Scope} {ri : R (List D)} {cM : D → D → R Bool} {eM : D → D → R D} (hN : X.N.Nodup) (hcm : X.calm = true)
    (ok : BlkOk X.N X.env.scope scope [(x, i), (y, j)]) (hit : SI ca X W H0 env (.Tuple [.Name x p1, .Name y p2] n p3) it ri)
    (hc : ∀ a b s Hb C cl fp, STs ca (BX X s Hb scope C cl fp) W0 H0 ((((env.set j none).set i none).set i (some (.d a))).set j (some (.d b))) ifs (cM a b))
    (he : ∀ a b s Hb C cl fp, SE ca (BX X s Hb scope C cl fp) W0 H0 .v ((((env.set j none).set i none).set i (some (.d a))).set j (some (.d b))) elt (eM a b))
    (hi : X.N[i]? = some x := by rfl) (hj : X.N[j]? = some y := by rfl)
    (hx : ∀ s Hb C cl fp, Loc (BX X s Hb scope C cl fp).env.scope x := by intro s Hb C cl fp; first | exact .inl rfl | exact .inr rfl) (hf : ∀ s Hb C cl fp, (BX X s Hb scope C cl fp).fn x = true ∨ (BX X s Hb scope C cl fp).env.scope.names.lookup x = some .local := by intro s Hb C cl fp; first | exact .inr rfl | exact .inl rfl)
    (hy : ∀ s Hb C cl fp, Loc (BX X s Hb scope C cl fp).env.scope y := by intro s Hb C cl fp; first | exact .inl rfl | exact .inr rfl) (hf2 : ∀ s Hb C cl fp, (BX X s Hb scope C cl fp).fn y = true ∨ (BX X s Hb scope C cl fp).env.scope.names.lookup y = some .local := by intro s Hb C cl fp; first | exact .inr rfl | exact .inl rfl)
    (hn : ∀ s Hb C cl fp, (assignEach [.Name x p1, .Name y p2] (BX X s Hb scope C cl fp).env).length = 2 := by intro s Hb C cl fp; rfl) (hst : ∀ s Hb C cl fp, (assignEach [.Name x p1, .Name y p2] (BX X s Hb scope C cl fp).env).findIdx? (·.1) = none := by intro s Hb C cl fp; rfl)
    (hc1 : ∀ s Hb C cl fp, (assignEach [.Name x p1, .Name y p2] (BX X s Hb scope C cl fp).env).map (·.2) = assign (.Name x p1) (BX X s Hb scope C cl fp).env :: (assignEach [.Name y p2] (BX X s Hb scope C cl fp).env).map (·.2) := by intro s Hb C cl fp; rfl) (hc2 : ∀ s Hb C cl fp, (assignEach [.Name y p2] (BX X s Hb scope C cl fp).env).map (·.2) = assign (.Name y p2) (BX X s Hb scope C cl fp).env :: (assignEach [] (BX X s Hb scope C cl fp).env).map (·.2) := by intro s Hb C cl fp; rfl)
    (hs : ∀ x, foldedSetIterable it X.env x = pure x := by intro _; rfl) :
    SE ca X W H0 .o env (.ListComp elt [⟨.Tuple [.Name x p1, .Name y p2] n p3, it, ifs, 0⟩] scope pos) (ri.bind fun ds => (compC ds (fun d => unp2 d cM) (fun d => unp2 d eM)).bind finC) := fun F H σ Q le okE hp =>
  ⟨_, pe_lc (own := [(x, i), (y, j)]) hcm hN pi_W ok (fun s H C cl fp => pg_tup (X := BX X s H scope C cl fp) hcm (pgs_cons (pg_name (X := BX X s H scope C cl fp) hN hi (hx s H C cl fp) (hf s H C cl fp)) (pgs_cons (pg_name (X := BX X s H scope C cl fp) hN hj (hy s H C cl fp) (hf2 s H C cl fp)) pgs_nil (hc2 s H C cl fp)) (hc1 s H C cl fp)) (hn s H C cl fp) (hst s H C cl fp)) (fun s H C cl fp => lcTT_ok s H C cl fp) (fun s H C cl fp => lcT_ok s H C cl fp) hs,
   lc_readingG hit stores_2 (fun d s Hb C cl fp => sts_2 (X := BX X s Hb scope C cl fp) (fun a b => hc a b s Hb C cl fp) d) (fun d s Hb C cl fp => se_2 (X := BX X s Hb scope C cl fp) (fun a b => he a b s Hb C cl fp) d) F H σ Q le okE hp⟩
/-- [e for x, y, z in it if ..] -/
theorem se_comp3 {x y z : Str} {p1 p2 p3 p4 pos : Pos} {i j l n : Nat} {it elt : Expr} {ifs : List Expr} {scope : Scope} {ri : R (List D)} {cM : D → D → D → R Bool} {eM : D → D → D → R D} (hN : X.N.Nodup) (hcm : X.calm = true)
    (ok : BlkOk X.N X.env.scope scope [(x, i), (y, j), (z, l)]) (hit : SI ca X W H0 env (.Tuple [.Name x p1, .Name y p2, .Name z p4] n p3) it ri)
    (hc : ∀ a b c s Hb C cl fp, STs ca (BX X s Hb scope C cl fp) W0 H0 ((((((env.set l none).set j none).set i none).set i (some (.d a))).set j (some (.d b))).set l (some (.d c))) ifs (cM a b c))
    (he : ∀ a b c s Hb C cl fp, SE ca (BX X s Hb scope C cl fp) W0 H0 .v ((((((env.set l none).set j none).set i none).set i (some (.d a))).set j (some (.d b))).set l (some (.d c))) elt (eM a b c))
    (hi : X.N[i]? = some x := by rfl) (hj : X.N[j]? = some y := by rfl) (hl : X.N[l]? = some z := by rfl)
    (hx : ∀ s Hb C cl fp, Loc (BX X s Hb scope C cl fp).env.scope x := by intro s Hb C cl fp; first | exact .inl rfl | exact .inr rfl) (hf : ∀ s Hb C cl fp, (BX X s Hb scope C cl fp).fn x = true ∨ (BX X s Hb scope C cl fp).env.scope.names.lookup x = some .local := by intro s Hb C cl fp; first | exact .inr rfl | exact .inl rfl)
    (hy : ∀ s Hb C cl fp, Loc (BX X s Hb scope C cl fp).env.scope y := by intro s Hb C cl fp; first | exact .inl rfl | exact .inr rfl) (hf2 : ∀ s Hb C cl fp, (BX X s Hb scope C cl fp).fn y = true ∨ (BX X s Hb scope C cl fp).env.scope.names.lookup y = some .local := by intro s Hb C cl fp; first | exact .inr rfl | exact .inl rfl)
    (hz : ∀ s Hb C cl fp, Loc (BX X s Hb scope C cl fp).env.scope z := by intro s Hb C cl fp; first | exact .inl rfl | exact .inr rfl) (hf3 : ∀ s Hb C cl fp, (BX X s Hb scope C cl fp).fn z = true ∨ (BX X s Hb scope C cl fp).env.scope.names.lookup z = some .local := by intro s Hb C cl fp; first | exact .inr rfl | exact .inl rfl)
    (hn : ∀ s Hb C cl fp, (assignEach [.Name x p1, .Name y p2, .Name z p4] (BX X s Hb scope C cl fp).env).length = 3 := by intro s Hb C cl fp; rfl) (hst : ∀ s Hb C cl fp, (assignEach [.Name x p1, .Name y p2, .Name z p4] (BX X s Hb scope C cl fp).env).findIdx? (·.1) = none := by intro s Hb C cl fp; rfl)
    (hc1 : ∀ s Hb C cl fp, (assignEach [.Name x p1, .Name y p2, .Name z p4] (BX X s Hb scope C cl fp).env).map (·.2) = assign (.Name x p1) (BX X s Hb scope C cl fp).env :: (assignEach [.Name y p2, .Name z p4] (BX X s Hb scope C cl fp).env).map (·.2) := by intro s Hb C cl fp; rfl) (hc2 : ∀ s Hb C cl fp, (assignEach [.Name y p2, .Name z p4] (BX X s Hb scope C cl fp).env).map (·.2) = assign (.Name y p2) (BX X s Hb scope C cl fp).env :: (assignEach [.Name z p4] (BX X s Hb scope C cl fp).env).map (·.2) := by intro s Hb C cl fp; rfl)
    (hc3 : ∀ s Hb C cl fp, (assignEach [.Name z p4] (BX X s Hb scope C cl fp).env).map (·.2) = assign (.Name z p4) (BX X s Hb scope C cl fp).env :: (assignEach [] (BX X s Hb scope C cl fp).env).map (·.2) := by intro s Hb C cl fp; rfl)
    (hs : ∀ x, foldedSetIterable it X.env x = pure x := by intro _; rfl) :
    SE ca X W H0 .o env (.ListComp elt [⟨.Tuple [.Name x p1, .Name y p2, .Name z p4] n p3, it, ifs, 0⟩] scope pos) (ri.bind fun ds => (compC ds (fun d => unp3 d cM) (fun d => unp3 d eM)).bind finC) := fun F H σ Q le okE hp =>
  ⟨_, pe_lc (own := [(x, i), (y, j), (z, l)]) hcm hN pi_W ok (fun s H C cl fp => pg_tup (X := BX X s H scope C cl fp) hcm (pgs_cons (pg_name (X := BX X s H scope C cl fp) hN hi (hx s H C cl fp) (hf s H C cl fp)) (pgs_cons (pg_name (X := BX X s H scope C cl fp) hN hj (hy s H C cl fp) (hf2 s H C cl fp)) (pgs_cons (pg_name (X := BX X s H scope C cl fp) hN hl (hz s H C cl fp) (hf3 s H C cl fp)) pgs_nil (hc3 s H C cl fp)) (hc2 s H C cl fp)) (hc1 s H C cl fp)) (hn s H C cl fp) (hst s H C cl fp)) (fun s H C cl fp => lcTT_ok s H C cl fp) (fun s H C cl fp => lcT_ok s H C cl fp) hs,
   lc_readingG hit stores_3 (fun d s Hb C cl fp => sts_3 (X := BX X s Hb scope C cl fp) (fun a b c => hc a b c s Hb C cl fp) d) (fun d s Hb C cl fp => se_3 (X := BX X s Hb scope C cl fp) (fun a b c => he a b c s Hb C cl fp) d) F H σ Q le okE hp⟩
/-! ### two clauses -/
def comp2C : List D → (D → R Bool) → (D → R (List D)) → R (List D)
  | [], _, _ => .ok []
  | d :: ds, c, k => (noEr (c d)).bind fun b => if b = true then (noEr (k d)).bind fun xs => (comp2C ds c k).bind fun ys => .ok (xs ++ ys) else comp2C ds c k
theorem comp2C_noer {c : D → R Bool} {k : D → R (List D)} {z : Exc} : ∀ {ds : List D}, comp2C ds c k = .er z → False
  | [], h => by cases h
  | d :: ds, h => by
    unfold comp2C at h
    cases hc : c d with
    | er y => rw [hc] at h; cases h
    | bad => rw [hc] at h; cases h
    | ok b =>
      rw [hc] at h
      cases b with
      | false => exact comp2C_noer h
      | true =>
        have h' : ((noEr (k d)).bind fun xs => (comp2C ds c k).bind fun ys => .ok (xs ++ ys)) = .er z := h
        cases he : k d with
        | er y => rw [he] at h'; cases h'
        | bad => rw [he] at h'; cases h'
        | ok x =>
          rw [he] at h'
          cases hq : comp2C ds c k with
          | er y => exact comp2C_noer hq
          | bad => rw [hq] at h'; cases h'
          | ok xs => rw [hq] at h'; cases h'
def lcTI (X : Cx) (scope : Scope) (tg it : Expr) : TI := fun σ H R => ∀ (s : Shared) (Hb : Hp) (C : Addr) (cl : List (Str × Addr)) (fp : List Addr), WI (BX X s Hb scope C cl fp) tg it σ H R
theorem lcTI_ok {scope : Scope} {tg it : Expr} (s : Shared) (Hb : Hp) (C : Addr) (cl : List (Str × Addr)) (fp : List Addr) : PI (BX X s Hb scope C cl fp) tg it (lcTI X scope tg it) := ⟨fun pins s1 σ H R I h => by
  obtain ⟨t, p, q⟩ := h s Hb C cl fp
  exact p.run pins s1 σ H R I q⟩
theorem lc2_reading {tg it tg1 it1 elt : Expr} {ifs ifs1 : List Expr} {scope : Scope} {ri : R (List D)} {cM : D → R Bool} {iM : D → R (List D)} {cN : D → D → R Bool} {eN : D → D → R D} {j l : Nat}
    (hi : SI ca X W H0 env tg it ri)
    (hc : ∀ d s Hb C cl fp, STs ca (BX X s Hb scope C cl fp) W0 H0 (((env.set l none).set j none).set j (some (.d d))) ifs (cM d))
    (hi1 : ∀ d s Hb C cl fp, SI ca (BX X s Hb scope C cl fp) W0 H0 (((env.set l none).set j none).set j (some (.d d))) tg1 it1 (iM d))
    (hc1 : ∀ d e s Hb C cl fp, STs ca (BX X s Hb scope C cl fp) W0 H0 (((((env.set l none).set j none).set j (some (.d d))).set l none).set l (some (.d e))) ifs1 (cN d e))
    (he : ∀ d e s Hb C cl fp, SE ca (BX X s Hb scope C cl fp) W0 H0 .v (((((env.set l none).set j none).set j (some (.d d))).set l none).set l (some (.d e))) elt (eN d e)) :
    ∀ F H σ Q, Le F H → EnOk X.K ca H0 F H σ env → Post X.K ca .o (ekOf X.K ca W σ) F H (ri.bind fun ds => (comp2C ds cM (fun d => (iM d).bind fun es => compC es (cN d) (eN d))).bind finC) Q →
      tLc2 (WI X tg it) (gName j) (lcTT X scope ifs) (lcTI X scope tg1 it1) (gName l) (lcTT X scope ifs1) (lcT X scope elt) [j, l] [l] σ H Q := fun F H σ Q le ok hp => by
  refine hi F H σ _ le ok ?_
  cases ri with
  | er x => exact hp
  | bad => exact hp.elim
  | ok ds =>
    intro J F1 H1 g1 io Dl hD
    generalize hkM : (fun d => (iM d).bind fun es => compC es (cN d) (eN d)) = kM at hp
    have hp1 : Post X.K ca .o (ekOf X.K ca W σ) F1 H1 ((comp2C ds cM kM).bind finC) Q := Post.mono g1 hp
    have ok1 := ok.mono g1
    have nb : (comp2C ds cM kM).bind finC ≠ .bad := fun z => by rw [z] at hp1; exact hp1
    have ner : ∀ z, (comp2C ds cM kM).bind finC ≠ .er z := fun z h => by
      cases hq : comp2C ds cM kM with
      | er y => exact comp2C_noer hq
      | bad => rw [hq] at h; cases h
      | ok xs =>
        rw [hq] at h
        have h' : finC xs = .er z := h
        unfold finC at h'
        split at h' <;> cases h'
    have hF1 : F1 Dl = none := g1.fh.free hD
    refine ⟨fun i m H' => m = ds.length - i ∧ i ≤ ds.length ∧ ∃ F2 vs acc, Go F1 H1 F2 H' ∧ F2 Dl = none ∧ H' Dl = some (.lst vs) ∧ Reps X.K ca F2 vs acc ∧ (((comp2C (ds.drop i) cM kM).bind fun xs => finC (acc ++ xs)) = (comp2C ds cM kM).bind finC), ?_, ?_⟩
    · refine ⟨ds.length, by omega, Nat.zero_le _, F1, [], [], ⟨Le.refl F1, Le.new hD, g1.fh.trans (Le.new hD), fun _ _ _ n => n⟩, hF1, upd_same, .nil, rfl⟩
    · rintro i m H' ⟨rfl, hil, F2, ws, acc, g2, hn, hl, r, eq⟩
      have io2 := io F2 H' g2.f g2.fh (ok1.h0.trans g2.h)
      by_cases hlt : i < ds.length
      · refine .inr ?_
        have hd : ds[i]? = some ds[i] := List.getElem?_eq_getElem hlt
        obtain ⟨hgo, hy⟩ := io2.1 i _ hd
        refine ⟨hgo, fun H' => i + 1 ≤ ds.length ∧ ∃ F2 vs acc, Go F1 H1 F2 H' ∧ F2 Dl = none ∧ H' Dl = some (.lst vs) ∧ Reps X.K ca F2 vs acc ∧ (((comp2C (ds.drop (i + 1)) cM kM).bind fun xs => finC (acc ++ xs)) = (comp2C ds cM kM).bind finC), fun H' ⟨a, b⟩ => ⟨_, by omega, rfl, a, b⟩, fun v H3 hyd => ?_⟩
        obtain ⟨F3, g3, q3⟩ := hy v H3 hyd
        have g13 := g2.trans g3
        have hn3 : F3 Dl = none := g3.fr Dl _ hl hn
        have hl3 := g3.h _ _ hl
        have r3 := r.mono g3.f
        have ok3 : EnOk X.K ca H0 F3 H3 ((L2.wipe σ [j, l]).set j (some v)) (((env.set l none).set j none).set j (some (.d ds[i]))) := ((ok1.mono g13).wipe [j, l]).setD q3
        show L2.wipe ((L2.wipe σ [j, l]).set j (some v)) [j, l] = L2.wipe σ [j, l] ∧ lcTT X scope ifs ((L2.wipe σ [j, l]).set j (some v)) H3 _
        generalize hσ2 : (L2.wipe σ [j, l]).set j (some v) = σ2 at ok3
        refine ⟨?_, fun s Hb C cl fp => ?_⟩
        · subst hσ2
          show (((((σ.set l none).set j none).set j (some v)).set l none).set j none) = (σ.set l none).set j none
          apply List.ext_getElem?
          intro k
          simp only [List.getElem?_set, List.length_set]
          by_cases h1 : j = k <;> by_cases h2 : l = k <;> simp [h1, h2] <;> split <;> simp_all
        rw [List.drop_eq_getElem_cons hlt] at eq
        have eq' : ((noEr (cM ds[i])).bind fun b => if b = true then (noEr (kM ds[i])).bind fun x => (comp2C (ds.drop (i + 1)) cM kM).bind fun xs => finC (acc ++ (x ++ xs)) else (comp2C (ds.drop (i + 1)) cM kM).bind fun xs => finC (acc ++ xs)) = (comp2C ds cM kM).bind finC := by
          rw [← eq]
          show _ = (((noEr (cM ds[i])).bind fun b => if b = true then (noEr (kM ds[i])).bind fun x => (comp2C (ds.drop (i + 1)) cM kM).bind fun xs => .ok (x ++ xs) else comp2C (ds.drop (i + 1)) cM kM).bind fun xs => finC (acc ++ xs))
          cases noEr (cM ds[i]) with
          | ok b =>
            cases b with
            | true =>
              show (noEr (kM ds[i])).bind _ = ((noEr (kM ds[i])).bind _).bind _
              cases noEr (kM ds[i]) with
              | ok x =>
                show (comp2C _ cM kM).bind _ = ((comp2C _ cM kM).bind _).bind _
                cases comp2C (ds.drop (i + 1)) cM kM <;> rfl
              | er x => rfl
              | bad => rfl
            | false => rfl
          | er x => rfl
          | bad => rfl
        refine hc ds[i] s Hb C cl fp F3 H3 _ _ g13.fh ok3 ?_
        cases hcd : cM ds[i] with
        | er z => rw [hcd] at eq'; exact absurd eq'.symm nb
        | bad => rw [hcd] at eq'; exact absurd eq'.symm nb
        | ok b =>
          rw [hcd] at eq'
          intro F4 H4 g4
          have hn4 : F4 Dl = none := g4.fr Dl _ hl3 hn3
          cases b with
          | false => exact ⟨hlt, F4, ws, acc, g13.trans g4, hn4, g4.h _ _ hl3, r3.mono g4.f, eq'⟩
          | true =>
            intro s Hb C cl fp
            have eq3 : ((noEr (kM ds[i])).bind fun x => (comp2C (ds.drop (i + 1)) cM kM).bind fun xs => finC (acc ++ (x ++ xs))) = (comp2C ds cM kM).bind finC := eq'
            refine hi1 ds[i] s Hb C cl fp F4 H4 _ _ g4.fh (ok3.mono g4) ?_
            cases hid : iM ds[i] with
            | er z =>
              have hk : kM ds[i] = .er z := by rw [← hkM]; show (iM ds[i]).bind _ = _; rw [hid]; rfl
              rw [hk] at eq3; exact absurd eq3.symm nb
            | bad =>
              have hk : kM ds[i] = .bad := by rw [← hkM]; show (iM ds[i]).bind _ = _; rw [hid]; rfl
              rw [hk] at eq3; exact absurd eq3.symm nb
            | ok es =>
              have hk : kM ds[i] = compC es (cN ds[i]) (eN ds[i]) := by rw [← hkM]; show (iM ds[i]).bind _ = _; rw [hid]; rfl
              have hk2 : noEr (kM ds[i]) = compC es (cN ds[i]) (eN ds[i]) := by
                rw [hk]
                cases hq : compC es (cN ds[i]) (eN ds[i]) with
                | er z => exact (compC_noer hq).elim
                | ok z => rfl
                | bad => rfl
              rw [hk2] at eq3
              intro J1 F5 H5 g5 io5
              have g15 := (g13.trans g4).trans g5
              have hn5 : F5 Dl = none := g5.fr Dl _ (g4.h _ _ hl3) hn4
              have hl5 : H5 Dl = some (.lst ws) := g5.h _ _ (g4.h _ _ hl3)
              have ok5 := (ok3.mono g4).mono g5
              refine ⟨fun a k H' => k = es.length - a ∧ a ≤ es.length ∧ ∃ F6 vs acc', Le F5 F6 ∧ Go F1 H1 F6 H' ∧ F6 Dl = none ∧ H' Dl = some (.lst vs) ∧ Reps X.K ca F6 vs acc' ∧ (((compC (es.drop a) (cN ds[i]) (eN ds[i])).bind fun x => (comp2C (ds.drop (i + 1)) cM kM).bind fun xs => finC (acc' ++ (x ++ xs))) = (comp2C ds cM kM).bind finC), ?_, ?_⟩
              · refine ⟨es.length, by omega, Nat.zero_le _, F5, ws, acc, Le.refl F5, g15, hn5, hl5, (r3.mono g4.f).mono g5.f, eq3⟩
              · rintro a k H6 ⟨rfl, hal, F6, ws6, acc6, g56, g16, hn6, hl6, r6, eq6⟩
                have io6 := io5 F6 H6 g56 g16.fh (ok1.h0.trans g16.h)
                by_cases halt : a < es.length
                · refine .inr ?_
                  have hde : es[a]? = some es[a] := List.getElem?_eq_getElem halt
                  obtain ⟨hgo, hy⟩ := io6.1 a _ hde
                  refine ⟨hgo, fun H' => a + 1 ≤ es.length ∧ ∃ F6 vs acc', Le F5 F6 ∧ Go F1 H1 F6 H' ∧ F6 Dl = none ∧ H' Dl = some (.lst vs) ∧ Reps X.K ca F6 vs acc' ∧ (((compC (es.drop (a + 1)) (cN ds[i]) (eN ds[i])).bind fun x => (comp2C (ds.drop (i + 1)) cM kM).bind fun xs => finC (acc' ++ (x ++ xs))) = (comp2C ds cM kM).bind finC), fun H' ⟨a, b⟩ => ⟨_, by omega, rfl, a, b⟩, fun v7 H7 hyd7 => ?_⟩
                  obtain ⟨F7, g7, q7⟩ := hy v7 H7 hyd7
                  have g17 := g16.trans g7
                  have g57 : Le F5 F7 := g56.trans g7.f
                  have hn7 : F7 Dl = none := g7.fr Dl _ hl6 hn6
                  have hl7 := g7.h _ _ hl6
                  have r7 := r6.mono g7.f
                  have ok7 : EnOk X.K ca H0 F7 H7 ((L2.wipe σ2 [l]).set l (some v7)) ((((((env.set l none).set j none).set j (some (.d ds[i]))).set l none).set l (some (.d es[a])))) := by
                    have ok7' : EnOk X.K ca H0 F7 H7 σ2 (((env.set l none).set j none).set j (some (.d ds[i]))) := by
                      rw [← hσ2]
                      exact ((ok1.mono g17).wipe [j, l]).setD (Rep.mono ((g4.f.trans g5.f).trans g57) q3)
                    exact (ok7'.wipe [l]).setD q7
                  show L2.wipe ((L2.wipe σ2 [l]).set l (some v7)) [l] = L2.wipe σ2 [l] ∧ lcTT X scope ifs1 ((L2.wipe σ2 [l]).set l (some v7)) H7 _
                  refine ⟨by show (((σ2.set l none).set l (some v7)).set l none) = σ2.set l none; rw [List.set_set, List.set_set], fun s Hb C cl fp => ?_⟩
                  rw [List.drop_eq_getElem_cons halt] at eq6
                  have eq7 : ((noEr (cN ds[i] es[a])).bind fun b => if b = true then (noEr (eN ds[i] es[a])).bind fun y => (compC (es.drop (a + 1)) (cN ds[i]) (eN ds[i])).bind fun x => (comp2C (ds.drop (i + 1)) cM kM).bind fun xs => finC (acc6 ++ ((y :: x) ++ xs)) else (compC (es.drop (a + 1)) (cN ds[i]) (eN ds[i])).bind fun x => (comp2C (ds.drop (i + 1)) cM kM).bind fun xs => finC (acc6 ++ (x ++ xs))) = (comp2C ds cM kM).bind finC := by
                    rw [← eq6]
                    show _ = (((noEr (cN ds[i] es[a])).bind fun b => if b = true then (noEr (eN ds[i] es[a])).bind fun x => (compC (es.drop (a + 1)) (cN ds[i]) (eN ds[i])).bind fun xs => .ok (x :: xs) else compC (es.drop (a + 1)) (cN ds[i]) (eN ds[i])).bind fun x => (comp2C (ds.drop (i + 1)) cM kM).bind fun xs => finC (acc6 ++ (x ++ xs)))
                    cases noEr (cN ds[i] es[a]) with
                    | ok b =>
                      cases b with
                      | true =>
                        show (noEr (eN ds[i] es[a])).bind _ = ((noEr (eN ds[i] es[a])).bind _).bind _
                        cases noEr (eN ds[i] es[a]) with
                        | ok x =>
                          show (compC _ _ _).bind _ = ((compC _ _ _).bind _).bind _
                          cases compC (es.drop (a + 1)) (cN ds[i]) (eN ds[i]) <;> rfl
                        | er x => rfl
                        | bad => rfl
                      | false => rfl
                    | er x => rfl
                    | bad => rfl
                  refine hc1 ds[i] es[a] s Hb C cl fp F7 H7 _ _ g17.fh ok7 ?_
                  cases hcd7 : cN ds[i] es[a] with
                  | er z => rw [hcd7] at eq7; exact absurd eq7.symm nb
                  | bad => rw [hcd7] at eq7; exact absurd eq7.symm nb
                  | ok b7 =>
                    rw [hcd7] at eq7
                    intro F8 H8 g8
                    have hn8 : F8 Dl = none := g8.fr Dl _ hl7 hn7
                    cases b7 with
                    | false => exact ⟨halt, F8, ws6, acc6, g57.trans g8.f, g17.trans g8, hn8, g8.h _ _ hl7, r7.mono g8.f, eq7⟩
                    | true =>
                      intro s Hb C cl fp
                      refine he ds[i] es[a] s Hb C cl fp F8 H8 _ _ g8.fh (ok7.mono g8) ?_
                      cases hed : eN ds[i] es[a] with
                      | er z => rw [hed] at eq7; exact absurd eq7.symm nb
                      | bad => rw [hed] at eq7; exact absurd eq7.symm nb
                      | ok y =>
                        rw [hed] at eq7
                        intro w F9 H9 g9 q9
                        have hn9 : F9 Dl = none := g9.fr Dl _ (g8.h _ _ hl7) hn8
                        have g19 := (g17.trans g8).trans g9
                        have g59 := (g57.trans g8.f).trans g9.f
                        have eq8 : ((compC (es.drop (a + 1)) (cN ds[i]) (eN ds[i])).bind fun x => (comp2C (ds.drop (i + 1)) cM kM).bind fun xs => finC (acc6 ++ [y] ++ (x ++ xs))) = (comp2C ds cM kM).bind finC := by
                          rw [← eq7]
                          show _ = (compC (es.drop (a + 1)) (cN ds[i]) (eN ds[i])).bind fun x => (comp2C (ds.drop (i + 1)) cM kM).bind fun xs => finC (acc6 ++ ((y :: x) ++ xs))
                          have e10 : ∀ x xs : List D, acc6 ++ [y] ++ (x ++ xs) = acc6 ++ ((y :: x) ++ xs) := fun x xs => by simp
                          simp only [e10]
                        refine ⟨ws6, g9.h _ _ (g8.h _ _ hl7), ?_, halt, F9, ws6 ++ [w], acc6 ++ [y], g59, ⟨g19.f, fun p u e => ?_, fun p u e => ?_, g19.fr⟩, hn9, upd_same, (r7.mono (g8.f.trans g9.f)).snoc q9, eq8⟩
                        · rw [r6.length]
                          cases hq : compC (es.drop (a + 1)) (cN ds[i]) (eN ds[i]) with
                          | er z => exact (compC_noer hq).elim
                          | bad => rw [hq] at eq8; exact absurd eq8.symm nb
                          | ok x =>
                            rw [hq] at eq8
                            cases hq2 : comp2C (ds.drop (i + 1)) cM kM with
                            | er z => exact (comp2C_noer hq2).elim
                            | bad => rw [hq2] at eq8; exact absurd eq8.symm nb
                            | ok xs =>
                              rw [hq2] at eq8
                              have e3 : finC (acc6 ++ [y] ++ (x ++ xs)) = (comp2C ds cM kM).bind finC := eq8
                              unfold finC at e3
                              split at e3
                              · rename_i hs
                                unfold short at hs
                                rw [List.length_append, List.length_append, List.length_singleton] at hs
                                omega
                              · exact absurd e3.symm nb
                        · rw [upd_ne (ne_of_none e hD)]; exact g19.h p u e
                        · rw [upd_ne (ne_of_none e hn9)]; exact g19.fh p u e
                · have e : a = es.length := by omega
                  subst e
                  rw [List.drop_length] at eq6
                  refine .inl ⟨io6.2, hlt, F6, ws6, acc6, g16, hn6, hl6, r6, ?_⟩
                  rw [← eq6]
                  show _ = (comp2C (ds.drop (i + 1)) cM kM).bind fun xs => finC (acc6 ++ ([] ++ xs))
                  simp only [List.nil_append]
      · have e : i = ds.length := by omega
        subst e
        refine .inl ⟨io2.2, ?_⟩
        rw [List.drop_length] at eq
        have e2 : finC acc = (comp2C ds cM kM).bind finC := by rw [← eq]; show _ = finC (acc ++ []); rw [List.append_nil]
        rw [← e2] at hp1 nb
        unfold finC at hp1 nb
        split at hp1
        · exact hp1 _ F2 H' g2 ⟨Dl, rfl, hD, hn, .inl ⟨ws, acc, rfl, hl, r⟩⟩
        · exact hp1.elim
/-- [e for x in it if .. for y in it1 if ..] -/
theorem se_compN {x y : Str} {p1 p2 pos : Pos} {j l : Nat} {it it1 elt : Expr} {ifs ifs1 : List Expr} {scope : Scope} {ri : R (List D)} {cM : D → R Bool} {iM : D → R (List D)} {cN : D → D → R Bool} {eN : D → D → R D} (hN : X.N.Nodup) (hcm : X.calm = true)
    (ok : BlkOk X.N X.env.scope scope [(x, j), (y, l)]) (hi : SI ca X W H0 env (.Name x p1) it ri)
    (hc : ∀ d s Hb C cl fp, STs ca (BX X s Hb scope C cl fp) W0 H0 (((env.set l none).set j none).set j (some (.d d))) ifs (cM d))
    (hi1 : ∀ d s Hb C cl fp, SI ca (BX X s Hb scope C cl fp) W0 H0 (((env.set l none).set j none).set j (some (.d d))) (.Name y p2) it1 (iM d))
    (hc1 : ∀ d e s Hb C cl fp, STs ca (BX X s Hb scope C cl fp) W0 H0 (((((env.set l none).set j none).set j (some (.d d))).set l none).set l (some (.d e))) ifs1 (cN d e))
    (he : ∀ d e s Hb C cl fp, SE ca (BX X s Hb scope C cl fp) W0 H0 .v (((((env.set l none).set j none).set j (some (.d d))).set l none).set l (some (.d e))) elt (eN d e))
    (hj : X.N[j]? = some x := by rfl) (hl : X.N[l]? = some y := by rfl)
    (hx : ∀ s Hb C cl fp, Loc (BX X s Hb scope C cl fp).env.scope x := by intro s Hb C cl fp; first | exact .inl rfl | exact .inr rfl) (hf : ∀ s Hb C cl fp, (BX X s Hb scope C cl fp).fn x = true ∨ (BX X s Hb scope C cl fp).env.scope.names.lookup x = some .local := by intro s Hb C cl fp; first | exact .inr rfl | exact .inl rfl)
    (hy : ∀ s Hb C cl fp, Loc (BX X s Hb scope C cl fp).env.scope y := by intro s Hb C cl fp; first | exact .inl rfl | exact .inr rfl) (hf2 : ∀ s Hb C cl fp, (BX X s Hb scope C cl fp).fn y = true ∨ (BX X s Hb scope C cl fp).env.scope.names.lookup y = some .local := by intro s Hb C cl fp; first | exact .inr rfl | exact .inl rfl)
    (hs : ∀ x, foldedSetIterable it X.env x = pure x := by intro _; rfl) (hs1 : ∀ (env : Env) x, foldedSetIterable it1 env x = pure x := by intro _ _; rfl) :
    SE ca X W H0 .o env (.ListComp elt [⟨.Name x p1, it, ifs, 0⟩, ⟨.Name y p2, it1, ifs1, 0⟩] scope pos) (ri.bind fun ds => (comp2C ds cM (fun d => (iM d).bind fun es => compC es (cN d) (eN d))).bind finC) := fun F H σ Q le okE hp =>
  ⟨_, pe_lc2 (own := [(x, j), (y, l)]) (vs1 := [l]) hcm hN pi_W ok (by intro i hi; simp at hi; simp [hi]) (fun s H C cl fp => pg_name (X := BX X s H scope C cl fp) hN hj (hx s H C cl fp) (hf s H C cl fp)) (fun s H C cl fp => lcTT_ok s H C cl fp) (fun s H C cl fp => lcTI_ok s H C cl fp) (fun s H C cl fp => pg_name (X := BX X s H scope C cl fp) hN hl (hy s H C cl fp) (hf2 s H C cl fp)) (fun s H C cl fp => lcTT_ok s H C cl fp) (fun s H C cl fp => lcT_ok s H C cl fp) hs hs1, lc2_reading hi hc hi1 hc1 he F H σ Q le okE hp⟩
end
section
variable {α : Type} {P : Pt α} {nx bk ct : Jp α} {env : En} {rest : List Stmt}
/-- behind a comprehension whose list goes to a name -/
theorem lc_store (G : P.Good) {i : Nat} {re : R D} {k : D → R α} {D : Ends} {σ : L2.St} {H F : Hp} (a : AtF P F env (re.bind k) σ H) (hk : ∀ d, SSs P nx bk ct (env.set i (some (.o d))) rest (k d)) (hh : noH P.envH i = true)
    (hr : D.rt = P.Q) (hn : ∀ e' r', nx e' r' → ∀ σ H, At P e' r' σ H → D.nx σ H) (hb : ∀ e' r', bk e' r' → ∀ σ H, At P e' r' σ H → D.bk σ H) (hct : ∀ e' r', ct e' r' → ∀ σ H, At P e' r' σ H → D.ct σ H) :
    Post P.X.K P.ca .o (ekOf P.X.K P.ca P.W σ) F H re (fun v H' => WSs P.X rest D (σ.set i (some v)) H') := by
  have ae := a.eq
  cases re with
  | er z => exact fun F' H' g => G.er z F' H' σ ae.symm (a.go.trans g) (a.ho.mono g)
  | bad => exact G.nb ae.symm
  | ok d =>
    intro v F' H' g q
    obtain ⟨p, e1, n, f, o⟩ := q
    subst e1
    have a' := (⟨a.go, a.en, a.ho, ae⟩ : AtF P F env (k d) σ H).mono g
    exact hk d D hr hn hb hct _ _ ⟨F', a'.go, a'.en.setO (Hb := H) (own_ne a.en n) (a.en.h0.free n) f o, a'.ho.set hh, a'.eq⟩
/-- u = [e for x, y in it if ..] -/
theorem ss_setLc2 (G : P.Good) {m : Nat} {u x y : Str} {pu p1 p2 p3 pos spos : Pos} {i j n : Nat} {it elt : Expr} {ifs : List Expr} {scope : Scope} {ri : R (List D)} {cM : D → D → R Bool} {eM : D → D → R D} {k : D → R α}
    (ok : BlkOk P.X.N P.X.env.scope scope [(x, i), (y, j)]) (hit : SI P.ca P.X P.W P.H0 env (.Tuple [.Name x p1, .Name y p2] n p3) it ri)
    (hc : ∀ a b s Hb C cl fp, STs P.ca (BX P.X s Hb scope C cl fp) W0 P.H0 ((((env.set j none).set i none).set i (some (.d a))).set j (some (.d b))) ifs (cM a b))
    (he : ∀ a b s Hb C cl fp, SE P.ca (BX P.X s Hb scope C cl fp) W0 P.H0 .v ((((env.set j none).set i none).set i (some (.d a))).set j (some (.d b))) elt (eM a b))
    (hk : ∀ d, SSs P nx bk ct (env.set m (some (.o d))) rest (k d))
    (hm : P.X.N[m]? = some u := by rfl) (hul : P.X.env.scope.names.lookup u = some .local := by rfl) (hh : noH P.envH m = true := by rfl)
    (hsw : swapsWith (.ListComp elt [⟨.Tuple [.Name x p1, .Name y p2] n p3, it, ifs, 0⟩] scope pos) (some (.Name u pu)) spos.line P.X.env = pure true := by exact sw_true rfl rfl rfl (by decide +kernel))
    (hi : P.X.N[i]? = some x := by rfl) (hj : P.X.N[j]? = some y := by rfl)
    (hx : ∀ s Hb C cl fp, Loc (BX P.X s Hb scope C cl fp).env.scope x := by intro s Hb C cl fp; first | exact .inl rfl | exact .inr rfl) (hf : ∀ s Hb C cl fp, (BX P.X s Hb scope C cl fp).fn x = true ∨ (BX P.X s Hb scope C cl fp).env.scope.names.lookup x = some .local := by intro s Hb C cl fp; first | exact .inr rfl | exact .inl rfl)
    (hy : ∀ s Hb C cl fp, Loc (BX P.X s Hb scope C cl fp).env.scope y := by intro s Hb C cl fp; first | exact .inl rfl | exact .inr rfl) (hf2 : ∀ s Hb C cl fp, (BX P.X s Hb scope C cl fp).fn y = true ∨ (BX P.X s Hb scope C cl fp).env.scope.names.lookup y = some .local := by intro s Hb C cl fp; first | exact .inr rfl | exact .inl rfl)
    (hn : ∀ s Hb C cl fp, (assignEach [.Name x p1, .Name y p2] (BX P.X s Hb scope C cl fp).env).length = 2 := by intro s Hb C cl fp; rfl) (hst : ∀ s Hb C cl fp, (assignEach [.Name x p1, .Name y p2] (BX P.X s Hb scope C cl fp).env).findIdx? (·.1) = none := by intro s Hb C cl fp; rfl)
    (hc1 : ∀ s Hb C cl fp, (assignEach [.Name x p1, .Name y p2] (BX P.X s Hb scope C cl fp).env).map (·.2) = assign (.Name x p1) (BX P.X s Hb scope C cl fp).env :: (assignEach [.Name y p2] (BX P.X s Hb scope C cl fp).env).map (·.2) := by intro s Hb C cl fp; rfl) (hc2 : ∀ s Hb C cl fp, (assignEach [.Name y p2] (BX P.X s Hb scope C cl fp).env).map (·.2) = assign (.Name y p2) (BX P.X s Hb scope C cl fp).env :: (assignEach [] (BX P.X s Hb scope C cl fp).env).map (·.2) := by intro s Hb C cl fp; rfl)
    (hs : ∀ x, foldedSetIterable it P.X.env x = pure x := by intro _; rfl) :
    SSs P nx bk ct env (.Assign [.Name u pu] (.ListComp elt [⟨.Tuple [.Name x p1, .Name y p2] n p3, it, ifs, 0⟩] scope pos) spos :: rest) ((ri.bind fun ds => (compC ds (fun d => unp2 d cM) (fun d => unp2 d eM)).bind finC).bind k) := fun D hr hn' hb hct σ H ⟨F, a⟩ => by
  refine .cons (ps_setLc (own := [(x, i), (y, j)]) (g := gTup P.X.K 2 (gCons (gName i) (gCons (gName j) gNil))) G.calm G.nd hm hul hsw pi_W ok (fun s H C cl fp => pg_tup (X := BX P.X s H scope C cl fp) G.calm (pgs_cons (pg_name (X := BX P.X s H scope C cl fp) G.nd hi (hx s H C cl fp) (hf s H C cl fp)) (pgs_cons (pg_name (X := BX P.X s H scope C cl fp) G.nd hj (hy s H C cl fp) (hf2 s H C cl fp)) pgs_nil (hc2 s H C cl fp)) (hc1 s H C cl fp)) (hn s H C cl fp) (hst s H C cl fp)) (fun s H C cl fp => lcTT_ok s H C cl fp) (fun s H C cl fp => lcT_ok s H C cl fp) hs) ?_
  exact lc_readingG (W := P.W) (Q := fun v H' => WSs P.X rest D (σ.set m (some v)) H') hit stores_2 (fun d s Hb C cl fp => sts_2 (X := BX P.X s Hb scope C cl fp) (fun a b => hc a b s Hb C cl fp) d) (fun d s Hb C cl fp => se_2 (X := BX P.X s Hb scope C cl fp) (fun a b => he a b s Hb C cl fp) d) F H σ a.go.fh a.en (lc_store G a hk hh hr hn' hb hct)
/-- u = [e for x in it if .. for y in it1 if ..] -/
theorem ss_setLcN (G : P.Good) {m : Nat} {u x y : Str} {pu p1 p2 pos spos : Pos} {j l : Nat} {it it1 elt : Expr} {ifs ifs1 : List Expr} {scope : Scope} {ri : R (List D)} {cM : D → R Bool} {iM : D → R (List D)} {cN : D → D → R Bool} {eN : D → D → R D} {k : D → R α}
    (ok : BlkOk P.X.N P.X.env.scope scope [(x, j), (y, l)]) (hi : SI P.ca P.X P.W P.H0 env (.Name x p1) it ri)
    (hc : ∀ d s Hb C cl fp, STs P.ca (BX P.X s Hb scope C cl fp) W0 P.H0 (((env.set l none).set j none).set j (some (.d d))) ifs (cM d))
    (hi1 : ∀ d s Hb C cl fp, SI P.ca (BX P.X s Hb scope C cl fp) W0 P.H0 (((env.set l none).set j none).set j (some (.d d))) (.Name y p2) it1 (iM d))
    (hc1 : ∀ d e s Hb C cl fp, STs P.ca (BX P.X s Hb scope C cl fp) W0 P.H0 (((((env.set l none).set j none).set j (some (.d d))).set l none).set l (some (.d e))) ifs1 (cN d e))
    (he : ∀ d e s Hb C cl fp, SE P.ca (BX P.X s Hb scope C cl fp) W0 P.H0 .v (((((env.set l none).set j none).set j (some (.d d))).set l none).set l (some (.d e))) elt (eN d e))
    (hk : ∀ d, SSs P nx bk ct (env.set m (some (.o d))) rest (k d))
    (hm : P.X.N[m]? = some u := by rfl) (hul : P.X.env.scope.names.lookup u = some .local := by rfl) (hh : noH P.envH m = true := by rfl)
    (hsw : swapsWith (.ListComp elt [⟨.Name x p1, it, ifs, 0⟩, ⟨.Name y p2, it1, ifs1, 0⟩] scope pos) (some (.Name u pu)) spos.line P.X.env = pure true := by exact sw_true rfl rfl rfl (by decide +kernel))
    (hj : P.X.N[j]? = some x := by rfl) (hl : P.X.N[l]? = some y := by rfl)
    (hx : ∀ s Hb C cl fp, Loc (BX P.X s Hb scope C cl fp).env.scope x := by intro s Hb C cl fp; first | exact .inl rfl | exact .inr rfl) (hf : ∀ s Hb C cl fp, (BX P.X s Hb scope C cl fp).fn x = true ∨ (BX P.X s Hb scope C cl fp).env.scope.names.lookup x = some .local := by intro s Hb C cl fp; first | exact .inr rfl | exact .inl rfl)
    (hy : ∀ s Hb C cl fp, Loc (BX P.X s Hb scope C cl fp).env.scope y := by intro s Hb C cl fp; first | exact .inl rfl | exact .inr rfl) (hf2 : ∀ s Hb C cl fp, (BX P.X s Hb scope C cl fp).fn y = true ∨ (BX P.X s Hb scope C cl fp).env.scope.names.lookup y = some .local := by intro s Hb C cl fp; first | exact .inr rfl | exact .inl rfl)
    (hs : ∀ x, foldedSetIterable it P.X.env x = pure x := by intro _; rfl) (hs1 : ∀ (env : Env) x, foldedSetIterable it1 env x = pure x := by intro _ _; rfl) :
    SSs P nx bk ct env (.Assign [.Name u pu] (.ListComp elt [⟨.Name x p1, it, ifs, 0⟩, ⟨.Name y p2, it1, ifs1, 0⟩] scope pos) spos :: rest) ((ri.bind fun ds => (comp2C ds cM (fun d => (iM d).bind fun es => compC es (cN d) (eN d))).bind finC).bind k) := fun D hr hn' hb hct σ H ⟨F, a⟩ => by
  refine .cons (ps_setLc2 (own := [(x, j), (y, l)]) (vs1 := [l]) G.calm G.nd hm hul hsw pi_W ok (by intro i hi; simp at hi; simp [hi]) (fun s H C cl fp => pg_name (X := BX P.X s H scope C cl fp) G.nd hj (hx s H C cl fp) (hf s H C cl fp)) (fun s H C cl fp => lcTT_ok s H C cl fp) (fun s H C cl fp => lcTI_ok s H C cl fp) (fun s H C cl fp => pg_name (X := BX P.X s H scope C cl fp) G.nd hl (hy s H C cl fp) (hf2 s H C cl fp)) (fun s H C cl fp => lcTT_ok s H C cl fp) (fun s H C cl fp => lcT_ok s H C cl fp) hs hs1) ?_
  exact lc2_reading (W := P.W) (Q := fun v H' => WSs P.X rest D (σ.set m (some v)) H') hi hc hi1 hc1 he F H σ a.go.fh a.en (lc_store G a hk hh hr hn' hb hct)
end
end Um

namespace Um
open L2 PySem PySem.Spec PyProof.Rows
/-! ## Dicts whose keys are ints or texts -/
def keyOf : D → Option Key
  | .int i => some (.inl i)
  | .str s => some (.inr s)
  | _ => none
/-- look-up in a table of two rows -/
def dLook : List Key → List D → Key → Option D
  | k :: ks, d :: ds, j => if k = j then some d else dLook ks ds j
  | _, _, _ => none
def dPutV : List Key → List D → Key → D → List D
  | k :: ks, d :: ds, j, x => (if k = j then x else d) :: dPutV ks ds j x
  | _, ds, _, _ => ds
/-- the table behind a store -/
def dPutT (ks : List Key) (ds : List D) (j : Key) (x : D) : D := if (ks.any fun k => decide (k = j)) = true then .dic ks (dPutV ks ds j x) else .dic (ks ++ [j]) (ds ++ [x])
theorem kV_key {K : PySem.W.Frag} {ca : Ca} {F H : Hp} {v : V} {d : D} {k : Key} (h : AR K ca F H v d) (e : keyOf d = some k) : v = kV k := by
  cases d <;> cases e
  · exact ar_int h
  · exact ar_str h
theorem paired_getU {α β : Type} {R : α → β → Prop} : ∀ {xs : List α} {ys : List β}, Paired R xs ys → ∀ {i : Nat} {x : α}, xs[i]? = some x → ∃ y, ys[i]? = some y ∧ R x y
  | _, _, .nil, i, x, h => by cases h
  | _, _, .cons r t, 0, x, h => by
    have e := Option.some.inj h
    subst e
    exact ⟨_, rfl, r⟩
  | _, _, .cons r t, i + 1, x, h => paired_getU t h
theorem look_val {K : PySem.W.Frag} {ca : Ca} {F : Hp} {j : Key} : ∀ {kvs : List (Key × V)} {ds : List D}, Reps K ca F (kvs.map (·.2)) ds →
    match dLook (kvs.map (·.1)) ds j with
    | some d => ∃ v, valV kvs j = some v ∧ Rep K ca F v d
    | none => valV kvs j = none
  | [], ds, r => by cases r; exact rfl
  | p :: kvs, ds, r => by
    cases r with
    | cons h r =>
      rename_i d ds
      show match (if p.1 = j then some d else dLook (kvs.map (·.1)) ds j) with
        | some d => ∃ v, valV (p :: kvs) j = some v ∧ Rep K ca F v d
        | none => valV (p :: kvs) j = none
      by_cases e : p.1 = j
      · rw [if_pos e]; exact ⟨p.2, valV_pos e, h⟩
      · rw [if_neg e, valV_neg e]; exact look_val r
theorem any_map (k : Key) (kvs : List (Key × V)) : ((kvs.map (·.1)).any fun j => decide (j = k)) = kvs.any fun kv => decide (kv.1 = k) := by
  rw [List.any_map]; rfl
theorem put_keys {kvs : List (Key × V)} {k : Key} {y : V} : (putK kvs k y).map (·.1) = if ((kvs.map (·.1)).any fun j => decide (j = k)) = true then kvs.map (·.1) else kvs.map (·.1) ++ [k] := by
  unfold putK
  rw [any_map]
  split
  · rw [List.map_map]
    refine List.map_congr_left fun p _ => ?_
    show (if p.1 = k then (p.1, y) else p).1 = p.1
    split <;> rfl
  · rw [List.map_append]; rfl
theorem put_rep {K : PySem.W.Frag} {ca : Ca} {F : Hp} {k : Key} {y : V} {x : D} (q : Rep K ca F y x) : ∀ {kvs : List (Key × V)} {ds : List D}, Reps K ca F (kvs.map (·.2)) ds →
    Reps K ca F ((kvs.map fun kv => if kv.1 = k then (kv.1, y) else kv).map (·.2)) (dPutV (kvs.map (·.1)) ds k x)
  | [], ds, r => by cases r; exact .nil
  | p :: kvs, ds, r => by
    cases r with
    | cons h r =>
      refine .cons ?_ (put_rep q r)
      show Rep K ca F (if p.1 = k then (p.1, y) else p).2 (if p.1 = k then x else _)
      split
      · exact q
      · exact h
theorem put_tab {K : PySem.W.Frag} {ca : Ca} {F : Hp} {k : Key} {y : V} {x : D} {kvs : List (Key × V)} {ks : List Key} {ds : List D} (q : Rep K ca F y x) (hk : kvs.map (·.1) = ks) (r : Reps K ca F (kvs.map (·.2)) ds) :
    ∃ ks' ds', dPutT ks ds k x = .dic ks' ds' ∧ (putK kvs k y).map (·.1) = ks' ∧ Reps K ca F ((putK kvs k y).map (·.2)) ds' := by
  subst hk
  unfold dPutT
  by_cases h : ((kvs.map (·.1)).any fun j => decide (j = k)) = true
  · rw [if_pos h]
    refine ⟨_, _, rfl, by rw [put_keys, if_pos h], ?_⟩
    rw [any_map] at h
    unfold putK
    rw [if_pos h]
    exact put_rep q r
  · rw [if_neg h]
    refine ⟨_, _, rfl, by rw [put_keys, if_neg h], ?_⟩
    rw [any_map] at h
    unfold putK
    rw [if_neg h, List.map_append]
    exact r.append (.cons q .nil)
def dDix (x y : D) : R D := match x with
  | .dic ks ds => (match keyOf y with
    | some k => (match dLook ks ds k with | some d => .ok d | none => .bad)
    | none => .bad)
  | _ => .bad
def dDin (y x : D) : R Bool := match x with
  | .dic ks ds => (match keyOf y with
    | some k => .ok (dLook ks ds k).isSome
    | none => .bad)
  | _ => .bad
def dDnotin (y x : D) : R Bool := (dDin y x).bind fun b => .ok (!b)
def asDic (d : D) : R D := match d with
  | .dic ks ds => .ok (.dic ks ds)
  | _ => .bad
def dDget (x y z : D) : R D := match x with
  | .dic ks ds => (match keyOf y with
    | some k => .ok ((dLook ks ds k).getD z)
    | none => .bad)
  | _ => .bad
def dDput (x y z : D) : R D := match x with
  | .dic ks ds => (match keyOf y with
    | some k => if ks.length < sizeLine then .ok (dPutT ks ds k z) else .bad
    | none => .bad)
  | _ => .bad
section
variable {ca : Ca} {X : Cx} {W : WX} {H0 F H : Hp} {env : En} {a b c : Expr} {ra rb rc : R D} {pos : Pos}
theorem se_dnew : SE ca X W H0 .o env (.Dict [] [] pos) (.ok (.dic [] [])) := fun F H σ Q le ok hp =>
  ⟨_, pe_dnewK, fun p hpn => hp _ F _ (Go.hid le hpn _) ⟨p, rfl, hpn, le.free hpn, .inr (.inl ⟨[], [], [], rfl, upd_same, rfl, .nil⟩)⟩⟩
theorem dget_of {v w : V} {y : D} {k : Key} {ks : List Key} {ds : List D} (le : Le F H) (q1 : AR X.K ca F H v (.dic ks ds)) (q2 : AR X.K ca F H w y) (e : keyOf y = some k) : ∃ p o, v = .ref p ∧ DGet H p w o ∧
    match dLook ks ds k with
    | some d => ∃ u, o = some u ∧ Rep X.K ca F u d
    | none => o = none := by
  obtain ⟨p, kvs, rfl, h1, hk, r⟩ := ar_dic le q1
  subst hk
  exact ⟨p, _, rfl, .inl ⟨kvs, k, .inl h1, kV_key q2 e, rfl⟩, look_val r⟩
theorem se_dix (hu : X.A.units + 65 < cLine) (ha : SE ca X W H0 .r env a ra) (hb : SE ca X W H0 .r env b rb) (hs : NoSl b := by exact fun _ _ => rfl) : SE ca X W H0 .v env (.Subscript a b pos) (R.op2 dDix ra rb) := fun F H σ Q le ok hp => by
  refine ⟨_, pe_dget (by omega) pe_W pe_W hs, ha.then le ok hp fun d v F1 H1 _ g1 q1 ok1 hp1 => hb.then g1.fh ok1 hp1 fun e u F2 H2 _ g2 q2 ok2 hp2 => ?_⟩
  have q1 := AR.mono g2 q1
  cases d with
  | dic ks ds =>
    unfold dDix at hp2
    dsimp only at hp2
    cases hk : keyOf e with
    | none => rw [hk] at hp2; exact hp2.elim
    | some k =>
      rw [hk] at hp2
      dsimp only at hp2
      obtain ⟨p, o, rfl, hg, hm⟩ := dget_of g2.fh q1 q2 hk
      cases hd : dLook ks ds k with
      | none => rw [hd] at hp2; exact hp2.elim
      | some d =>
        rw [hd] at hm hp2
        obtain ⟨w, rfl, hw⟩ := hm
        exact ⟨p, w, rfl, hg, hp2 _ F2 H2 (Go.refl g2.fh) hw⟩
  | _ => exact hp2.elim
theorem st_din (hu : X.A.units + 65 < cLine) (ha : SE ca X W H0 .r env a ra) (hb : SE ca X W H0 .r env b rb) (hm : behindInMarks .In b = false := by first | exact nomark _ | rfl) : ST ca X W H0 env (.Compare a [.In] [b] pos) (R.op2 dDin ra rb) := fun F H σ Q le ok hp => by
  refine ⟨_, pt_cmp (pc_din (by omega) pe_W pe_W) hm, ha.thenB le ok hp fun d v F1 H1 _ g1 q1 ok1 hp1 => hb.thenB g1.fh ok1 hp1 fun e u F2 H2 _ g2 q2 ok2 hp2 => ?_⟩
  have q1 := AR.mono g2 q1
  cases e with
  | dic ks ds =>
    unfold dDin at hp2
    dsimp only at hp2
    cases hk : keyOf d with
    | none => rw [hk] at hp2; exact hp2.elim
    | some k =>
      rw [hk] at hp2
      dsimp only at hp2
      obtain ⟨p, o, rfl, hg, hm⟩ := dget_of g2.fh q2 q1 hk
      refine ⟨p, o, rfl, hg, _, rfl, ?_⟩
      cases hd : dLook ks ds k with
      | some d => rw [hd] at hm hp2; obtain ⟨w, rfl, hw⟩ := hm; exact hp2 F2 H2 (Go.refl g2.fh)
      | none => rw [hd] at hm hp2; subst hm; exact hp2 F2 H2 (Go.refl g2.fh)
  | _ => exact hp2.elim
theorem st_dnotin (hu : X.A.units + 65 < cLine) (ha : SE ca X W H0 .r env a ra) (hb : SE ca X W H0 .r env b rb) (hm : behindInMarks .NotIn b = false := by first | exact nomark _ | rfl) : ST ca X W H0 env (.Compare a [.NotIn] [b] pos) (R.op2 dDnotin ra rb) := fun F H σ Q le ok hp => by
  refine ⟨_, pt_cmp (pc_dnotin (by omega) pe_W pe_W) hm, ha.thenB le ok hp fun d v F1 H1 _ g1 q1 ok1 hp1 => hb.thenB g1.fh ok1 hp1 fun e u F2 H2 _ g2 q2 ok2 hp2 => ?_⟩
  have q1 := AR.mono g2 q1
  cases e with
  | dic ks ds =>
    unfold dDnotin dDin at hp2
    dsimp only at hp2
    cases hk : keyOf d with
    | none => rw [hk] at hp2; exact hp2.elim
    | some k =>
      rw [hk] at hp2
      dsimp only at hp2
      obtain ⟨p, o, rfl, hg, hm⟩ := dget_of g2.fh q2 q1 hk
      refine ⟨p, o, rfl, hg, _, rfl, ?_⟩
      cases hd : dLook ks ds k with
      | some d => rw [hd] at hm hp2; obtain ⟨w, rfl, hw⟩ := hm; exact hp2 F2 H2 (Go.refl g2.fh)
      | none => rw [hd] at hm hp2; subst hm; exact hp2 F2 H2 (Go.refl g2.fh)
  | _ => exact hp2.elim
/-- d.get(k, x) -/
theorem se_dget {apos cpos : Pos} (hu : X.A.units + 65 < cLine) (ha : SE ca X W H0 .r env a ra) (hb : SE ca X W H0 .r env b rb) (hc : SE ca X W H0 .v env c rc)
    (m : M2 X a "get" apos b c cpos := by exact ⟨rfl, rfl, rfl, rfl⟩) :
    SE ca X W H0 .v env (.Call (.Attribute a "get" apos) [b, c] [] cpos) (ra.bind fun x0 => (asDic x0).bind fun x => rb.bind fun y => rc.bind fun z => dDget x y z) := fun F H σ Q le ok hp => by
  refine ⟨_, pe_dget2 (by omega) pe_W pe_W pe_W m, ha.then le ok hp fun d v F1 H1 _ g1 q1 ok1 hp1 => ?_⟩
  cases d with
  | dic ks ds =>
    obtain ⟨p, kvs, rfl, h1, hk1, r⟩ := ar_dic g1.fh q1
    have hp1' : Post X.K ca .v (ekOf X.K ca W σ) F1 H1 (rb.bind fun y => rc.bind fun z => dDget (.dic ks ds) y z) Q := hp1
    refine ⟨p, rfl, .inl ⟨kvs, .inl h1⟩, hb.then g1.fh ok1 hp1' fun e u F2 H2 _ g2 q2 ok2 hp2 => hc.then g2.fh ok2 hp2 fun f w F3 H3 _ g3 q3 ok3 hp3 => ?_⟩
    unfold dDget at hp3
    dsimp only at hp3
    cases hk : keyOf e with
    | none => rw [hk] at hp3; exact hp3.elim
    | some k =>
      rw [hk] at hp3
      dsimp only at hp3
      obtain ⟨p', o, ep, hg, hm⟩ := dget_of g3.fh (AR.mono (g2.trans g3) q1) (AR.mono g3 q2) hk
      cases ep
      refine ⟨o, hg, ?_⟩
      cases hd : dLook ks ds k with
      | some d => rw [hd] at hm hp3; obtain ⟨w', rfl, hw⟩ := hm; exact hp3 _ F3 H3 (Go.refl g3.fh) hw
      | none => rw [hd] at hm hp3; subst hm; exact hp3 _ F3 H3 (Go.refl g3.fh) q3
  | _ => exact hp1.elim
/-- list(d.values()) -/
def dVals (d : D) : R D := match d with
  | .dic _ ds => .ok (.lst ds)
  | _ => .bad
def tListVals (te : TE) : TE := fun σ H Q => te σ H fun x H1 => ∃ (d : Addr) (kvs : List (Key × V)), x = .ref d ∧ H1 d = some (.dK kvs) ∧ ∀ p, H1 p = none → Q (.ref p) (upd H1 p (.lst (kvs.map (·.2))))
theorem pe_listVals {X : Cx} {e : Expr} {te : TE} {p apos cpos pos : Pos} (hc : X.calm = true) (he : PE X e te) (hg : Gl X "list") (hm : X.mg "list" = none) (hv : bootBuiltins "list" = some (.type "list")) (hbase : attributeBase e "values" X.env (eval e X.env) = eval e X.env := by rfl) (hline : (apos.endLine == cpos.line) = true := by rfl)
    (hs : starEach [.Call (.Attribute e "values" apos) [] [] cpos] X.env = (false, eval (.Call (.Attribute e "values" apos) [] [] cpos) X.env) :: starEach [] X.env := by rfl) :
    PE X (.Call (.Name "list" p) [.Call (.Attribute e "values" apos) [] [] cpos] [] pos) (tListVals te) := by
  refine ⟨fun pins s σ H Q I hq => ?_⟩
  refine wpAny_Call_Name_kw (ld_blt I hg hm hv ?_)
  refine PyProof.Rows.callWith_type1 ?_ hs rfl
  rw [hs]
  show wpAny _ _ (spliced ((false, eval (.Call (.Attribute e "values" apos) [] [] cpos) X.env) :: backTo pos (starEach [] X.env))) _ _ s
  refine Calls.spliced_cons ?_
  refine wpAny_Call_method (T := "dict") (id := "dict.values") hbase rfl hline F.plainAttrs_dict F.slot_dict_values F.type_dict_values (thn (he.run pins s σ H _ I hq) fun u s1 ⟨x, H1, I1, rx, d, kvs, ex, hd, q⟩ => ?_)
  subst ex
  obtain rfl : u = Value.ref d := rx
  obtain ⟨hz, hs0, vs, kv, hdo⟩ := I1.hok d _ hd
  obtain ⟨ep, hat⟩ := hdo.dictAt
  have lk : kvs.length = vs.length := Paired.length kv
  have I2 : Inv X pins σ H1 { s1 with heap := s1.heap.push { cls := .type "dict_values", data := .fields #[.ref d] } } := I1.kept (t' := s1.toks) fun b ob q => Heap.get?_push_of_some _ q
  refine ⟨hdo.typeIs, hdo.mapOf.noDict, ?_⟩
  show wpAny _ _ (callWith cpos (.builtin "dict.values") [.ref d] [] []) _ X.xe s1
  refine method_meetsIn F.slot_dict_values F.entry_dict_values rfl (PySem.evalArgs_none ⟨rfl, hdo.typeIs, F.args_dict_values_1 _, _, meets_dict_values (mixKind X.prog X.w) d hs0, ⟨vs, hdo⟩, ?_⟩)
  refine Calls.spliced_nil ?_
  refine PySem.W.kdl_call (PySem.W.kdl_values (knd := mixKind X.prog X.w) (kvs := vs) (ep := ep)) (I1.ok.hd hc) ⟨⟨_, Heap.get?_push_size _ rfl, rfl, rfl⟩, hat.push _⟩ (by rw [← lk]; exact hz) fun h' tk acc' c' hkeep hS hacc => ?_
  refine ⟨.ref (s1.heap.push { cls := .type "dict_values", data := .fields #[.ref d] }).objs.size, upd H1 (s1.heap.push { cls := .type "dict_values", data := .fields #[.ref d] }).objs.size (.lst (kvs.map (·.2))), I2.laid hkeep (Nat.le_refl _) (show ObjOk X.prog X.w _ _ _ (.lst (kvs.map (·.2))) from ⟨?_, acc'.toList, c', ?_, ?_⟩), rfl, q _ (I2.hok.fresh (Nat.le_refl _))⟩
  · rw [List.length_map]; exact hz
  · have el : acc'.toList.length = acc'.size := by simp
    refine vals_of_at (by rw [List.length_map, el, hacc.1, lk]) fun j x w h1 h2 => ?_
    obtain ⟨k, hky⟩ := hacc.2 j w (by rw [← Array.getElem?_toList]; exact h2)
    rw [List.getElem?_map] at h1
    obtain ⟨kx, hx, rfl⟩ := Option.map_eq_some_iff.mp h1
    obtain ⟨y, hy1, hy2⟩ := paired_getU kv hx
    rw [hky] at hy1
    cases hy1
    exact hy2.2
  · rw [Array.toArray_toList]; exact hS
theorem se_listVals {e : Expr} {re : R D} {p apos cpos : Pos} (hc : X.calm = true) (h : SE ca X W H0 .r env e re) (hm : X.mg "list" = none) (hg : Gl X "list" := by rfl) (hbase : attributeBase e "values" X.env (eval e X.env) = eval e X.env := by rfl) (hline : (apos.endLine == cpos.line) = true := by rfl)
    (hs : starEach [.Call (.Attribute e "values" apos) [] [] cpos] X.env = (false, eval (.Call (.Attribute e "values" apos) [] [] cpos) X.env) :: starEach [] X.env := by rfl) :
    SE ca X W H0 .o env (.Call (.Name "list" p) [.Call (.Attribute e "values" apos) [] [] cpos] [] pos) (re.bind dVals) := fun F H σ Q le ok hp => by
  refine ⟨_, pe_listVals hc pe_W hg hm (by decide +kernel) hbase hline hs, h.then le ok hp fun d v F1 H1 _ g1 q1 ok1 hp1 => ?_⟩
  cases d with
  | dic ks ds =>
    obtain ⟨p, kvs, rfl, h1, hk1, r⟩ := ar_dic g1.fh q1
    exact ⟨p, kvs, rfl, h1, fun q hq => hp1 _ F1 _ (Go.hid g1.fh hq _) ⟨q, rfl, hq, g1.fh.free hq, .inl ⟨_, _, rfl, upd_same, r⟩⟩⟩
  | _ => exact hp1.elim
end
section
variable {α : Type} {P : Pt α} {nx bk ct : Jp α} {env : En} {rest : List Stmt}
theorem ownDic {K : PySem.W.Frag} {ca : Ca} {F H : Hp} {p : Addr} {ks : List Key} {xs : List D} (o : OwnAt K ca F H p (.dic ks xs)) : ∃ kvs, H p = some (.dK kvs) ∧ kvs.map (·.1) = ks ∧ Reps K ca F (kvs.map (·.2)) xs := by
  rcases o with ⟨vs, ds, e, _⟩ | ⟨kvs, ks, ds, e, h, q, r⟩ | ⟨_, _, _, _, _, e, _⟩ | ⟨_, _, _, e, _⟩
  · cases e
  · cases e; exact ⟨kvs, h, q, r⟩
  · cases e
  · cases e
/-- d[k] = e, d of one's own -/
theorem ss_dput (G : P.GoodH) (hu : P.X.A.units + 65 < cLine) {i : Nat} {x : Str} {e ix : Expr} {re ri : R D} {k : D → R α} {d0 : D} {px tpos pos : Pos} (h : SE P.ca P.X P.W P.H0 .v env e re) (hi : SE P.ca P.X P.W P.H0 .r env ix ri) (he : env[i]? = some (some (.o d0)) := by rfl)
    (hk : ∀ d, SSs P nx bk ct (env.set i (some (.o d))) rest (k d)) (hN : P.X.N[i]? = some x := by rfl)
    (hv : Vis P.X.env.scope x := by first | exact Or.inl rfl | exact Or.inr (Or.inl rfl) | exact Or.inr (Or.inr rfl)) (hd : (x == ("__debug__" : Str)) = false := by decide) (hcd : (x == ("__classdict__" : Str)) = false := by decide)
    (hsw : swapsWith e (some (.Subscript (.Name x px) ix tpos)) pos.line P.X.env = pure false := by rfl) :
    SSs P nx bk ct env (.Assign [.Subscript (.Name x px) ix tpos] e pos :: rest) ((asDic d0).bind fun x0 => re.bind fun d => ri.bind fun j => (dDput x0 j d).bind k) := fun D hr hn hb hct σ H ⟨F, a⟩ => by
  obtain ⟨v, hs, p, e1, n, f, o⟩ := a.en.at_ i _ he
  subst e1
  cases d0 with
  | dic ks ds =>
    refine .cons (ps_dput (by omega) (pe_var hN hv hd hcd) pe_W pe_W hsw) ?_
    obtain ⟨kvs, hl, hkk, r⟩ := ownDic o
    have a0 : AtF P F env (re.bind fun d => ri.bind fun j => (dDput (.dic ks ds) j d).bind k) σ H := ⟨a.go, a.en, a.ho, a.eq⟩
    refine a0.ev G h fun d w F' H' _ g q a' => ⟨_, hs, ?_⟩
    refine a'.ev G hi fun j u F2 H2 _ g2 q2 a2 => ?_
    have ae := a2.eq
    have g3 := g.trans g2
    unfold dDput at ae
    dsimp only at ae
    cases hj : keyOf j with
    | none => rw [hj] at ae; exact absurd ae.symm G.nb
    | some kk =>
      rw [hj] at ae
      dsimp only at ae
      split at ae
      · rename_i hlen
        obtain ⟨ks', ds', e3, e4, r4⟩ := put_tab (k := kk) (Rep.mono g2.f q) hkk (r.mono g3.f)
        have hH2 : H2 p = some (.dK kvs) := g3.h _ _ hl
        refine ⟨p, _, rfl, .inl ⟨kvs, kk, hH2, kV_key q2 hj, by rw [← hkk, List.length_map] at hlen; exact hlen, rfl⟩, ?_⟩
        exact hk _ D hr hn hb hct σ _ ⟨F2, (⟨a2.go, a2.en, a2.ho, ae⟩ : AtF P F2 env (k (dPutT ks ds kk d)) σ H2).mut he hs n (g3.fr p _ hl f) (.inr (.inl ⟨_, _, _, e3, upd_same, e4, r4⟩))⟩
      · exact absurd ae.symm G.nb
  | _ => exact absurd a.eq.symm G.nb
end
end Um

namespace Um
open L2 PySem PySem.Spec PyProof.Rows
/-! ## for x, y, z in ..; xs[i] += e -/
section
variable {α : Type} {P : Pt α} {nx bk ct : Jp α} {env : En} {rest : List Stmt}
theorem ss_for3 (G : P.Good) {S : Type} {x y z : Str} {it : Expr} {body : List Stmt} {ri : R (List D)} {bodyM : D → D → D → S → (S → R α) → (S → R α) → R α} {after : S → R α} {pos p1 p2 p3 p4 : Pos} {i j l n : Nat} (envL : S → En) (s0 : S)
    (hit : SI P.ca P.X P.W P.H0 env (.Tuple [.Name x p1, .Name y p2, .Name z p4] n p3) it ri)
    (hb : ∀ F1, (P.at F1).Good → ∀ a b c s nxt brk, SSs (P.at F1) (jOf envL nxt) (jOf envL brk) (jOf envL nxt) ((((envL s).set i (some (.d a))).set j (some (.d b))).set l (some (.d c))) body (bodyM a b c s nxt brk))
    (h0 : EnLe (envL s0) env) (hk : ∀ s, SSs P nx bk ct (envL s) rest (after s)) (hs : ∀ x, foldedSetIterable it P.X.env x = pure x := by intro _; rfl)
    (hi : P.X.N[i]? = some x := by rfl) (hj : P.X.N[j]? = some y := by rfl) (hl : P.X.N[l]? = some z := by rfl) (hx : Loc P.X.env.scope x := by first | exact .inl rfl | exact .inr rfl) (hy : Loc P.X.env.scope y := by first | exact .inl rfl | exact .inr rfl) (hz : Loc P.X.env.scope z := by first | exact .inl rfl | exact .inr rfl)
    (hh : noH P.envH i = true := by rfl) (hh2 : noH P.envH j = true := by rfl) (hh3 : noH P.envH l = true := by rfl)
    (hf : P.X.fn x = true ∨ P.X.env.scope.names.lookup x = some .local := by first | exact .inl rfl | exact .inr rfl) (hf2 : P.X.fn y = true ∨ P.X.env.scope.names.lookup y = some .local := by first | exact .inl rfl | exact .inr rfl) (hf3 : P.X.fn z = true ∨ P.X.env.scope.names.lookup z = some .local := by first | exact .inl rfl | exact .inr rfl)
    (hn : (assignEach [.Name x p1, .Name y p2, .Name z p4] P.X.env).length = 3 := by rfl) (hst : (assignEach [.Name x p1, .Name y p2, .Name z p4] P.X.env).findIdx? (·.1) = none := by rfl)
    (hc1 : (assignEach [.Name x p1, .Name y p2, .Name z p4] P.X.env).map (·.2) = assign (.Name x p1) P.X.env :: (assignEach [.Name y p2, .Name z p4] P.X.env).map (·.2) := by rfl) (hc2 : (assignEach [.Name y p2, .Name z p4] P.X.env).map (·.2) = assign (.Name y p2) P.X.env :: (assignEach [.Name z p4] P.X.env).map (·.2) := by rfl) (hc3 : (assignEach [.Name z p4] P.X.env).map (·.2) = assign (.Name z p4) P.X.env :: (assignEach [] P.X.env).map (·.2) := by rfl) :
    SSs P nx bk ct env (.For (.Tuple [.Name x p1, .Name y p2, .Name z p4] n p3) it body [] pos :: rest) (ri.bind fun ds => forC ds s0 (fun d s nx bk => unp3 d fun a b c => bodyM a b c s nx bk) after) :=
  ss_forG G envL s0 hit (pg_tup G.calm (pgs_cons (pg_name G.nd hi hx hf) (pgs_cons (pg_name G.nd hj hy hf2) (pgs_cons (pg_name G.nd hl hz hf3) pgs_nil hc3) hc2) hc1) hn hst) (fun F1 G1 d s nxt brk D σ H F v hr hn hbk hc q a => by
    have ae := a.eq
    unfold unp3 at ae
    split at ae
    · rename_i d1 d2 d3
      obtain ⟨p, vs, rfl, hq, r⟩ := rep_tupI q
      cases r with
      | cons r1 r =>
        cases r with
        | cons r2 r =>
          cases r with
          | cons r3 r =>
            cases r
            refine ⟨p, _, rfl, a.go.fh.t hq.t, rfl, _, _, rfl, _, _, rfl, _, _, rfl, rfl, ?_⟩
            exact hb F1 G1 _ _ _ s nxt brk D hr hn hbk hc _ _ ⟨F, a.go, ((a.en.setD r1).setD r2).setD r3, ((a.ho.set hh).set hh2).set hh3, ae⟩
    · exact (G1.nb ae.symm).elim) h0 hk hs
/-- a list's item by an index from 0 on -/
def ixNat (xs : List D) (j : D) : R D := match j with
  | .int k => if 0 ≤ k then (match xs[k.toNat]? with | some d => .ok d | none => .bad) else .bad
  | _ => .bad
def dAugSet (xs : List D) (j y z : D) : R D := match j, y, z with
  | .int k, .int a, .int b => .ok (.lst (xs.set k.toNat (.int (a + b))))
  | _, _, _ => .bad
def rGetN : V → V → Hp → VK → Prop := fun o i H Q => ∃ p xs k v, o = .ref p ∧ i = .int k ∧ H p = some (.lst xs) ∧ 0 ≤ k ∧ xs[k.toNat]? = some v ∧ Q v H
theorem get_listN {X : Cx} : PGet X rGetN := by
  intro pins s σ H o i ov iv Q I ro ri ⟨p, xs, k, v, eo, ei, hp, h0, hx, q⟩
  subst eo ei
  cases ro
  obtain ⟨t, rfl⟩ := ri
  obtain ⟨its, r, pl, hz⟩ := I.list (.inl (.inl hp))
  obtain ⟨w, ew, rw'⟩ := r.get hx
  have hn := line63
  have hl := r.length
  have hlt := (List.getElem?_eq_some_iff.mp hx).1
  exact wpAny_getItem_list pl.isList h0 (by omega) (by simpa using ew) ⟨v, H, I, rw', q⟩
theorem ss_augIx (G : P.GoodH) {i : Nat} {x : Str} {e ix : Expr} {re ri : R D} {k : D → R α} {d0 : D} {px tpos pos : Pos} (h : SE P.ca P.X P.W P.H0 .r env e re) (hi : SE P.ca P.X P.W P.H0 .r env ix ri) (he : env[i]? = some (some (.o d0)) := by rfl)
    (hk : ∀ d, SSs P nx bk ct (env.set i (some (.o d))) rest (k d)) (hN : P.X.N[i]? = some x := by rfl)
    (hv : Vis P.X.env.scope x := by first | exact Or.inl rfl | exact Or.inr (Or.inl rfl) | exact Or.inr (Or.inr rfl)) (hd : (x == ("__debug__" : Str)) = false := by decide) (hcd : (x == ("__classdict__" : Str)) = false := by decide)
    (ha : ∀ ov iv new, augStore ix ov iv new = (do holding [new, ov, iv] (setItem ov iv new); release [new, ov, iv] []; pure .next) := by intros; rfl) :
    SSs P nx bk ct env (.AugAssign (.Subscript (.Name x px) ix tpos) .Add e pos :: rest) ((lstOf d0).bind fun xs => ri.bind fun j => (ixNat xs j).bind fun y => re.bind fun z => (dAugSet xs j y z).bind k) := fun D hr hn hb hct σ H ⟨F, a⟩ => by
  obtain ⟨v, hs, p, e1, n, f, o⟩ := a.en.at_ i _ he
  subst e1
  obtain ⟨xs, rfl⟩ := lstOf_ok (by rw [a.eq]; exact G.nb)
  refine .cons (ps_augS (pe_var hN hv hd hcd) pe_W get_listN pe_W ip_add set_list ha) ?_
  obtain ⟨vs, hl, r⟩ := ownLst o
  have a0 : AtF P F env (ri.bind fun j => (ixNat xs j).bind fun y => re.bind fun z => (dAugSet xs j y z).bind k) σ H := ⟨a.go, a.en, a.ho, a.eq⟩
  refine ⟨_, hs, ?_⟩
  refine a0.ev G hi fun j u F1 H1 _ g1 q1 a1 => ?_
  have ae := a1.eq
  cases j with
  | int kk =>
    unfold ixNat at ae
    dsimp only at ae
    by_cases h0 : 0 ≤ kk
    · rw [if_pos h0] at ae
      cases hx : xs[kk.toNat]? with
      | none => rw [hx] at ae; exact absurd ae.symm G.nb
      | some y =>
        rw [hx] at ae
        have ae' : (re.bind fun z => (dAugSet xs (.int kk) y z).bind k) = P.res := ae
        obtain ⟨w, hw, rw'⟩ := r.get hx
        refine ⟨p, vs, kk, w, rfl, ar_int q1, g1.h _ _ hl, h0, hw, ?_⟩
        have a1' : AtF P F1 env (re.bind fun z => (dAugSet xs (.int kk) y z).bind k) σ H1 := ⟨a1.go, a1.en, a1.ho, ae'⟩
        refine a1'.ev G h fun z u2 F2 H2 _ g2 q2 a2 => ?_
        have ae2 := a2.eq
        have g3 := g1.trans g2
        cases y with
        | int ya =>
          cases z with
          | int za =>
            cases rw'
            have hH2 := g3.h _ _ hl
            have hlt := (List.getElem?_eq_some_iff.mp hw).1
            refine ⟨ya, za, rfl, ar_int q2, p, vs, kk, kk.toNat, rfl, ar_int q1, hH2, ?_, ?_⟩
            · unfold ixN
              rw [if_pos h0, if_pos (by omega)]
            · exact hk _ D hr hn hb hct σ _ ⟨F2, (⟨a2.go, a2.en, a2.ho, ae2⟩ : AtF P F2 env (k (.lst (xs.set kk.toNat (.int (ya + za))))) σ H2).mut he hs n (g3.fr p _ hl f) (.inl ⟨_, _, rfl, upd_same, (r.mono g3.f).set (.int _) kk.toNat⟩)⟩
          | _ => exact absurd ae2.symm G.nb
        | _ => cases z <;> exact absurd ae2.symm G.nb
    · rw [if_neg h0] at ae; exact absurd ae.symm G.nb
  | _ => exact absurd ae.symm G.nb
end
end Um

namespace Um
open L2 PySem PySem.Spec PyProof.Rows
/-! ## try: x = e, where x is of one's own if e ends well -/
def tryA {α : Type} (b : R D) (k : D → R α) (hand : Exc → R α) : R α := match b with
  | .ok d => k d
  | .er x => hand x
  | .bad => .bad
section
variable {α : Type} {P : Pt α} {nx bk ct : Jp α} {env : En} {rest : List Stmt}
theorem ss_tryA (G : P.Good) (tk : L2N.Takes P.X P.W) {S : Type} {x : Str} {e : Expr} {px spos : Pos} {i : Nat} {h₀ : ExceptHandler} {hds : List ExceptHandler} {pos : Pos} {re : R D} {k1 : D → R α} {hand : (S → R α) → Exc → R α} {after : S → R α} (envH : En) (envL : S → En)
    (hB : ∀ pn xe W, L2N.Takes (P.X.tr pn xe) W → SE P.ca (P.X.tr pn xe) W P.H0 .o env e re) (hk1 : ∀ d, SSs P nx bk ct (env.set i (some (.o d))) rest (k1 d))
    (hH : ∀ K, SHs P envH envL K (h₀ :: hds) (hand K)) (hk : ∀ s, SSs P nx bk ct (envL s) rest (after s)) (hle : EnLe envH env) (hno : noOwn envH = true := by rfl) (hlen : 1 < envH.length := by exact Nat.succ_lt_succ (Nat.succ_pos _)) (hP : P.envH = [] := by rfl)
    (hi : P.X.N[i]? = some x := by rfl) (hx : Loc P.X.env.scope x := by first | exact .inl rfl | exact .inr rfl)
    (hf : P.X.fn x = true ∨ P.X.env.scope.names.lookup x = some .local := by first | exact .inl rfl | exact .inr rfl)
    (hsw : swapsWithSole [.Name x px] e spos.line P.X.env = pure false := by rfl) (hw2 : swappedStores [.Name x px] e P.X.env = pure none := by rfl) (h1 : (assignEach [.Name x px] P.X.env).map (·.2) = [assign (.Name x px) P.X.env] := by rfl)
    (hst : P.X.stack = P.X.env :: P.X.outer := by rfl) (hfr : P.X.env.frame = some P.X.env.locals := by rfl) :
    SSs P nx bk ct env (.Try [.Assign [.Name x px] e spos] (h₀ :: hds) [] [] pos :: rest) (joinC (fun k => tryA re k1 (hand k)) after) := fun D hr hn hbk hct σ H ⟨F, a⟩ => by
  obtain ⟨l, hl, hw⟩ := shs_ok G hno hlen hP (hH after)
  refine .cons (ps_tryN hst hfr G.nd tk (tb := fun W D σ H => ∀ pn xe, L2N.Takes (P.X.tr pn xe) W → PassesOwn (model P.X.prog P.X.w) P.X.A P.X.env xe → WSs (P.X.tr pn xe) [.Assign [.Name x px] e spos] D σ H) (fun W pn xe t p => pss_imp fun D σ H h => h pn xe t p) hl) ?_
  intro pn xe t p
  have ae : tryA re k1 (hand after) = P.res := a.eq
  refine .cons (X := P.X.tr pn xe) (ps_asg (X := P.X.tr pn xe) pe_W (pg_name (X := P.X.tr pn xe) G.nd hi hx hf) hsw hw2 h1) ?_
  refine hB pn xe _ t F H σ _ a.go.fh a.en ?_
  cases re with
  | ok d =>
    intro v F' H' g q
    obtain ⟨p', e1, n, f, o⟩ := q
    subst e1
    refine ⟨_, pss_nil, ?_⟩
    exact hk1 d D hr hn hbk hct _ _ ⟨F', a.go.trans g, (a.en.mono g).setO (Hb := H) (own_ne a.en n) (a.en.h0.free n) f o, hoNo hP _ _ _, ae⟩
  | er z =>
    intro F' H' g c d er
    have ec : c = .ref (P.ca z.cls) := er.1
    subst ec
    refine hw { D with nx := fun σ' H' => WSs P.X rest D σ' H' } hr (fun s σ2 H2 h2 => hk s D hr hn hbk hct σ2 H2 h2) F' H' σ z d (a.go.trans g) ?_ er ae
    refine ⟨.inr (by rw [a.en.len]; exact hle.length.symm), fun j s hj => ?_⟩
    obtain ⟨v, h1, h2⟩ := (a.en.mono g).at_ j s (hle.get j s hj)
    refine ⟨v, h1, ?_⟩
    cases s with
    | o x => trivial
    | d x => exact h2
    | b x => exact h2
    | p u => exact h2
    | e a dd x => exact h2
  | bad => exact G.nb ae.symm
end
end Um

namespace Um
open L2 PySem PySem.Spec PyProof.Rows
/-! ## sorted(xs, reverse=True) of a list of data -/
section
variable {X : Cx}
theorem cr_sortedDR (hu : X.A.units + 64 < cLine) : CallRK X (.builtin "sorted") [Str.ofString "reverse"] (fun vs zs H Q => ∃ (a : Addr) (xs : List V) (ps : List PyData), vs = [V.ref a] ∧ zs = [.bl true] ∧ SqL X.K H a xs ∧ DpAll X.K H xs ps ∧ sortOk ps = true ∧ shallow ps = true ∧
    ∀ p : Addr, H p = none → Q (.ref p) (upd H p (.lst ((sortVP true (xs.zip ps)).map (·.1))))) := by
  rintro pins s σ H vs zs us ws Q I r rz ⟨a, xs, ps, rfl, rfl, hs, hd, ok, sh, q⟩
  obtain ⟨w1, rfl, e1⟩ := vals1 rz
  obtain rfl : w1 = Value.bool true := e1
  have hdep : ∀ d, d ∈ ps → X.A.in1.in1.units + d.depth < cLine := fun d hm => by
    have h1 : d.depth ≤ 40 := of_decide_eq_true (List.all_eq_true.mp sh d hm)
    have h2 : X.A.in1.in1.units = X.A.units + 2 := rfl
    omega
  rw [Vals.ref1 r]
  obtain ⟨its, rv, hl, hz⟩ := I.list hs
  have hlen := rv.length
  obtain ⟨as, ra⟩ := Dp.readsAll I ps xs its hd rv
  have hlp : xs.length = ps.length := by
    have := SeqAt.ReadsAll.length _ _ _ ra
    omega
  have e0 := reads_each ra
  have e1 : PySem.W.EachIs (fun u d => ∃ as, Reads (PySem.W.sortingHeap (PySem.W.copyHeap s.heap its) (s.heap.objs.size + 1) its) u d as) its ps := e0.mono fun u d ⟨as, r⟩ => ⟨as, Reads.keeps (fun b o => PySem.W.sorting_copy_old) r⟩
  have S := sortsAt (prog := X.prog) (w := X.w) (A := X.A.in1.in1) (s := { s with heap := PySem.W.sortingHeap (PySem.W.copyHeap s.heap its) (s.heap.objs.size + 1) its }) e1 ok hdep
  have hal : PySem.W.AllAlike ps := fun d hd d' hd' => by
    unfold sortOk at ok
    simp only [Bool.and_eq_true, List.all_eq_true] at ok
    exact ok.1 d hd d' hd'
  have hv : Vals ((sortVP true (xs.zip ps)).map (·.1)) (PySem.W.sortVals (PySem.W.dataKind (PySem.W.sortingHeap (PySem.W.copyHeap s.heap its) (s.heap.objs.size + 1) its) ps) true its its) := by
    refine each_vals (PySem.W.sortVals_each (κ := PySem.W.dataKind (PySem.W.sortingHeap (PySem.W.copyHeap s.heap its) (s.heap.objs.size + 1) its) ps) (rev := true) (fun b : V × PyData => PySem.W.keyToks b.2) (vals_each rv hlp) ?_)
    exact (each_zip (each_in e1) hlp).mono fun u b ⟨⟨as, r⟩, hm⟩ => PySem.W.dataKind_some hal hm r
  have hz' : its.length ≤ sizeLine := by omega
  refine PySem.W.sorted_rev_vals hl.isList S hz' ?_
  obtain ⟨ep, he'⟩ := PyProof.Rows.sortedAll_at s.heap its (PySem.W.sortVals (PySem.W.dataKind (PySem.W.sortingHeap (PySem.W.copyHeap s.heap its) (s.heap.objs.size + 1) its) ps) true its its).toArray
  refine ⟨.ref _, upd H (s.heap.objs.size + 1) (.lst ((sortVP true (xs.zip ps)).map (·.1))), ?_, rfl, q _ (I.hok.fresh (Nat.le_succ _))⟩
  exact I.laid (t' := s.toks) (fun _ _ => PyProof.Rows.sortedAll_old) (Nat.le_succ _) ⟨by rw [hv.length, PySem.W.sortVals_length true rfl]; exact hz', _, ep, hv, he'⟩
end
def dSortedR (d : D) : R D := match d with
  | .lst xs => match toPys xs with
    | none => .bad
    | some ps => if sortOk ps = true ∧ shallow ps = true then .ok (.lst ((sortVP true (xs.zip ps)).map (·.1))) else .bad
  | _ => .bad
section
variable {ca : Ca} {X : Cx} {W : WX} {H0 F H : Hp} {env : En} {e : Expr} {re : R D}
theorem reps_sortB {K : PySem.W.Frag} {b : Bool} {vs : List V} {ds : List D} {ps : List PyData} (r : Reps K ca F vs ds) (hl : vs.length = ps.length) : Reps K ca F ((sortVP b (vs.zip ps)).map (·.1)) ((sortVP b (ds.zip ps)).map (·.1)) := by
  have key : ∀ {vs : List V} {ds : List D} {ps : List PyData}, Reps K ca F vs ds → vs.length = ps.length → PySem.W.EachIs (fun (a : V × PyData) (b : D × PyData) => Rep K ca F a.1 b.1 ∧ a.2 = b.2) (vs.zip ps) (ds.zip ps) := by
    intro vs ds ps r hl
    induction vs generalizing ds ps with
    | nil => cases r; cases ps <;> exact .nil
    | cons v vs ih =>
      cases r with
      | cons h r =>
        cases ps with
        | nil => exact absurd hl (by simp)
        | cons p ps => exact .cons ⟨h, rfl⟩ (ih r (by simpa using hl))
  have e := PySem.W.sort_each (r := PySem.W.sortLe (listOrd itemOrd) b fun b : V × PyData => PySem.W.keyToks b.2) (s := PySem.W.sortLe (listOrd itemOrd) b fun b : D × PyData => PySem.W.keyToks b.2) (key r hl) fun p hp q hq => by
    have h1 := ((key r hl).zip p hp).2
    have h2 := ((key r hl).zip q hq).2
    unfold PySem.W.sortLe
    dsimp only
    rw [h1, h2]
  have out : ∀ {as : List (V × PyData)} {bs : List (D × PyData)}, PySem.W.EachIs (fun (a : V × PyData) (b : D × PyData) => Rep K ca F a.1 b.1 ∧ a.2 = b.2) as bs → Reps K ca F (as.map (·.1)) (bs.map (·.1)) := by
    intro as bs h
    induction h with
    | nil => exact .nil
    | cons h _ ih => exact .cons h.1 ih
  exact out e
theorem se_sortedR (hu : X.A.units + 64 < cLine) {p pos kpos : Pos} {kp : Expr} (h : SE ca X W H0 .r env e re) (hT : SE ca X W H0 .v env kp (.ok (.bl true))) (hm : X.mg "sorted" = none) (hg : Gl X "sorted" := by rfl)
    (hpl : (backTo pos (starEach [e] X.env)).any (·.1) = false := by rfl) (he : backTo pos (starEach [e] X.env) = (false, eval e X.env) :: backTo pos (starEach [] X.env) := by rfl)
    (hs : starEach [e] X.env = (false, eval e X.env) :: starEach [] X.env := by rfl)
    (hall : (backToKw pos (keywordEach [⟨some "reverse", kp, kpos⟩] X.env)).all (·.1.isSome) = true := by rfl) (hnone : (backToKw pos (keywordEach [⟨some "reverse", kp, kpos⟩] X.env)).any (·.1.isNone) = false := by rfl) (hks : (backToKw pos (keywordEach [⟨some "reverse", kp, kpos⟩] X.env)).filterMap (·.1) = [Str.ofString "reverse"] := by rfl) :
    SE ca X W H0 .o env (.Call (.Name "sorted" p) [e] [⟨some "reverse", kp, kpos⟩] pos) (re.bind dSortedR) := fun F H σ Q le ok hp => by
  refine ⟨_, pe_callBK (cr_sortedDR hu) hg hm (by decide +kernel) (pa_cons pe_W pa_nil hs) (pk_cons pe_W pk_nil) (by decide) (by decide) he hpl hall hnone hks, h.then le ok hp fun d v F1 H1 _ g1 q1 ok1 hp1 => ?_⟩
  refine hT F1 H1 σ _ g1.fh ok1 ?_
  intro v2 F2 H2 g2 q2
  cases q2
  cases d with
  | lst xs =>
    unfold dSortedR at hp1
    dsimp only at hp1
    split at hp1
    · exact hp1.elim
    · rename_i ps hps
      split at hp1
      · rename_i hc
        obtain ⟨p, vs, rfl, h1, r⟩ := ar_lst g1.fh q1
        have h1' := g2.fh
        have hl : vs.length = ps.length := r.length.trans (toPys_len hps)
        refine ⟨p, vs, ps, rfl, rfl, ?_, reps_dp g2.fh (r.mono g2.f) hps, hc.1, hc.2, fun p' hn' => ?_⟩
        · exact .inl (.inl (g2.h _ _ h1))
        · exact hp1 _ F2 _ (g2.trans (Go.hid g2.fh hn' _)) ⟨p', rfl, g2.h.free hn', g2.fh.free hn', .inl ⟨_, _, rfl, upd_same, reps_sortB (r.mono g2.f) hl⟩⟩
      · exact hp1.elim
  | _ => exact hp1.elim
end
end Um

namespace Um
open L2 PySem PySem.Spec PyProof.Rows
/-! ## sorted(d), the keys of a dict being ints -/
section
variable {prog : Program} {w : World} {A : Around} {E : Value → Shared → Prop} {s : Shared} {T : String} {r d : Addr} {n : Nat} {P : Nat → Value → Prop} {OK : Heap → Prop}
theorem collect_kdl {Q : List Value → Shared → Prop} (K : PySem.W.KdlSrc prog w T r d n P OK) (hh : A.handled = none) (hok : OK s.heap) (hn : n ≤ sizeLine)
    (hQ : ∀ (h' : Heap) (tk : Nat) (vs : List Value), (∀ b o, s.heap.get? b = some o → h'.get? b = some o) → s.heap.objs.size ≤ h'.objs.size → vs.length = n → (∀ j v, vs[j]? = some v → P j v) → Q vs { s with heap := h', toks := tk }) :
    wpAny (model prog w) A (collect (.ref r)) Q E s := by
  have hlt := K.there _ hok
  unfold collect
  refine wpAny_bind (wpAny_runValue (codeAny_builtin F.entry_proto_collect ?_))
  rw [Around.under_plainId F.plain_proto_collect _]
  show wpAny _ A.in1 (newList [] >>= fun l => again (.builtin "list.__iadd__" ⟨[l, .ref r], []⟩)) _ _ s
  refine wpAny_bind (wpAny_newObj_type ?_)
  refine wpAny_pure ⟨plainId_quiet F.plain_list_iadd _, codeAny_builtin F.entry_list_iadd ?_⟩
  rw [Around.under_plainId F.plain_list_iadd _]
  have hS : (s.heap.push { cls := .type "list", data := .seq ([] : List Value).toArray }).get? s.heap.objs.size = some { cls := .type "list", data := .seq ([] : List Value).toArray } := Heap.get?_push_size _ rfl
  show wpAny _ A.in1 (Builtin.List.listExtendWith (.ref s.heap.objs.size) (.ref r) (.ref s.heap.objs.size)) _ _ _
  refine wpAny_mono (PySem.W.kdl_extend (A := A) (R := fun (r : Result) (s' : Shared) => match r with
      | Except.ok (Flow.ret v) => wpAny (model prog w) A (match v with
          | Value.ref a => (do
            let o ← load a
            match o.data with
              | .seq xs _ => pure xs.toList
              | _ => unsupported "internal:collect")
          | _ => unsupported "internal:collect") Q E s'
      | Except.ok _ => False
      | Except.error e => E e s') (s := { s with heap := s.heap.push { cls := .type "list", data := .seq ([] : List Value).toArray } }) K hh (K.keep _ _ hok fun b _ o e => Heap.get?_push_of_some _ e) s.heap.objs.size (Nat.ne_of_gt hlt.1) (Nat.ne_of_gt hlt.2) (.ref s.heap.objs.size) _ hS (fun h' tk acc' c' hk hS' hacc => ?_) hn) (fun fin s' h => ?_) fun e s' h => h
  · show wpAny _ A (load s.heap.objs.size >>= _) _ _ _
    refine wpAny_bind (wpAny_load hS' ?_)
    refine wpAny_pure ?_
    exact hQ h' tk acc'.toList (fun b o e => hk b o (Nat.ne_of_lt (Heap.lt_size e)) (Heap.get?_push_of_some _ e)) (Nat.le_of_lt (Heap.lt_size hS')) (by rw [Array.length_toList]; exact hacc.1) fun j v e => hacc.2 j v (by rw [← Array.getElem?_toList]; exact e)
  · cases fin with
    | done f => exact h
    | again c' => exact h
theorem sorted_kdl {Q : Value → Shared → Prop} (K : PySem.W.KdlSrc prog w T r d n P OK) (hh : A.handled = none) (hok : OK s.heap) (hn : n ≤ sizeLine) {ns : List Int} (hI : ∀ vs : List Value, vs.length = n → (∀ j v, vs[j]? = some v → P j v) → IntsAre vs ns)
    (hQ : ∀ (h' : Heap) (tk : Nat) (p : Addr) (out : Array Value) (c : Nat) (ns' : List Int), (∀ b o, s.heap.get? b = some o → h'.get? b = some o) → s.heap.objs.size ≤ p → h'.get? p = some (seqObj "list" out c) → IntsAre out.toList ns' → ns'.Perm ns → ns'.Pairwise (· ≤ ·) → Q (.ref p) { s with heap := h', toks := tk }) :
    wpAny (model prog w) A (call (.builtin "sorted") [.ref r]) Q E s := by
  refine Calls.call_function_entry kind_sorted plain_sorted entry_sorted (args_sorted1 _) ?_
  unfold Builtin.«sorted»
  refine wpAny_bind (m := checkCount "sorted" 1 1 _) (wpAny_pure ?_)
  refine wpAny_bind (collect_kdl (A := A.in1) K hh hok hn fun h1 tk vs k1 hz hl hP => ?_)
  have hI' := hI vs hl hP
  refine wpAny_bind (wpAny_newList ?_ (by rw [hl]; exact hn))
  have hoL : (h1.push (seqObj "list" vs.toArray 0)).get? h1.objs.size = some (seqObj "list" vs.toArray 0) := Heap.get?_push_size _ rfl
  refine wpAny_bind (wpAny_holding (wpAny_call_entry slot_list_sort ⟨_, hoL, rfl⟩ entry_list_sort (SrtO.list_sort_ord SrtO.swo_int hoL (by rw [hl]; exact hn) (fun h2 => SrtO.ints_sortable hI' h2) fun out a1 a2 => ⟨_, rfl, ?_⟩) (args_list_sort _)))
  obtain ⟨b1, b2, b3⟩ := SrtO.ints_out hI' a1 a2
  obtain ⟨c, hc⟩ := sortedHeap_at (vs := vs) (out := out.toArray) hoL
  refine wpAny_pure ⟨_, rfl, hQ _ tk h1.objs.size out.toArray c _ (fun b u e => ?_) hz hc b1 b2 b3⟩
  have q := k1 b u e
  have hlt := Heap.lt_size q
  show (sortedHeap (h1.push (seqObj "list" vs.toArray 0)) h1.objs.size vs out.toArray).get? b = some u
  rw [sortedHeap_old (Nat.ne_of_lt hlt) (by rw [size_push']; exact Nat.lt_succ_of_lt hlt)]
  exact Heap.get?_push_of_some _ q
end
section
variable {ca : Ca} {X : Cx} {W : WX} {H0 F H : Hp} {env : En} {tg a e : Expr} {ra : R D}
theorem cr_sortedK (hc : X.calm = true) : CallR X (.builtin "sorted") (fun vs H Q => ∃ (p : Addr) (kvs : List (Key × V)) (ns : List Int), vs = [V.ref p] ∧ H p = some (.dK kvs) ∧ kvs.map (·.1) = ns.map Sum.inl ∧
    ∀ (ns' : List Int) (q : Addr), ns'.Perm ns → ns'.Pairwise (· ≤ ·) → H q = none → Q (.ref q) (upd H q (.lst (ns'.map V.int)))) := by
  rintro pins s σ H vs us Q I r ⟨p, kvs, ns, rfl, hk, hns, q⟩
  rw [Vals.ref1 r]
  obtain ⟨z, lo, vs', rk, hd⟩ := (show ObjOk X.prog X.w H s.heap p (.dK kvs) from I.hok p _ hk)
  obtain ⟨ep, hat⟩ := hd.dictAt
  have hl : kvs.length = vs'.length := Paired.length rk
  refine sorted_kdl (ns := ns) (PySem.W.kdl_dict (knd := mixKind X.prog X.w) (kvs := vs') (ep := ep) lo) (I.ok.hd hc) hat (by rw [← hl]; exact z) (fun vs hvl hP => ?_) fun h' tk pp out c ns' hkeep hsz hS hI hp hs => ?_
  · refine Vals.ints (vals_of_at ?_ fun j x w h1 h2 => ?_)
    · have := congrArg List.length hns
      rw [List.length_map, List.length_map] at this
      rw [List.length_map, hvl, ← this, hl]
    · obtain ⟨k, y, hky, hi⟩ := hP j w h2
      have e1 : (kvs.map (·.1))[j]? = some k := by
        rw [KV.keys rk, List.getElem?_map, hky] <;> rfl
      rw [hns, List.getElem?_map] at e1
      obtain ⟨i, e2, e3⟩ := Option.map_eq_some_iff.mp e1
      rw [List.getElem?_map, e2] at h1
      cases h1
      subst e3
      exact keyIs_rel (k := .inl i) (v := w) hi
  · have hlen : (ns'.map V.int).length ≤ sizeLine := by
      have := congrArg List.length hns
      rw [List.length_map, List.length_map] at this
      rw [List.length_map, hp.length_eq, ← this]; exact z
    exact ⟨.ref pp, upd H pp (.lst (ns'.map V.int)), I.laid hkeep hsz ⟨hlen, out.toList, c, vals_of_ints hI, by rw [Array.toArray_toList]; exact hS⟩, rfl, q _ _ hp hs (I.hok.fresh hsz)⟩
def keysI : List Key → Option (List Int)
  | [] => some []
  | .inl i :: ks => (keysI ks).map (i :: ·)
  | .inr _ :: _ => none
theorem keysI_eq : ∀ {ks : List Key} {ns : List Int}, keysI ks = some ns → ks = ns.map Sum.inl
  | [], ns, h => by cases h; rfl
  | .inl i :: ks, ns, h => by
    unfold keysI at h
    obtain ⟨ms, h1, rfl⟩ := Option.map_eq_some_iff.mp h
    rw [keysI_eq h1]; rfl
  | .inr _ :: _, ns, h => by cases h
def dSortedK (d : D) : R D := match d with
  | .dic ks _ => match keysI ks with
    | some ns => .ok (.lst ((sortI ns).map D.int))
    | none => .bad
  | _ => .bad
theorem cv_sortedK (hc : X.calm = true) : CV ca X [.r] .o (.builtin "sorted") (fn1 dSortedK) := cv1 fun E F H v d Q le q hp => by
  unfold dSortedK at hp
  split at hp
  · rename_i ks xs
    split at hp
    · rename_i ns hns
      obtain ⟨p, kvs, rfl, h1, hk, r⟩ := ar_dic le q
      refine ⟨_, cr_sortedK hc, p, kvs, ns, rfl, h1, by rw [hk]; exact keysI_eq hns, fun ns' p' hp' hs' hn' => ?_⟩
      have e : ns' = sortI ns := sortI_unique hp' hs'
      subst e
      exact hp _ F _ (Go.hid le hn' _) ⟨p', rfl, hn', le.free hn', .inl ⟨_, _, rfl, upd_same, Reps.ints _⟩⟩
    · exact hp.elim
  · exact hp.elim
/-! ## a dict that is read while it stands still -/
def keyD : Key → D
  | .inl i => .int i
  | .inr s => .str s
def asFd : D → R D
  | .dic ks xs => .ok (.fdic ks xs)
  | _ => .bad
def intOnly : D → R D
  | .int i => .ok (.int i)
  | _ => .bad
def dFkeys : D → R (List D)
  | .fdic ks _ => .ok (ks.map keyD)
  | _ => .bad
theorem itok_keys {F : Hp} {p : Addr} {o : Obj} {kvs : List (Key × V)} (h : F p = some (.frz o (.dK kvs))) : ItOk X.K ca H0 F (Itk p o kvs) ((kvs.map (·.1)).map keyD) := fun F' H' l1 l2 l3 => by
  have h' := l2 _ _ (l1 _ _ h)
  refine ⟨fun i d hd => ?_, ⟨h', by rw [List.length_map, List.length_map]; exact Nat.le_refl _⟩⟩
  rw [List.getElem?_map, List.getElem?_map] at hd
  obtain ⟨k, hk, rfl⟩ := Option.map_eq_some_iff.mp hd
  obtain ⟨kv, hkv, rfl⟩ := Option.map_eq_some_iff.mp hk
  refine ⟨⟨h', (List.getElem?_eq_some_iff.mp hkv).1⟩, fun x H'' ⟨e, k2, v2, hk2, ex⟩ => ?_⟩
  subst e ex
  rw [hkv] at hk2
  cases hk2
  refine ⟨F', Go.refl l2, ?_⟩
  cases k2 with
  | inl i => exact .int i
  | inr s => exact .str s
theorem si_fd (h : SE ca X W H0 .v env a ra) : SI ca X W H0 env tg a (ra.bind dFkeys) := fun F H σ Q le ok hp => by
  cases ra with
  | er x => exact ⟨_, pi_list pe_W, h F H σ _ le ok hp⟩
  | bad => exact hp.elim
  | ok d =>
    cases d with
    | fdic ks xs =>
      refine ⟨_, pi_keys pe_W, h F H σ _ le ok fun v F' H' g q => ?_⟩
      cases q with
      | @fdic p o _ kvs _ h1 hn r => subst hn; exact ⟨p, o, rfl, .inl ⟨kvs, g.fh _ _ h1, hp _ F' H' g (itok_keys h1)⟩⟩
    | _ => exact hp.elim
theorem se_lockI {i : Nat} {d0 : D} {r : D → R D} (he : env[i]? = some (some (.o d0))) (h : ∀ f, SE ca X W H0 .v (env.set i (some (.d f))) e (r f)) : SE ca X W H0 .v env e ((asFd d0).bind fun f => (noEr (r f)).bind intOnly) := fun F H σ Q le ok hp => by
  obtain ⟨v, h1, p, hv, n0, nF, o⟩ := ok.at_ i _ he
  subst hv
  cases d0 with
  | dic ks xs =>
    obtain ⟨kvs, hH, hk, rr⟩ := ownDic o
    have hp' : Post X.K ca .v (ekOf X.K ca W σ) F H ((noEr (r (.fdic ks xs))).bind intOnly) Q := hp
    refine ⟨_, pe_lock pe_W, p, .dK kvs, hH, True.intro, fun od => ?_⟩
    have leF : Le F (upd F p (.frz od (.dK kvs))) := Le.new nF
    have leT : Le (upd F p (.frz od (.dK kvs))) (upd H p (.frz od (.dK kvs))) := fun b u hb => by
      by_cases e : b = p
      · subst e; rw [upd_same] at hb ⊢; exact hb
      · rw [upd_ne e] at hb ⊢; exact le _ _ hb
    have okT : EnOk X.K ca H0 (upd F p (.frz od (.dK kvs))) (upd H p (.frz od (.dK kvs))) σ (env.set i (some (.d (.fdic ks xs)))) := by
      refine ⟨fun b u hb => ?_, by rw [List.length_set]; exact ok.len, fun j s hj => ?_, fun j k x y hj hk' hjk => ?_, (ok.st.monoF leF)⟩
      · rw [upd_ne (fun e => by rw [e, n0] at hb; cases hb)]; exact ok.h0 _ _ hb
      · by_cases e : i = j
        · subst e
          have hil : i < env.length := (List.getElem?_eq_some_iff.mp he).1
          rw [List.getElem?_set_self hil] at hj
          cases hj
          exact ⟨_, h1, .fdic upd_same hk (rr.mono leF)⟩
        · rw [List.getElem?_set_ne e] at hj
          obtain ⟨u, hu, q⟩ := ok.at_ j s hj
          refine ⟨u, hu, ?_⟩
          cases s with
          | d x => exact Rep.mono leF q
          | b x =>
            rcases q with q | ⟨p2, e2, q⟩
            · exact .inl (q.mono leF)
            · exact .inr ⟨p2, e2, q.monoF leF⟩
          | o x =>
            obtain ⟨p2, e2, m1, m2, q⟩ := q
            have hne : p2 ≠ p := fun z => e (ok.own i j _ _ he hj (by rw [h1, hu, e2, z]))
            refine ⟨p2, e2, m1, by rw [upd_ne hne]; exact m2, ?_⟩
            rcases q with ⟨vs, ds, e3, h3, r3⟩ | ⟨kvs3, ks3, ds, e3, h3, q3, r3⟩ | ⟨c, dx, ns, fs, ds, e3, h3, q3, r3⟩ | ⟨xs4, ks4, ds4, e4, h4, n4, k4, r4⟩
            · exact .inl ⟨vs, ds, e3, by rw [upd_ne hne]; exact h3, r3.mono leF⟩
            · exact .inr (.inl ⟨kvs3, ks3, ds, e3, by rw [upd_ne hne]; exact h3, q3, r3.mono leF⟩)
            · exact .inr (.inr (.inl ⟨c, dx, ns, fs, ds, e3, by rw [upd_ne hne]; exact h3, q3, r3.mono leF⟩))
            · exact .inr (.inr (.inr ⟨xs4, ks4, ds4, e4, by rw [upd_ne hne]; exact h4, n4, fun x hx => leF.t (k4 x hx), r4.mono leF⟩))
          | p u => exact q
          | e a dd x => exact ⟨q.1, ExcRep.mono _ _ leF q.2⟩
      · have f : ∀ (k : Nat) (x : D), (env.set i (some (.d (.fdic ks xs))))[k]? = some (some (.o x)) → env[k]? = some (some (.o x)) := fun k x hk => by
          by_cases e : i = k
          · subst e
            rw [List.getElem?_set_self (List.getElem?_eq_some_iff.mp he).1] at hk
            cases hk
          · rwa [List.getElem?_set_ne e] at hk
        exact ok.own j k x y (f j x hj) (f k y hk') hjk
    refine h (.fdic ks xs) _ _ σ _ leT okT ?_
    cases hr : r (.fdic ks xs) with
    | er x => rw [hr] at hp'; exact hp'.elim
    | bad => rw [hr] at hp'; exact hp'.elim
    | ok d =>
      rw [hr] at hp'
      intro v F' H' g q
      have hpp : H' p = some (.frz od (.dK kvs)) := g.h _ _ upd_same
      refine ⟨hpp, ?_⟩
      cases d with
      | int n =>
        cases q
        refine hp' (.int n) F (upd H' p (.dK kvs)) ⟨Le.refl F, fun b u hb => ?_, fun b u hb => ?_, fun _ _ _ z => z⟩ (.int n)
        · by_cases e : b = p
          · subst e; rw [upd_same]; rw [hH] at hb; exact hb
          · rw [upd_ne e]; exact g.h _ _ (by rw [upd_ne e]; exact hb)
        · have e : b ≠ p := fun e => by rw [e, nF] at hb; cases hb
          rw [upd_ne e]; exact g.h _ _ (by rw [upd_ne e]; exact le _ _ hb)
      | _ => exact hp'.elim
  | _ => exact hp.elim
end
def dAddI (a b : D) : R D := match a, b with
  | .int a, .int b => .ok (.int (a + b))
  | _, _ => .bad
@[simp] theorem dAddI_s (a b : Int) : dAddI (.int a) (.int b) = .ok (.int (a + b)) := (Eq.refl _).trans (Eq.refl _)
section
variable {α : Type} {P : Pt α} {nx bk ct : Jp α} {env : En} {rest : List Stmt}
theorem ss_augA (G : P.GoodH) {i : Nat} {x : Str} {e : Expr} {re : R D} {k : D → R α} {pos pos' : Pos} {d0 : D} (h : SE P.ca P.X P.W P.H0 .r env e re) (he : env[i]? = some (some (.d d0)) := by rfl) (hk : ∀ d, SSs P nx bk ct (env.set i (some (.d d))) rest (k d))
    (hi : P.X.N[i]? = some x := by rfl) (hx : Loc P.X.env.scope x := by first | exact .inl rfl | exact .inr rfl) (hh : noH P.envH i = true := by rfl)
    (hf : P.X.fn x = true ∨ P.X.env.scope.names.lookup x = some .local := by first | exact .inl rfl | exact .inr rfl) :
    SSs P nx bk ct env (.AugAssign (.Name x pos') .Add e pos :: rest) (re.bind fun d => (dAddI d0 d).bind k) := by
  have := ss_aug (bk := bk) (ct := ct) (nx := nx) (rest := rest) (k := k) (pos := pos) (pos' := pos') G h he hk hi hx hh hf (ho := ip_add)
  refine cast ?_ this
  congr 1
  congr 1
  funext d
  cases d0 <;> cases d <;> rfl
end
end Um

namespace Um
open L2 PySem PySem.Spec PyProof.Rows

/-! ## t.index(x) of a tuple with no dict of its own -/
section
variable {X : Cx}
/-- a tuple whose object is known to have no dict -/
def TupN (K : PySem.W.Frag) (x : V) (H : Hp) : Prop := ∃ p xs o, x = .ref p ∧ SqT K H p xs ∧ ((∃ u, H p = some (.frz o u)) ∨ K.lookup p = some o) ∧ o.cls = .type "tuple" ∧ o.dict = none
theorem TupN.is {pins : List (Addr × Obj)} {σ : L2.St} {H : Hp} {s : Shared} {x : V} {v : Value} (I : L2.Inv X pins σ H s) (r : RelV x v) (h : TupN X.K x H) : s.TypeIs v "tuple" ∧ ∀ a, v = .ref a → ∃ ob, s.heap.get? a = some ob ∧ ob.dict = none := by
  obtain ⟨p, xs, o, rfl, hq, ho, hc, hd⟩ := h
  cases r
  have e : s.heap.get? p = some o := by
    rcases ho with ⟨u, ho⟩ | ho
    · exact (I.hok p _ ho).1
    · exact I.kIn p o ho
  exact ⟨⟨o, e, hc⟩, fun a z => by cases z; exact ⟨o, e, hd⟩⟩
def tBMT (K : PySem.W.Frag) (r : V → List V → Hp → VK → Prop) (to : TE) (t : TA) : TE := fun σ H Q => to σ H fun x H1 => TupN K x H1 ∧ t σ H1 fun xs H2 => r x xs H2 Q
theorem pe_bmT {o e : Expr} {es : List Expr} {to : TE} {t : TA} {name : Str} {apos cpos : Pos} {id : String} {r : V → List V → Hp → VK → Prop} (slot : Slot "tuple" name id) (hty : typeOf (.builtin id) = pure (.type "method_descriptor")) (hm : MtR X id r) (ho : PE X o to) (ha : PA X (e :: es) t)
    (hbase : attributeBase o name X.env (eval o X.env) = eval o X.env := by rfl)
    (hfew : ((backTo cpos (starEach (e :: es) X.env)).all (fun x => !x.1) && (backToKw cpos (keywordEach [] X.env)).all (fun x => x.1.isSome)
      && decide ((e :: es).length + ([] : List Keyword).length + (if ([] : List Keyword).isEmpty then 0 else 1) < 30)) = true := by rfl)
    (hline : (apos.endLine == cpos.line) = true := by rfl) (hs : starEach (e :: es) X.env = (false, eval e X.env) :: starEach es X.env := by rfl) (hplain : (backTo cpos (starEach es X.env)).any (·.1) = false := by rfl) :
    PE X (.Call (.Attribute o name apos) (e :: es) [] cpos) (tBMT X.K r to t) := by
  refine ⟨fun pins s σ H Q I h => ?_⟩
  refine wpAny_Call_method_late hbase hfew hline rfl (thn (ho.run pins s σ H _ I h) fun v s1 ⟨x, H1, I1, r1, ty, q1⟩ => ?_)
  obtain ⟨h1, h2⟩ := ty.is I1 r1
  refine ⟨"tuple", id, PySem.F.plainAttrs_tuple, slot, hty, h1, h2, ?_⟩
  have hA := ha.run cpos pins s1 σ H1 _ I1 q1
  rw [hs] at hA ⊢
  refine Calls.callWith_builtin (by show (false || (backTo cpos (starEach es X.env)).any (·.1)) = false; rw [hplain] <;> rfl) (Calls.evalArgs_plain ?_)
  exact thn hA fun us s2 ⟨vs, H2, I2, r2, q2⟩ => hm pins s2 σ H2 x vs v us Q I2 r1 r2 q2
/-- t.index(x): the first place of an equal one -/
def rIndexT (K : PySem.W.Frag) : V → List V → Hp → VK → Prop := fun x xs H Q => ∃ (a : Addr) (y : V) (d : PyData) (ds : List PyData) (j : Nat) (z : PyData), x = V.ref a ∧ xs = [y] ∧ Dp K H (V.ref a) (.tuple ds) ∧ Dp K H y d ∧
  SeqAt.shaped (.list ds) = true ∧ SeqAt.shaped d = true ∧ ds[j]? = some z ∧ PyData.eqv z d = true ∧ (∀ (m : Nat) (z' : PyData), m < j → ds[m]? = some z' → PyData.eqv z' d = false) ∧ Q (.int (j : Nat)) H
theorem mt_indexT (hu : X.A.units + 65 < cLine) : MtR X "tuple.index" (rIndexT X.K) := by
  intro pins s σ H x xs v us Q I rx rxs h
  obtain ⟨a, y, d, ds, j, z, rfl, rfl, hl, hy, sl, sd, hz, hzj, hno, q⟩ := h
  cases rx
  cases rxs with
  | cons ry rt =>
    rename_i uy ut
    cases rt
    obtain ⟨bs, r1⟩ := Dp.reads I d y uy hy ry
    have hxs : PyData.canLayAll0 ds = true := SeqAt.canLay_of_shaped sl
    have hroom : X.A.units + 1 + min (PyData.depthAll ds) d.depth < cLine := room_in_shaped sd hu
    cases hl with
    | tup hs ha =>
      obtain ⟨its, rv, ⟨⟨cls, dd, data, sls⟩, ho, hc, n, hdt⟩, hlen⟩ := I.tuple hs
      simp only at hc hdt
      subst hc hdt
      obtain ⟨as, h4⟩ := Dp.readsAll I ds _ its ha rv
      have hn : its.length = ds.length := SeqAt.ReadsAll.length ds its as h4
      have hmap : its.map (SeqAt.readOf s.heap) = ds := SeqAt.readsAll_map ds its as hxs h4
      obtain ⟨hjd, _⟩ := List.getElem?_eq_some_iff.mp hz
      have hjl : j < its.length := by omega
      have hj : j < its.toArray.size := by simpa using hjl
      have at_ : ∀ (m : Nat) (hm : m < its.toArray.size) (z' : PyData), ds[m]? = some z' → SeqAt.readOf s.heap its.toArray[m] = z' := by
        intro m hm z' hz'
        have hml : m < its.length := by simpa using hm
        rw [← hmap, List.getElem?_map, List.getElem?_eq_getElem hml] at hz'
        have e1 : SeqAt.readOf s.heap its[m] = z' := Option.some.inj (show some (SeqAt.readOf s.heap its[m]) = some z' from hz')
        simpa using e1
      have hE := SeqAt.items_eqAt (vs := its.toArray) (A := X.A) (show ReadsAll s.heap its.toArray.toList ds as from h4) r1 hxs (SeqAt.canLay_of_shaped sd) hroom
      refine call_meets PySem.F.slot_tuple_index ⟨_, ho, rfl⟩ PySem.F.entry_tuple_index (PySem.F.args_tuple_index_2 _ _)
        (SeqAt.tuple_index2_found a its.toArray n dd sls uy (fun m => if hm : m < its.toArray.size then PyData.eqv (SeqAt.readOf s.heap its.toArray[m]) d else false) j hj (Nat.zero_le _) hj ?_ ?_) ⟨ho, fun m hm => ?_, ?_⟩
      · show (if hm : j < its.toArray.size then PyData.eqv (SeqAt.readOf s.heap its.toArray[j]) d else false) = true
        rw [dif_pos hj, at_ j hj z hz]
        exact hzj
      · intro m hm _ hmj
        have hmd : m < ds.length := by omega
        have hz' : ds[m]? = some ds[m] := List.getElem?_eq_getElem hmd
        show (if hm : m < its.toArray.size then PyData.eqv (SeqAt.readOf s.heap its.toArray[m]) d else false) = false
        rw [dif_pos hm, at_ m hm _ hz']
        exact hno m _ hmj hz'
      · show SeqAt.EqAt X.A.in1 s its.toArray[m] uy (if hm : m < its.toArray.size then PyData.eqv (SeqAt.readOf s.heap its.toArray[m]) d else false)
        rw [dif_pos hm]
        exact hE _ (Array.getElem_mem hm)
      · exact ⟨.int (j : Nat), H, I.tok _, ⟨_, rfl⟩, q⟩
/-- o.m(e): o a list, or a tuple with no dict of its own -/
def tBMLT (K : PySem.W.Frag) (r1 r2 : V → List V → Hp → VK → Prop) (to : TE) (t : TA) : TE := fun σ H Q => to σ H fun x H1 => (tyV K "list" x H1 ∧ t σ H1 fun xs H2 => r1 x xs H2 Q) ∨ (TupN K x H1 ∧ t σ H1 fun xs H2 => r2 x xs H2 Q)
theorem pe_bmLT {o e : Expr} {es : List Expr} {to : TE} {t : TA} {name : Str} {apos cpos : Pos} {id1 id2 : String} {r1 r2 : V → List V → Hp → VK → Prop} (slot1 : Slot "list" name id1) (slot2 : Slot "tuple" name id2) (hty1 : typeOf (.builtin id1) = pure (.type "method_descriptor")) (hty2 : typeOf (.builtin id2) = pure (.type "method_descriptor")) (hm1 : MtR X id1 r1) (hm2 : MtR X id2 r2) (ho : PE X o to) (ha : PA X (e :: es) t)
    (hbase : attributeBase o name X.env (eval o X.env) = eval o X.env := by rfl)
    (hfew : ((backTo cpos (starEach (e :: es) X.env)).all (fun x => !x.1) && (backToKw cpos (keywordEach [] X.env)).all (fun x => x.1.isSome)
      && decide ((e :: es).length + ([] : List Keyword).length + (if ([] : List Keyword).isEmpty then 0 else 1) < 30)) = true := by rfl)
    (hline : (apos.endLine == cpos.line) = true := by rfl) (hs : starEach (e :: es) X.env = (false, eval e X.env) :: starEach es X.env := by rfl) (hplain : (backTo cpos (starEach es X.env)).any (·.1) = false := by rfl) :
    PE X (.Call (.Attribute o name apos) (e :: es) [] cpos) (tBMLT X.K r1 r2 to t) := by
  refine ⟨fun pins s σ H Q I h => ?_⟩
  refine wpAny_Call_method_late hbase hfew hline rfl (thn (ho.run pins s σ H _ I h) fun v s1 ⟨x, H1, I1, rx, q⟩ => ?_)
  have hb : (starEach (e :: es) X.env) = (false, eval e X.env) :: starEach es X.env := hs
  rcases q with ⟨ty, q1⟩ | ⟨ty, q1⟩
  · obtain ⟨h1, h2⟩ := tyV_is I1 rx ty
    refine ⟨"list", id1, PySem.F.plainAttrs_list, slot1, hty1, h1, h2, ?_⟩
    have hA := ha.run cpos pins s1 σ H1 _ I1 q1
    rw [hs] at hA ⊢
    refine Calls.callWith_builtin (by show (false || (backTo cpos (starEach es X.env)).any (·.1)) = false; rw [hplain] <;> rfl) (Calls.evalArgs_plain ?_)
    exact thn hA fun us s2 ⟨vs, H2, I2, r2, q2⟩ => hm1 pins s2 σ H2 x vs v us Q I2 rx r2 q2
  · obtain ⟨h1, h2⟩ := ty.is I1 rx
    refine ⟨"tuple", id2, PySem.F.plainAttrs_tuple, slot2, hty2, h1, h2, ?_⟩
    have hA := ha.run cpos pins s1 σ H1 _ I1 q1
    rw [hs] at hA ⊢
    refine Calls.callWith_builtin (by show (false || (backTo cpos (starEach es X.env)).any (·.1)) = false; rw [hplain] <;> rfl) (Calls.evalArgs_plain ?_)
    exact thn hA fun us s2 ⟨vs, H2, I2, r2, q2⟩ => hm2 pins s2 σ H2 x vs v us Q I2 rx r2 q2
end
def dIndexT (x d : D) : R D := match x with
  | .lst ds => dIndex (.lst ds) d
  | .tup ds => (match toPys ds, toPy d with
    | some a, some b => if SeqAt.shaped (.list a) = true ∧ SeqAt.shaped b = true then (match idxP b a 0 with | some j => .ok (.int (j : Nat)) | none => .bad) else .bad
    | _, _ => .bad)
  | _ => .bad
def asSeq (d : D) : R D := match d with | .lst ds => .ok (.lst ds) | .tup ds => .ok (.tup ds) | _ => .bad
section
variable {ca : Ca} {X : Cx} {W : WX} {H0 F H : Hp} {env : En} {o e : Expr} {ro re : R D}
theorem SqN.tupN {K : PySem.W.Frag} {F H : Hp} {p : Addr} {xs : List V} (h : SqN K ca F p xs) (le : Le F H) (h1 : ca tmK = 1) : TupN K (.ref p) H := by
  obtain ⟨o, q, hc, hd⟩ := h.n h1
  refine ⟨p, xs, o, rfl, le.t h.t, ?_, hc, hd⟩
  rcases q with ⟨u, q⟩ | q
  · exact .inl ⟨u, le _ _ q⟩
  · exact .inr q
/-- o.index(e), o a list or a tuple that is data or read -/
theorem se_indexT {apos cpos : Pos} (h1 : ca tmK = 1) (hu : X.A.units + 65 < cLine) (ho : SE ca X W H0 .r env o ro) (h : SE ca X W H0 .r env e re)
    (hs : starEach [e] X.env = (false, eval e X.env) :: starEach [] X.env := by rfl)
    (hbase : attributeBase o "index" X.env (eval o X.env) = eval o X.env := by rfl)
    (hfew : ((backTo cpos (starEach [e] X.env)).all (fun x => !x.1) && (backToKw cpos (keywordEach [] X.env)).all (fun x => x.1.isSome)
      && decide ([e].length + ([] : List Keyword).length + (if ([] : List Keyword).isEmpty then 0 else 1) < 30)) = true := by rfl)
    (hline : (apos.endLine == cpos.line) = true := by rfl) (hplain : (backTo cpos (starEach [] X.env)).any (·.1) = false := by rfl) :
    SE ca X W H0 .v env (.Call (.Attribute o "index" apos) [e] [] cpos) (ro.bind fun x => (asSeq x).bind fun a => re.bind (dIndexT a)) := fun F H σ Q le ok hp => by
  refine ⟨_, pe_bmLT PySem.F.slot_list_index PySem.F.slot_tuple_index PySem.F.type_list_index PySem.F.type_tuple_index (mt_indexD hu) (mt_indexT hu) pe_W (pa_cons pe_W pa_nil hs) hbase hfew hline hs hplain, ho.then le ok hp fun d v F1 H1 _ g1 q1 ok1 hp1 => ?_⟩
  cases d with
  | lst ds =>
    obtain ⟨p, vs, rfl, hl, r1⟩ := ar_lst g1.fh q1
    refine .inl ⟨.inl ⟨rfl, vs, .inl (.inl hl)⟩, h.then g1.fh ok1 hp1 fun d v F2 H2 _ g2 q2 ok2 hp2 => ?_⟩
    unfold dIndexT dIndex at hp2
    dsimp only at hp2
    split at hp2
    · rename_i a b ea eb
      split at hp2
      · rename_i hz
        split at hp2
        · rename_i j hj
          obtain ⟨_, ⟨z, hz1, hz2⟩, hz3⟩ := idxP_some hj
          have hl : AR X.K ca F2 H2 (.ref p) (.lst ds) := q1.mono g2
          have e1 : toPy (.lst ds) = some (.list a) := by simp [toPy, ea]
          exact ⟨p, _, b, a, j, z, rfl, rfl, ar_dp g2.fh hl e1, ar_dp g2.fh q2 eb, hz.1, hz.2, by simpa using hz1, hz2, fun m z' hm hz' => hz3 m z' (by omega) hz', hp2 _ F2 H2 (Go.refl g2.fh) (.int _)⟩
        · exact hp2.elim
      · exact hp2.elim
    · exact hp2.elim
  | tup ds =>
    obtain ⟨p, vs, rfl, hl, r1⟩ := ar_tup q1
    refine .inr ⟨hl.tupN g1.fh h1, h.then g1.fh ok1 hp1 fun d v F2 H2 _ g2 q2 ok2 hp2 => ?_⟩
    unfold dIndexT at hp2
    dsimp only at hp2
    split at hp2
    · rename_i a b ea eb
      split at hp2
      · rename_i hz
        split at hp2
        · rename_i j hj
          obtain ⟨_, ⟨z, hz1, hz2⟩, hz3⟩ := idxP_some hj
          have hl : AR X.K ca F2 H2 (.ref p) (.tup ds) := q1.mono g2
          have e1 : toPy (.tup ds) = some (.tuple a) := by simp [toPy, ea]
          exact ⟨p, _, b, a, j, z, rfl, rfl, ar_dp g2.fh hl e1, ar_dp g2.fh q2 eb, hz.1, hz.2, by simpa using hz1, hz2, fun m z' hm hz' => hz3 m z' (by omega) hz', hp2 _ F2 H2 (Go.refl g2.fh) (.int _)⟩
        · exact hp2.elim
      · exact hp2.elim
    · exact hp2.elim
  | _ => exact hp1.elim
end
end Um

namespace Um
open L2 PySem PySem.Spec PyProof.Rows

/-! ## enumerate of what is lent -/
section
variable {ca : Ca} {X : Cx} {W : WX} {H0 F H : Hp} {env : En}
theorem si_enumB {i : Nat} {x : Str} {d : D} {elts : List Expr} {kk : Nat} {p p1 pos tpos : Pos} (hn : ca tmK ≠ 1) (hm : X.mg "enumerate" = none) (he : env[i]? = some (some (.b d)) := by rfl) (hN : X.N[i]? = some x := by rfl)
    (hv : Vis X.env.scope x := by first | exact Or.inl rfl | exact Or.inr (Or.inl rfl) | exact Or.inr (Or.inr rfl)) (hd : (x == ("__debug__" : Str)) = false := by decide) (hcd : (x == ("__classdict__" : Str)) = false := by decide) (hg : Gl X "enumerate" := by rfl)
    (hs : starEach [.Name x p1] X.env = [(false, eval (.Name x p1) X.env)] := by rfl) (hs2 : starEach [.Name x p1] X.env = (false, eval (.Name x p1) X.env) :: starEach [] X.env := by rfl) :
    SI ca X W H0 env (.Tuple elts kk tpos) (.Call (.Name "enumerate" p) [.Name x p1] [] pos) (dEnum [d]) := fun F H σ Q le ok hp => by
  obtain ⟨v, h1, h2⟩ := ok.at_ i _ he
  refine ⟨_, pi_enumB hg hm (pa_cons (pe_var hN hv hd hcd) pa_nil hs2) hs, v, h1, ?_⟩
  cases d with
  | lst xs =>
    rcases h2 with h | ⟨q, e, ⟨vs, ds, e2, h, r⟩ | ⟨kvs, ks, ds, e2, _⟩ | ⟨_, _, _, _, _, e2, _⟩ | ⟨_, _, _, e2, _⟩⟩
    · cases h with
      | lst h3 r => exact ⟨_, _, rfl, .inl ⟨.inl (.inl (le _ _ h3)), hp _ F H (Go.refl le) (itok_enum hn (fun F2 H2 l1 l2 _ => .inl (.inl (l2 _ _ (l1 _ _ h3)))) r)⟩⟩
    · cases e2
      subst e
      exact ⟨_, _, rfl, .inl ⟨.inl (.inl (ok.h0 _ _ h)), hp _ F H (Go.refl le) (itok_enum hn (fun F2 H2 l1 l2 l3 => .inl (.inl (l3 _ _ h))) r)⟩⟩
    · cases e2
    · cases e2
    · cases e2
  | scr xs =>
    rcases h2 with h | ⟨q, e, ⟨vs, ds, e2, h, r⟩ | ⟨kvs, ks, ds, e2, _⟩ | ⟨_, _, _, _, _, e2, _⟩ | ⟨_, _, _, e2, _⟩⟩
    · cases h with
      | scr h3 r => exact ⟨_, _, rfl, .inl ⟨le.l h3, hp _ F H (Go.refl le) (itok_enum hn (fun F2 H2 l1 l2 _ => l2.l (l1.l h3)) r)⟩⟩
    · cases e2
    · cases e2
    · cases e2
    · cases e2
  | tup xs =>
    rcases h2 with h | ⟨q, e, ⟨vs, ds, e2, h, r⟩ | ⟨kvs, ks, ds, e2, _⟩ | ⟨_, _, _, _, _, e2, _⟩ | ⟨_, _, _, e2, _⟩⟩
    · cases h with
      | tup h3 r => exact ⟨_, _, rfl, .inr ⟨le.t h3.t, hp _ F H (Go.refl le) (itok_enumT hn (fun F2 H2 l1 l2 _ => l2.t (l1.t h3.t)) r)⟩⟩
    · cases e2
    · cases e2
    · cases e2
    · cases e2
  | _ => exact hp.elim
end
end Um

namespace Um
open L2 PySem PySem.Spec PyProof.Rows
/-! ## Dicts whose keys are tuples of ints -/
abbrev TRow := List Int × Addr × V
abbrev URow := List Key × Addr × Value
def lookX (xs : List TRow) (k : List Int) : Option V := match xs with
  | [] => none
  | p :: ps => if p.1 = k then some p.2.2 else lookX ps k
def putX (xs : List TRow) (k : List Int) (b : Addr) (v : V) : List TRow :=
  if (lookX xs k).isSome = true then xs.map fun p => if p.1 = k then (p.1, p.2.1, v) else p else xs ++ [(k, b, v)]
abbrev TU : List TRow → List URow → Prop := Paired fun (p : TRow) (q : URow) => q.1 = p.1.map Sum.inl ∧ q.2.1 = p.2.1 ∧ RelV p.2.2 q.2.2
theorem inl_inj {a b : List Int} (h : (a.map Sum.inl : List Key) = b.map Sum.inl) : a = b := by
  induction a generalizing b with
  | nil => cases b with
    | nil => rfl
    | cons y ys => simp at h
  | cons x xs ih => cases b with
    | nil => simp at h
    | cons y ys =>
      rw [List.map_cons, List.map_cons] at h
      injection h with h1 h2
      injection h1 with h1
      rw [h1, ih h2]
theorem inl_kV (k : List Int) : (k.map Sum.inl : List Key).map kV = k.map V.int := by
  rw [List.map_map]; rfl
theorem tu_look {xs : List TRow} {us : List URow} (r : TU xs us) (k : List Int) : RelO (lookX xs k) ((atKey us (k.map Sum.inl)).map (·.2)) := by
  induction r with
  | nil => exact True.intro
  | @cons p q ps qs h t ih =>
    obtain ⟨h1, _, h2⟩ := h
    unfold lookX
    by_cases e : p.1 = k
    · have e' : q.1 = k.map Sum.inl := by rw [h1, e]
      have b : atKey (q :: qs) (k.map Sum.inl) = some q.2 := by simp [atKey, List.find?_cons, e']
      rw [if_pos e, b]; exact h2
    · have e' : ¬ q.1 = k.map Sum.inl := fun z => e (inl_inj (by rw [← h1, z]))
      have b : atKey (q :: qs) (k.map Sum.inl) = atKey qs (k.map Sum.inl) := by simp [atKey, List.find?_cons, e']
      rw [if_neg e, b]; exact ih
theorem tu_put {xs : List TRow} {us : List URow} (r : TU xs us) (k : List Int) {b : Addr} {v : V} {u : Value} (rv : RelV v u) : TU (putX xs k b v) (storedH us (k.map Sum.inl) b u) := by
  have e : (lookX xs k).isSome = (atKey us (k.map Sum.inl)).isSome := by rw [(tu_look r k).isSome_eq, Option.isSome_map]
  unfold putX storedH
  rw [e]
  by_cases q : (atKey us (k.map Sum.inl)).isSome = true
  · rw [if_pos q, if_pos q]
    clear e q
    induction r with
    | nil => exact .nil
    | @cons p q ps qs h t ih =>
      rw [List.map_cons, List.map_cons]
      refine .cons ?_ ih
      obtain ⟨h1, h2, h3⟩ := h
      unfold putAt
      by_cases e : p.1 = k
      · rw [if_pos e, if_pos (by rw [h1, e])]; exact ⟨h1, h2, rv⟩
      · rw [if_neg e, if_neg (fun z => e (inl_inj (by rw [← h1, z])))]; exact ⟨h1, h2, h3⟩
  · rw [if_neg q, if_neg q]; exact Paired.snoc r ⟨rfl, rfl, rv⟩
theorem hash_inl (P P' : Program) (w w' : World) (k : List Int) : tupleKeyHash (mixKind P w) (k.map Sum.inl) = tupleKeyHash (mixKind P' w') (k.map Sum.inl) := by
  have e : ∀ (P : Program) (w : World) (k : List Int), (k.map Sum.inl : List Key).map (mixKind P w).hash = k.map hashInt := fun P w k => by
    rw [List.map_map]; exact List.map_congr_left fun i _ => (show keyH w (Sum.inl i) = hashInt i from rfl)
  show reduceHash (Builtin.Tuple.tupleHashOf ((k.map Sum.inl : List Key).map (mixKind P w).hash)) = reduceHash (Builtin.Tuple.tupleHashOf ((k.map Sum.inl : List Key).map (mixKind P' w').hash))
  exact congrArg (fun l => reduceHash (Builtin.Tuple.tupleHashOf l)) ((e P w k).trans (e P' w' k).symm)
theorem th_e3 (P : Program) (w : World) (q : List Key × Addr × Value) : entryOfKey (tupleKind (mixKind P w)) q = ⟨tupleKeyHash (mixKind P w) q.1, .ref q.2.1, q.2.2⟩ := rfl
theorem th_row {P P' : Program} {w w' : World} {q : URow} {k : List Int} (h : q.1 = k.map Sum.inl) : entryOfKey (tupleKind (mixKind P w)) q = entryOfKey (tupleKind (mixKind P' w')) q := by
  refine (th_e3 P w q).trans (Eq.trans ?_ (th_e3 P' w' q).symm)
  rw [h]
  exact congrArg (fun z => (⟨z, .ref q.2.1, q.2.2⟩ : DictEntry)) (hash_inl P P' w w' k)
theorem tu_hash {xs : List TRow} {us : List URow} (r : TU xs us) (P P' : Program) (w w' : World) : us.map (entryOfKey (tupleKind (mixKind P w))) = us.map (entryOfKey (tupleKind (mixKind P' w'))) :=
  List.map_congr_left fun q hq => by
    have : ∃ k : List Int, q.1 = k.map Sum.inl := by
      induction r with
      | nil => cases hq
      | @cons p q' ps qs h t ih =>
        rcases List.mem_cons.mp hq with e | hq
        · rw [e]; exact ⟨_, h.1⟩
        · exact ih hq
    obtain ⟨k, e⟩ := this
    exact th_row e
section
variable {X : Cx} {pins : List (Addr × Obj)} {σ : L2.St} {H : Hp} {s : Shared} {a b : Addr} {k : List Int} {A : Around} {E : Value → Shared → Prop}
theorem tkey_of (I : Inv X pins σ H s) (h : SqT X.K H b (k.map V.int)) : (tupleKind (mixKind X.prog X.w)).is s.heap (k.map Sum.inl) b := by
  rw [← inl_kV] at h
  obtain ⟨its, r, ⟨o, h1, h2, n, h3⟩, _⟩ := I.tuple h
  exact ⟨o, its.toArray, n, h1, h2, h3, by simpa using items_are r⟩
theorem td_at {xs : List TRow} (I : Inv X pins σ H s) (e : Rd H a (.ext (tdφ a xs))) (hk : ∀ x ∈ xs, SqT X.K H x.2.1 (x.1.map V.int)) : (a == sysModules) = false ∧ xs.length ≤ sizeLine ∧ ∃ us, TU xs us ∧ s.heap.DictOfH (tupleKind (mixKind X.prog X.w)) a us := by
  obtain ⟨⟨h0, h1, us, r, o, es, ep, h2, h3, h4, h5, h6⟩, _⟩ := (show ObjOk X.prog X.w H s.heap a (.ext (tdφ a xs)) from rd_of I.hok e)
  refine ⟨h0, h1, us, r, o, es, ep, h2, h3, h4, h5 _ _, ?_, h6⟩
  have all : ∀ {l : List TRow} {m : List URow}, TU l m → (∀ x ∈ l, SqT X.K H x.2.1 (x.1.map V.int)) → ∀ x ∈ m, (tupleKind (mixKind X.prog X.w)).is s.heap x.1 x.2.1 := by
    intro l m q
    induction q with
    | nil => intro _ x hx; exact nomatch hx
    | @cons p q ps qs hq t ih =>
      intro hl x hx
      rcases List.mem_cons.mp hx with e | hx
      · subst e
        rw [hq.1, hq.2.1]
        exact tkey_of I (hl p List.mem_cons_self)
      · exact ih (fun y hy => hl y (List.mem_cons_of_mem _ hy)) x hx
  exact all r hk
theorem td_ok {P : Program} {w : World} {h h' : Heap} {xs : List TRow} (hx : tdφ a xs h') : ObjOk P w H h' a (.ext (tdφ a xs)) := by
  refine ⟨hx, ?_, fun h1 h2 ⟨a0, a1, us, r, o, es, ep, b1, b2⟩ k => ⟨a0, a1, us, r, o, es, ep, k o b1, b2⟩⟩
  obtain ⟨_, _, us, r, o, es, ep, e, _⟩ := hx
  exact ⟨o, e⟩
theorem td_getItem {xs : List TRow} {v : V} {Q : Value → Shared → Prop} (hu : A.units + 1 < cLine) (I : Inv X pins σ H s) (e : Rd H a (.ext (tdφ a xs))) (hk : ∀ x ∈ xs, SqT X.K H x.2.1 (x.1.map V.int)) (hb : SqT X.K H b (k.map V.int)) (l : lookX xs k = some v)
    (h : ∀ w' s', Inv X pins σ H s' → RelV v w' → Q w' s') : wpAny (model X.prog X.w) A (getItem (.ref a) (.ref b)) Q E s := by
  obtain ⟨h0, z, us, r, dd⟩ := td_at I e hk
  obtain ⟨w', hw, rw'⟩ := RelO.some_of (v := v) (o := (atKey us (k.map Sum.inl)).map (·.2)) (by rw [← l]; exact tu_look r k)
  obtain ⟨p, hp, hp2⟩ := Option.map_eq_some_iff.mp hw
  refine wpAny_getItem_heap (tupleKind_room_in1 hu) (tkey_of I hb) dd hp ?_
  rw [hp2]
  exact h w' _ (I.tok _) rw'
theorem td_in {xs : List TRow} {Q : Value → Shared → Prop} (hu : A.units + 1 < cLine) (I : Inv X pins σ H s) (e : Rd H a (.ext (tdφ a xs))) (hk : ∀ x ∈ xs, SqT X.K H x.2.1 (x.1.map V.int)) (hb : SqT X.K H b (k.map V.int))
    (h : ∀ s', Inv X pins σ H s' → Q (.bool (lookX xs k).isSome) s') : wpAny (model X.prog X.w) A (compareOp .In (.ref b) (.ref a)) Q E s := by
  obtain ⟨h0, z, us, r, dd⟩ := td_at I e hk
  refine wpAny_in_heap (tupleKind_room_in1 hu) (tkey_of I hb) h0 dd ?_
  have q := (tu_look r k).isSome_eq
  rw [Option.isSome_map] at q
  rw [← q]
  exact h _ (I.tok _)
theorem td_notIn {xs : List TRow} {Q : Value → Shared → Prop} (hu : A.units + 1 < cLine) (I : Inv X pins σ H s) (e : Rd H a (.ext (tdφ a xs))) (hk : ∀ x ∈ xs, SqT X.K H x.2.1 (x.1.map V.int)) (hb : SqT X.K H b (k.map V.int))
    (h : ∀ s', Inv X pins σ H s' → Q (.bool (!(lookX xs k).isSome)) s') : wpAny (model X.prog X.w) A (compareOp .NotIn (.ref b) (.ref a)) Q E s := by
  obtain ⟨h0, z, us, r, dd⟩ := td_at I e hk
  refine wpAny_notIn_heap (tupleKind_room_in1 hu) (tkey_of I hb) h0 dd ?_
  have q := (tu_look r k).isSome_eq
  rw [Option.isSome_map] at q
  rw [← q]
  exact h _ (I.tok _)
theorem putX_len (xs : List TRow) (k : List Int) (b : Addr) (v : V) : (putX xs k b v).length ≤ xs.length + 1 := by
  unfold putX
  split
  · rw [List.length_map]; omega
  · rw [List.length_append]; exact Nat.le_refl _
theorem td_setItem {xs : List TRow} {v : V} {r : Value} {Q : Unit → Shared → Prop} (hu : A.units + 1 < cLine) (I : Inv X pins σ H s) (e : H a = some (.ext (tdφ a xs))) (hk : ∀ x ∈ xs, SqT X.K H x.2.1 (x.1.map V.int)) (hb : SqT X.K H b (k.map V.int)) (hl : xs.length < sizeLine) (rv : RelV v r)
    (h : ∀ s', Inv X pins σ (upd H a (.ext (tdφ a (putX xs k b v)))) s' → Q () s') : wpAny (model X.prog X.w) A (setItem (.ref a) (.ref b) r) Q E s := by
  obtain ⟨h0, z, us, ru, dd⟩ := td_at I (.inl e) hk
  have hz : us.length ≤ sizeLine := by rw [← Paired.length ru]; exact z
  refine wpAny_setItem_heap (hsz := hz) (tupleKind_room_in1 hu) (tkey_of I hb) dd fun h' dd' hs => h _ ?_
  obtain ⟨q, es, ep, hq, h2, h3, h4, _, h5⟩ := dd'
  refine d_write I (by rw [e]; exact True.intro) hs ⟨q, hq⟩ (td_ok (h := s.heap) ⟨h0, by have := putX_len xs k b v; omega, _, tu_put ru k rv, q, es, ep, hq, h2, h3, fun P w => ?_, h5⟩)
  rw [h4]
  exact tu_hash (tu_put ru k (b := b) rv) _ _ _ _
theorem td_typeIs {xs : List TRow} (I : Inv X pins σ H s) (e : Rd H a (.ext (tdφ a xs))) (hk : ∀ x ∈ xs, SqT X.K H x.2.1 (x.1.map V.int)) : s.TypeIs (.ref a) "dict" := by
  obtain ⟨_, _, us, _, dd⟩ := td_at I e hk
  exact dd.typeIs
end
/-- readings -/
def TdAt (X : Cx) (H : Hp) (x y : V) (r : Option V) : Prop := ∃ (a b : Addr) (xs : List TRow) (k : List Int), x = .ref a ∧ y = .ref b ∧ Rd H a (.ext (tdφ a xs)) ∧ (∀ x ∈ xs, SqT X.K H x.2.1 (x.1.map V.int)) ∧ SqT X.K H b (k.map V.int) ∧ r = lookX xs k
def tXGet (X : Cx) (td ty : TE) : TE := fun σ H Q => td σ H fun x H1 => ty σ H1 fun y H2 => ∃ v, TdAt X H2 x y (some v) ∧ Q v H2
def tXIn (X : Cx) (ty td : TE) : TE := fun σ H Q => ty σ H fun y H1 => td σ H1 fun x H2 => ∃ o, TdAt X H2 x y o ∧ Q (.bl o.isSome) H2
def tXNotIn (X : Cx) (ty td : TE) : TE := fun σ H Q => ty σ H fun y H1 => td σ H1 fun x H2 => ∃ o, TdAt X H2 x y o ∧ Q (.bl (!o.isSome)) H2
def sXPut (X : Cx) (td ty tv : TE) : TS := fun D σ H => tv σ H fun v H1 => td σ H1 fun x H2 => ty σ H2 fun y H3 => ∃ (a b : Addr) (xs : List TRow) (k : List Int), x = .ref a ∧ y = .ref b ∧ H3 a = some (.ext (tdφ a xs)) ∧ (∀ x ∈ xs, SqT X.K H3 x.2.1 (x.1.map V.int)) ∧ SqT X.K H3 b (k.map V.int) ∧ xs.length < sizeLine ∧
  D.nx σ (upd H3 a (.ext (tdφ a (putX xs k b v))))
section
variable {X : Cx} {o i e value : Expr} {pos pos' tpos : Pos} {td ty tv : TE}
theorem pe_xget (hu : X.A.units + 1 < cLine) (ho : PE X o td) (hi : PE X i ty) (hs : NoSl i) : PE X (.Subscript o i pos) (tXGet X td ty) := by
  refine ⟨fun pins s σ H Q I h => ?_⟩
  refine subD_of PySem.F.slot_dict_getitem.lookup hs (thn (ho.run pins s σ H _ I h) fun u s1 ⟨x, H1, I1, rx, q1⟩ => thn (hi.run pins s1 σ H1 _ I1 q1) fun iv s2 ⟨y, H2, I2, ry, v, ⟨a, b, xs, k, ex, ey, e1, e2, e3, e4⟩, q2⟩ => ?_)
  subst ex ey
  obtain rfl : u = Value.ref a := rx
  obtain rfl : iv = Value.ref b := ry
  exact ⟨td_typeIs I2 e1 e2, td_getItem hu I2 e1 e2 e3 e4.symm fun w' s3 I3 rw' => ⟨v, H2, I3, rw', q2⟩⟩
theorem pc_xin (hu : X.A.units + 1 < cLine) (hi : PE X i ty) (ho : PE X o td) : PC X .In i o (tXIn X ty td) := by
  refine ⟨fun pins s σ H Q I h => ?_⟩
  refine thn (hi.run pins s σ H _ I h) fun iv s1 ⟨y, H1, I1, ry, q1⟩ => thn (ho.run pins s1 σ H1 _ I1 q1) fun u s2 ⟨x, H2, I2, rx, ov, ⟨a, b, xs, k, ex, ey, e1, e2, e3, e4⟩, q2⟩ => ?_
  subst ex ey
  obtain rfl : u = Value.ref a := rx
  obtain rfl : iv = Value.ref b := ry
  exact td_in hu I2 e1 e2 e3 fun s3 I3 => ⟨.bl (lookX xs k).isSome, H2, I3, rfl, by rw [← e4]; exact q2⟩
theorem pc_xnotin (hu : X.A.units + 1 < cLine) (hi : PE X i ty) (ho : PE X o td) : PC X .NotIn i o (tXNotIn X ty td) := by
  refine ⟨fun pins s σ H Q I h => ?_⟩
  refine thn (hi.run pins s σ H _ I h) fun iv s1 ⟨y, H1, I1, ry, q1⟩ => thn (ho.run pins s1 σ H1 _ I1 q1) fun u s2 ⟨x, H2, I2, rx, ov, ⟨a, b, xs, k, ex, ey, e1, e2, e3, e4⟩, q2⟩ => ?_
  subst ex ey
  obtain rfl : u = Value.ref a := rx
  obtain rfl : iv = Value.ref b := ry
  exact td_notIn hu I2 e1 e2 e3 fun s3 I3 => ⟨.bl (!(lookX xs k).isSome), H2, I3, rfl, by rw [← e4]; exact q2⟩
theorem ps_xput (hu : X.A.units + 1 < cLine) (ho : PE X o td) (hi : PE X i ty) (hv : PE X value tv) (hs : swapsWith value (some (.Subscript o i pos')) pos.line X.env = pure false) :
    PS X (.Assign [.Subscript o i pos'] value pos) (sXPut X td ty tv) := by
  refine ⟨fun pins s σ H D I h => ?_⟩
  refine wpAny_Assign_Subscript (thn (hv.run pins s σ H _ I h) fun r s1 ⟨v, H1, I1, rv, q1⟩ => thn (ho.run pins s1 σ H1 _ I1 q1) fun u s2 ⟨x, H2, I2, rx, q2⟩ => thn (hi.run pins s2 σ H2 _ I2 q2) fun iv s3 ⟨y, H3, I3, ry, a, b, xs, k, ex, ey, e1, e2, e3, e4, q3⟩ => ?_) hs
  subst ex ey
  obtain rfl : u = Value.ref a := rx
  obtain rfl : iv = Value.ref b := ry
  exact td_setItem hu I3 e1 e2 e3 e4 rv fun s4 I4 => ⟨σ, _, I4, q3⟩
def tXNew : TE := fun _ H Q => ∀ p, H p = none → Q (.ref p) (upd H p (.ext (tdφ p [])))
theorem td_empty {P : Program} {w : World} {H : Hp} (h : Heap) (hb : sysModules < h.objs.size) : ObjOk P w H (h.push { cls := .type "dict", data := .dict #[] }) h.objs.size (.ext (tdφ h.objs.size [])) :=
  td_ok (h := h) ⟨beq_eq_false_iff_ne.mpr (Ne.symm (Nat.ne_of_lt hb)), Nat.zero_le _, [], .nil, _, #[], 0, Heap.get?_push_size _ rfl, ⟨rfl, rfl, rfl⟩, rfl, fun _ _ => rfl, List.nodup_nil⟩
theorem pe_xnew : PE X (.Dict [] [] pos) tXNew := ⟨fun pins s σ H Q I h =>
  wpAny_Dict_empty ⟨.ref s.heap.objs.size, _, I.laid (a := s.heap.objs.size) (o := .ext (tdφ s.heap.objs.size [])) (t' := s.toks) (fun _ _ q => Heap.get?_push_of_some _ q) (Nat.le_refl _) (td_empty s.heap I.big), rfl, h _ (I.hok.fresh (Nat.le_refl _))⟩⟩
end
/-! ### over trees -/
def intsK : List D → Option (List Int)
  | [] => some []
  | .int i :: ds => (intsK ds).map (i :: ·)
  | _ => none
def tkeyOf : D → Option (List Int)
  | .tup xs => intsK xs
  | .ktup xs => intsK xs
  | _ => none
def tLook : List (List Int) → List D → List Int → Option D
  | k :: ks, d :: ds, j => if k = j then some d else tLook ks ds j
  | _, _, _ => none
def tPutV : List (List Int) → List D → List Int → D → List D
  | k :: ks, d :: ds, j, x => (if k = j then x else d) :: tPutV ks ds j x
  | _, ds, _, _ => ds
def tPut (ks : List (List Int)) (ds : List D) (j : List Int) (x : D) : D := if (tLook ks ds j).isSome = true then .tdic ks (tPutV ks ds j x) else .tdic (ks ++ [j]) (ds ++ [x])
theorem intsK_eq : ∀ {ds : List D} {k : List Int}, intsK ds = some k → ds = k.map D.int
  | [], _, h => by cases h; rfl
  | .int i :: ds, k, h => by
    unfold intsK at h
    obtain ⟨l, h1, rfl⟩ := Option.map_eq_some_iff.mp h
    rw [intsK_eq h1]; rfl
  | .non :: _, _, h => by cases h
  | .bl _ :: _, _, h => by cases h
  | .str _ :: _, _, h => by cases h
  | .ty _ :: _, _, h => by cases h
  | .cl _ :: _, _, h => by cases h
  | .lst _ :: _, _, h => by cases h
  | .scr _ :: _, _, h => by cases h
  | .tup _ :: _, _, h => by cases h
  | .ins _ _ _ :: _, _, h => by cases h
  | .dic _ _ :: _, _, h => by cases h
  | .fdic _ _ :: _, _, h => by cases h
  | .tdic _ _ :: _, _, h => by cases h
  | .ktup _ :: _, _, h => by cases h
  | .ptr _ :: _, _, h => by cases h
theorem tkey_at {K : PySem.W.Frag} {ca : Ca} {F H : Hp} {v : V} {d : D} {k : List Int} (h : AR K ca F H v d) (e : tkeyOf d = some k) : ∃ b, v = .ref b ∧ SqT K F b (k.map V.int) := by
  cases d with
  | tup xs =>
    obtain ⟨p, vs, rfl, hs, r⟩ := ar_tup h
    have e := intsK_eq (show intsK xs = some k from e)
    subst e
    rw [r.ints_inv] at hs
    exact ⟨p, rfl, hs.t⟩
  | ktup xs =>
    have e := intsK_eq (show intsK xs = some k from e)
    subst e
    rcases h with h | ⟨p, _, ⟨vs, ds, e, _⟩ | ⟨kvs, ks, ds, e, _⟩ | ⟨_, _, _, _, _, e, _⟩ | ⟨_, _, _, e, _⟩⟩
    · cases h with
      | ktup h r => rw [r.ints_inv] at h; exact ⟨_, rfl, h⟩
    · cases e
    · cases e
    · cases e
    · cases e
  | _ => cases e
theorem ar_tdic {K : PySem.W.Frag} {ca : Ca} {F H : Hp} {v : V} {ks : List (List Int)} {ds : List D} (le : Le F H) (h : AR K ca F H v (.tdic ks ds)) :
    ∃ p xs, v = .ref p ∧ H p = some (.ext (tdφ p xs)) ∧ xs.map (·.1) = ks ∧ (∀ x ∈ xs, SqT K F x.2.1 (x.1.map V.int)) ∧ Reps K ca F (xs.map (·.2.2)) ds := by
  rcases h with h | ⟨p, e1, ⟨vs, ds, e, _⟩ | ⟨kvs, ks, ds, e, _⟩ | ⟨_, _, _, _, _, e, _⟩ | ⟨xs4, ks4, ds4, e4, h4, n4, k4, r4⟩⟩
  · cases h with
    | tdic h hn hk r => exact ⟨_, _, rfl, le _ _ h, hn, hk, r⟩
  · cases e
  · cases e
  · cases e
  · cases e4; exact ⟨p, xs4, e1, h4, n4, k4, r4⟩
theorem tlook_val {K : PySem.W.Frag} {ca : Ca} {F : Hp} {j : List Int} : ∀ {xs : List TRow} {ds : List D}, Reps K ca F (xs.map (·.2.2)) ds →
    match tLook (xs.map (·.1)) ds j with
    | some d => ∃ v, lookX xs j = some v ∧ Rep K ca F v d
    | none => lookX xs j = none
  | [], ds, r => by cases r; exact rfl
  | p :: xs, ds, r => by
    cases r with
    | cons h r =>
      rename_i d ds
      show match (if p.1 = j then some d else tLook (xs.map (·.1)) ds j) with
        | some d => ∃ v, (if p.1 = j then some p.2.2 else lookX xs j) = some v ∧ Rep K ca F v d
        | none => (if p.1 = j then some p.2.2 else lookX xs j) = none
      by_cases e : p.1 = j
      · rw [if_pos e, if_pos e]; exact ⟨_, rfl, h⟩
      · rw [if_neg e, if_neg e]; exact tlook_val r
theorem tput_rep {K : PySem.W.Frag} {ca : Ca} {F : Hp} {k : List Int} {y : V} {x : D} (q : Rep K ca F y x) : ∀ {xs : List TRow} {ds : List D}, Reps K ca F (xs.map (·.2.2)) ds →
    Reps K ca F ((xs.map fun p => if p.1 = k then (p.1, p.2.1, y) else p).map (·.2.2)) (tPutV (xs.map (·.1)) ds k x)
  | [], ds, r => by cases r; exact .nil
  | p :: xs, ds, r => by
    cases r with
    | cons h r =>
      refine .cons ?_ (tput_rep q r)
      show Rep K ca F (if p.1 = k then (p.1, p.2.1, y) else p).2.2 (if p.1 = k then x else _)
      split
      · exact q
      · exact h
theorem tput_tab {K : PySem.W.Frag} {ca : Ca} {F : Hp} {k : List Int} {b : Addr} {y : V} {x : D} {xs : List TRow} {ks : List (List Int)} {ds : List D} (q : Rep K ca F y x) (hn : xs.map (·.1) = ks) (hk : ∀ x ∈ xs, SqT K F x.2.1 (x.1.map V.int)) (hb : SqT K F b (k.map V.int)) (r : Reps K ca F (xs.map (·.2.2)) ds) :
    ∃ ks' ds', tPut ks ds k x = .tdic ks' ds' ∧ (putX xs k b y).map (·.1) = ks' ∧ (∀ x ∈ putX xs k b y, SqT K F x.2.1 (x.1.map V.int)) ∧ Reps K ca F ((putX xs k b y).map (·.2.2)) ds' := by
  subst hn
  have hm := tlook_val (j := k) r
  have e : (tLook (xs.map (·.1)) ds k).isSome = (lookX xs k).isSome := by
    cases ht : tLook (xs.map (·.1)) ds k with
    | some d => rw [ht] at hm; obtain ⟨v, hv, _⟩ := hm; rw [hv]; rfl
    | none => rw [ht] at hm; dsimp only at hm; rw [hm]; rfl
  unfold tPut putX
  rw [e]
  by_cases h : (lookX xs k).isSome = true
  · rw [if_pos h, if_pos h]
    refine ⟨_, _, rfl, ?_, fun z hz => ?_, tput_rep q r⟩
    · rw [List.map_map]
      refine List.map_congr_left fun p _ => ?_
      show (if p.1 = k then (p.1, p.2.1, y) else p).1 = p.1
      split <;> rfl
    · obtain ⟨p, hp, rfl⟩ := List.mem_map.mp hz
      have := hk p hp
      split <;> exact this
  · rw [if_neg h, if_neg h]
    refine ⟨_, _, rfl, by rw [List.map_append]; rfl, fun z hz => ?_, by rw [List.map_append]; exact r.append (.cons q .nil)⟩
    rcases List.mem_append.mp hz with hz | hz
    · exact hk z hz
    · rw [List.mem_singleton] at hz; subst hz; exact hb
def dXix (x y : D) : R D := match x with
  | .tdic ks ds => (match tkeyOf y with
    | some k => (match tLook ks ds k with | some d => .ok d | none => .bad)
    | none => .bad)
  | _ => .bad
def dXin (y x : D) : R Bool := match x with
  | .tdic ks ds => (match tkeyOf y with
    | some k => .ok (tLook ks ds k).isSome
    | none => .bad)
  | _ => .bad
def dXnotin (y x : D) : R Bool := (dXin y x).bind fun b => .ok (!b)
def asXdic (d : D) : R D := match d with
  | .tdic ks ds => .ok (.tdic ks ds)
  | _ => .bad
def dXput (x y z : D) : R D := match x with
  | .tdic ks ds => (match tkeyOf y with
    | some k => if ks.length < sizeLine then .ok (tPut ks ds k z) else .bad
    | none => .bad)
  | _ => .bad
section
variable {ca : Ca} {X : Cx} {W : WX} {H0 F H : Hp} {env : En} {a b c : Expr} {ra rb rc : R D} {pos : Pos}
theorem se_xnew : SE ca X W H0 .o env (.Dict [] [] pos) (.ok (.tdic [] [])) := fun F H σ Q le ok hp =>
  ⟨_, pe_xnew, fun p hpn => hp _ F _ (Go.hid le hpn _) ⟨p, rfl, hpn, le.free hpn, .inr (.inr (.inr ⟨[], [], [], rfl, upd_same, rfl, fun _ h => (nomatch h), .nil⟩))⟩⟩
theorem td_of {F H : Hp} {v w : V} {y : D} {k : List Int} {ks : List (List Int)} {ds : List D} (le : Le F H) (q1 : AR X.K ca F H v (.tdic ks ds)) (q2 : AR X.K ca F H w y) (e : tkeyOf y = some k) : ∃ o, TdAt X H v w o ∧
    match tLook ks ds k with
    | some d => ∃ u, o = some u ∧ Rep X.K ca F u d
    | none => o = none := by
  obtain ⟨p, xs, rfl, h1, hn, hk, r⟩ := ar_tdic le q1
  obtain ⟨b, rfl, hb⟩ := tkey_at q2 e
  subst hn
  exact ⟨_, ⟨p, b, xs, k, rfl, rfl, .inl h1, fun x hx => le.t (hk x hx), le.t hb, rfl⟩, tlook_val r⟩
theorem se_xix (hu : X.A.units + 65 < cLine) (ha : SE ca X W H0 .r env a ra) (hb : SE ca X W H0 .r env b rb) (hs : NoSl b := by exact fun _ _ => rfl) : SE ca X W H0 .v env (.Subscript a b pos) (R.op2 dXix ra rb) := fun F H σ Q le ok hp => by
  refine ⟨_, pe_xget (by omega) pe_W pe_W hs, ha.then le ok hp fun d v F1 H1 _ g1 q1 ok1 hp1 => hb.then g1.fh ok1 hp1 fun e u F2 H2 _ g2 q2 ok2 hp2 => ?_⟩
  have q1 := AR.mono g2 q1
  cases d with
  | tdic ks ds =>
    unfold dXix at hp2
    dsimp only at hp2
    cases hk : tkeyOf e with
    | none => rw [hk] at hp2; exact hp2.elim
    | some k =>
      rw [hk] at hp2
      dsimp only at hp2
      obtain ⟨o, hg, hm⟩ := td_of g2.fh q1 q2 hk
      cases hd : tLook ks ds k with
      | none => rw [hd] at hp2; exact hp2.elim
      | some d =>
        rw [hd] at hm hp2
        obtain ⟨w, rfl, hw⟩ := hm
        exact ⟨w, hg, hp2 _ F2 H2 (Go.refl g2.fh) hw⟩
  | _ => exact hp2.elim
theorem st_xin (hu : X.A.units + 65 < cLine) (ha : SE ca X W H0 .r env a ra) (hb : SE ca X W H0 .r env b rb) (hm : behindInMarks .In b = false := by first | exact nomark _ | rfl) : ST ca X W H0 env (.Compare a [.In] [b] pos) (R.op2 dXin ra rb) := fun F H σ Q le ok hp => by
  refine ⟨_, pt_cmp (pc_xin (by omega) pe_W pe_W) hm, ha.thenB le ok hp fun d v F1 H1 _ g1 q1 ok1 hp1 => hb.thenB g1.fh ok1 hp1 fun e u F2 H2 _ g2 q2 ok2 hp2 => ?_⟩
  have q1 := AR.mono g2 q1
  cases e with
  | tdic ks ds =>
    unfold dXin at hp2
    dsimp only at hp2
    cases hk : tkeyOf d with
    | none => rw [hk] at hp2; exact hp2.elim
    | some k =>
      rw [hk] at hp2
      dsimp only at hp2
      obtain ⟨o, hg, hm⟩ := td_of g2.fh q2 q1 hk
      refine ⟨o, hg, _, rfl, ?_⟩
      cases hd : tLook ks ds k with
      | some d => rw [hd] at hm hp2; obtain ⟨w, rfl, hw⟩ := hm; exact hp2 F2 H2 (Go.refl g2.fh)
      | none => rw [hd] at hm hp2; subst hm; exact hp2 F2 H2 (Go.refl g2.fh)
  | _ => exact hp2.elim
theorem st_xnotin (hu : X.A.units + 65 < cLine) (ha : SE ca X W H0 .r env a ra) (hb : SE ca X W H0 .r env b rb) (hm : behindInMarks .NotIn b = false := by first | exact nomark _ | rfl) : ST ca X W H0 env (.Compare a [.NotIn] [b] pos) (R.op2 dXnotin ra rb) := fun F H σ Q le ok hp => by
  refine ⟨_, pt_cmp (pc_xnotin (by omega) pe_W pe_W) hm, ha.thenB le ok hp fun d v F1 H1 _ g1 q1 ok1 hp1 => hb.thenB g1.fh ok1 hp1 fun e u F2 H2 _ g2 q2 ok2 hp2 => ?_⟩
  have q1 := AR.mono g2 q1
  cases e with
  | tdic ks ds =>
    unfold dXnotin dXin at hp2
    dsimp only at hp2
    cases hk : tkeyOf d with
    | none => rw [hk] at hp2; exact hp2.elim
    | some k =>
      rw [hk] at hp2
      dsimp only at hp2
      obtain ⟨o, hg, hm⟩ := td_of g2.fh q2 q1 hk
      refine ⟨o, hg, _, rfl, ?_⟩
      cases hd : tLook ks ds k with
      | some d => rw [hd] at hm hp2; obtain ⟨w, rfl, hw⟩ := hm; exact hp2 F2 H2 (Go.refl g2.fh)
      | none => rw [hd] at hm hp2; subst hm; exact hp2 F2 H2 (Go.refl g2.fh)
  | _ => exact hp2.elim
end
section
variable {α : Type} {P : Pt α} {nx bk ct : Jp α} {env : En} {rest : List Stmt}
theorem ownXdic {K : PySem.W.Frag} {ca : Ca} {F H : Hp} {p : Addr} {ks : List (List Int)} {ds : List D} (o : OwnAt K ca F H p (.tdic ks ds)) : ∃ xs, H p = some (.ext (tdφ p xs)) ∧ xs.map (·.1) = ks ∧ (∀ x ∈ xs, SqT K F x.2.1 (x.1.map V.int)) ∧ Reps K ca F (xs.map (·.2.2)) ds := by
  rcases o with ⟨vs, ds, e, _⟩ | ⟨kvs, ks, ds, e, _⟩ | ⟨_, _, _, _, _, e, _⟩ | ⟨xs4, ks4, ds4, e4, h4, n4, k4, r4⟩
  · cases e
  · cases e
  · cases e
  · cases e4; exact ⟨xs4, h4, n4, k4, r4⟩
/-- d[k] = e, d of one's own -/
theorem ss_xput (G : P.GoodH) (hu : P.X.A.units + 65 < cLine) {i : Nat} {x : Str} {e ix : Expr} {re ri : R D} {k : D → R α} {d0 : D} {px tpos pos : Pos} (h : SE P.ca P.X P.W P.H0 .v env e re) (hi : SE P.ca P.X P.W P.H0 .r env ix ri) (he : env[i]? = some (some (.o d0)) := by rfl)
    (hk : ∀ d, SSs P nx bk ct (env.set i (some (.o d))) rest (k d)) (hN : P.X.N[i]? = some x := by rfl)
    (hv : Vis P.X.env.scope x := by first | exact Or.inl rfl | exact Or.inr (Or.inl rfl) | exact Or.inr (Or.inr rfl)) (hd : (x == ("__debug__" : Str)) = false := by decide) (hcd : (x == ("__classdict__" : Str)) = false := by decide)
    (hsw : swapsWith e (some (.Subscript (.Name x px) ix tpos)) pos.line P.X.env = pure false := by rfl) :
    SSs P nx bk ct env (.Assign [.Subscript (.Name x px) ix tpos] e pos :: rest) ((asXdic d0).bind fun x0 => re.bind fun d => ri.bind fun j => (dXput x0 j d).bind k) := fun D hr hn hb hct σ H ⟨F, a⟩ => by
  obtain ⟨v, hs, p, e1, n, f, o⟩ := a.en.at_ i _ he
  subst e1
  cases d0 with
  | tdic ks ds =>
    refine .cons (ps_xput (by omega) (pe_var hN hv hd hcd) pe_W pe_W hsw) ?_
    obtain ⟨xs, hl, hkk, hks, r⟩ := ownXdic o
    have a0 : AtF P F env (re.bind fun d => ri.bind fun j => (dXput (.tdic ks ds) j d).bind k) σ H := ⟨a.go, a.en, a.ho, a.eq⟩
    refine a0.ev G h fun d w F' H' _ g q a' => ⟨_, hs, ?_⟩
    refine a'.ev G hi fun j u F2 H2 _ g2 q2 a2 => ?_
    have ae := a2.eq
    have g3 := g.trans g2
    unfold dXput at ae
    dsimp only at ae
    cases hj : tkeyOf j with
    | none => rw [hj] at ae; exact absurd ae.symm G.nb
    | some kk =>
      rw [hj] at ae
      dsimp only at ae
      split at ae
      · rename_i hlen
        obtain ⟨b, rfl, hkb⟩ := tkey_at q2 hj
        obtain ⟨ks', ds', e3, e4, e5, r4⟩ := tput_tab (k := kk) (Rep.mono g2.f q) hkk (fun x hx => g3.f.t (hks x hx)) hkb (r.mono g3.f)
        have hH2 := g3.h _ _ hl
        refine ⟨p, b, xs, kk, rfl, rfl, hH2, fun x hx => g3.fh.t (g3.f.t (hks x hx)), g3.fh.t hkb, by rw [← hkk, List.length_map] at hlen; exact hlen, ?_⟩
        exact hk _ D hr hn hb hct σ _ ⟨F2, (⟨a2.go, a2.en, a2.ho, ae⟩ : AtF P F2 env (k (tPut ks ds kk d)) σ H2).mut he hs n (g3.fr p _ hl f) (.inr (.inr (.inr ⟨_, _, _, e3, upd_same, e4, e5, r4⟩)))⟩
      · exact absurd ae.symm G.nb
  | _ => exact absurd a.eq.symm G.nb
end
end Um

namespace Um
open L2 PySem PySem.Spec PyProof.Rows
/-! ## xs.count(x) of a list -/
section
variable {X : Cx}
def rCountD (K : PySem.W.Frag) : V → List V → Hp → VK → Prop := fun x xs H Q => ∃ (a : Addr) (y : V) (d : PyData) (ds : List PyData), x = V.ref a ∧ xs = [y] ∧ Dp K H (V.ref a) (.list ds) ∧ Dp K H y d ∧
  SeqAt.shaped (.list ds) = true ∧ SeqAt.shaped d = true ∧ Q (.int ((ds.countP fun z => PyData.eqv z d : Nat) : Int)) H
theorem mt_countD (hu : X.A.units + 65 < cLine) : MtR X "list.count" (rCountD X.K) := by
  intro pins s σ H x xs v us Q I rx rxs h
  obtain ⟨a, y, d, ds, rfl, rfl, hl, hy, sl, sd, q⟩ := h
  cases rx
  cases rxs with
  | cons ry rt =>
    rename_i uy ut
    cases rt
    obtain ⟨bs, r1⟩ := Dp.reads I d y uy hy ry
    have hxs : PyData.canLayAll0 ds = true := SeqAt.canLay_of_shaped sl
    have hroom : X.A.units + 1 + min (PyData.depthAll ds) d.depth < cLine := room_in_shaped sd hu
    cases hl with
    | lst hs ha =>
      obtain ⟨its, rv, ⟨⟨cls, dd, data, sls⟩, n, ho, hc, hdn, hdt⟩, hlen⟩ := I.list hs
      simp only at hc hdt
      subst hc hdt
      obtain ⟨as, h4⟩ := Dp.readsAll I ds _ its ha rv
      have hmap : its.map (SeqAt.readOf s.heap) = ds := SeqAt.readsAll_map ds its as hxs h4
      have hcount : its.toArray.toList.countP (fun u => PyData.eqv (SeqAt.readOf s.heap u) d) = ds.countP fun z => PyData.eqv z d := by
        rw [← hmap, List.countP_map]; rfl
      refine call_meets PySem.F.slot_list_count ⟨_, ho, rfl⟩ PySem.F.entry_list_count (PySem.F.args_list_count_2 _ _)
        (SeqAt.list_countAt a its.toArray n dd sls uy (fun u => PyData.eqv (SeqAt.readOf s.heap u) d)) ⟨ho, SeqAt.items_eqAt (vs := its.toArray) (show ReadsAll s.heap its.toArray.toList ds as from h4) r1 hxs (SeqAt.canLay_of_shaped sd) hroom, ?_⟩
      rw [hcount]
      exact ⟨.int _, H, I.tok _, ⟨_, rfl⟩, q⟩
end
def dCount (x d : D) : R D := match x with
  | .lst ds => (match toPys ds, toPy d with
    | some a, some b => if SeqAt.shaped (.list a) = true ∧ SeqAt.shaped b = true then .ok (.int ((a.countP fun z => PyData.eqv z b : Nat) : Int)) else .bad
    | _, _ => .bad)
  | _ => .bad
section
variable {ca : Ca} {X : Cx} {W : WX} {H0 F H : Hp} {env : En} {o e : Expr} {ro re : R D}
theorem se_count {apos cpos : Pos} (hu : X.A.units + 65 < cLine) (ho : SE ca X W H0 .r env o ro) (h : SE ca X W H0 .r env e re)
    (hs : starEach [e] X.env = (false, eval e X.env) :: starEach [] X.env := by rfl)
    (hbase : attributeBase o "count" X.env (eval o X.env) = eval o X.env := by rfl)
    (hfew : ((backTo cpos (starEach [e] X.env)).all (fun x => !x.1) && (backToKw cpos (keywordEach [] X.env)).all (fun x => x.1.isSome)
      && decide ([e].length + ([] : List Keyword).length + (if ([] : List Keyword).isEmpty then 0 else 1) < 30)) = true := by rfl)
    (hline : (apos.endLine == cpos.line) = true := by rfl) (hplain : (backTo cpos (starEach [] X.env)).any (·.1) = false := by rfl) :
    SE ca X W H0 .v env (.Call (.Attribute o "count" apos) [e] [] cpos) (ro.bind fun x => (asLst x).bind fun a => re.bind (dCount a)) := fun F H σ Q le ok hp => by
  refine ⟨_, pe_bm PySem.F.plainAttrs_list PySem.F.slot_list_count PySem.F.type_list_count (mt_countD hu) pe_W (pa_cons pe_W pa_nil hs) hbase hfew hline hs hplain, ho.then le ok hp fun d v F1 H1 _ g1 q1 ok1 hp1 => ?_⟩
  cases d with
  | lst ds =>
    obtain ⟨p, vs, rfl, h1, r1⟩ := ar_lst g1.fh q1
    refine ⟨.inl ⟨rfl, vs, .inl (.inl h1)⟩, h.then g1.fh ok1 hp1 fun d v F2 H2 _ g2 q2 ok2 hp2 => ?_⟩
    unfold dCount at hp2
    dsimp only at hp2
    split at hp2
    · rename_i a b ea eb
      split at hp2
      · rename_i hz
        have e1 : toPy (.lst ds) = some (.list a) := by simp [toPy, ea]
        exact ⟨p, _, b, a, rfl, rfl, ar_dp g2.fh (AR.mono g2 q1) e1, ar_dp g2.fh q2 eb, hz.1, hz.2, hp2 _ F2 H2 (Go.refl g2.fh) (.int _)⟩
      · exact hp2.elim
    · exact hp2.elim
  | _ => exact hp1.elim
end
end Um

namespace Um
open L2 PySem PySem.Spec PyProof.Rows

/-! ## i in range(..) -/
section
variable {X : Cx}
theorem cr_range1 : CallR X (.type "range") (fun vs H Q => ∃ j, vs = [V.int j] ∧ ∀ p, H p = none → Q (.ref p) (upd H p (.rng 0 j))) := by
  intro pins s σ H vs us Q I r h
  obtain ⟨j, rfl, q⟩ := h
  obtain ⟨u1, rfl, ri⟩ := vals1 r
  obtain ⟨t, rfl⟩ := ri
  refine call_range_1 ⟨.ref s.heap.objs.size, upd H s.heap.objs.size (.rng 0 j), I.laid (t' := s.toks + 1 + 1) (fun b o e => Heap.get?_push_of_some _ e) (Nat.le_refl _) ?_, rfl, q _ (I.hok.fresh (Nat.le_refl _))⟩
  exact ⟨_, t, _, Heap.get?_push_size _ rfl⟩
theorem op_notin_rng : OpR X (compareOp .NotIn) (fun x y H Q => ∃ i a lo hi, x = V.int i ∧ y = V.ref a ∧ H a = some (.rng lo hi) ∧ Q (.bl (!decide (lo ≤ i ∧ i < hi))) H) := by
  intro pins s σ H x y v u Q I rx ry h
  obtain ⟨i, a, lo, hi, rfl, rfl, ha, q⟩ := h
  obtain ⟨k, rfl⟩ := rx
  obtain rfl : u = Value.ref a := ry
  obtain ⟨t1, t2, t3, ho⟩ := I.hok a _ ha
  show wpAny _ _ (do return Value.bool (!(← contains (Value.ref a) (Value.int i k)))) _ _ s
  refine wpAny_bind (wpAny_contains_slot (T := "range") ⟨_, ho, rfl⟩ F.slot_range_contains (call_meets F.slot_range_contains ⟨_, ho, rfl⟩ F.entry_range_contains (F.args_range_contains_2 _ _) (q_contains a lo hi i t1 t2 t3 k)
    ⟨ho, wpAny_truthy_bool (wpAny_pure ⟨.bl _, H, I, rfl, ?_⟩)⟩))
  rw [place1]
  exact q
end
def dInR1 (x : D) (ds : List D) : R Bool := match x, ds with
  | .int i, [.int n] => .ok (decide (0 ≤ i ∧ i < n))
  | _, _ => .bad
def dInR2 (x : D) (ds : List D) : R Bool := match x, ds with
  | .int i, [.int m, .int n] => .ok (decide (m ≤ i ∧ i < n))
  | _, _ => .bad
def dNegB (r : R Bool) : R Bool := match r with
  | .ok b => .ok (!b)
  | .er x => .er x
  | .bad => .bad
section
variable {ca : Ca} {X : Cx} {W : WX} {H0 : Hp} {env : En} {a e e2 : Expr} {ra : R D} {rs : R (List D)} {p pos pos2 : Pos}
theorem SA.thenT {ms : List Md} {es : List Expr} {r : R (List D)} {k : List D → R Bool} {F H : Hp} {σ : L2.St} {Q : Bool → Hp → Prop} {G : List V → Hp → Prop} (h : SA ca X W H0 ms env es r) (le : Le F H) (ok : EnOk X.K ca H0 F H σ env)
    (hp : PostB (ekOf X.K ca W σ) F H (r.bind k) Q)
    (hg : ∀ ds vs F' H', Go F H F' H' → ARs X.K ca F' H' ms vs ds → PostB (ekOf X.K ca W σ) F' H' (k ds) Q → G vs H') : WA X es σ H G := by
  refine h F H σ G le ok ?_
  cases r with
  | ok d => exact fun v F' H' g q => hg d v F' H' g q (PostB.mono g hp)
  | er x => exact hp
  | bad => exact hp
theorem inR1_inv {E : Ek} {F H : Hp} {x : D} {ds : List D} {Q : Bool → Hp → Prop} (h : PostB E F H (dInR1 x ds) Q) : ∃ i n, x = .int i ∧ ds = [.int n] := by
  unfold dInR1 at h
  split at h
  · exact ⟨_, _, rfl, rfl⟩
  · exact h.elim
theorem inR2_inv {E : Ek} {F H : Hp} {x : D} {ds : List D} {Q : Bool → Hp → Prop} (h : PostB E F H (dInR2 x ds) Q) : ∃ i m n, x = .int i ∧ ds = [.int m, .int n] := by
  unfold dInR2 at h
  split at h
  · exact ⟨_, _, _, rfl, rfl⟩
  · exact h.elim
theorem negB_inv {E : Ek} {F H : Hp} {r : R Bool} {Q : Bool → Hp → Prop} (h : PostB E F H (dNegB r) Q) : PostB E F H r (fun b H => Q (!b) H) := by
  unfold dNegB at h
  cases r with
  | ok b => exact h
  | er x => exact h
  | bad => exact h
theorem st_inR1 (ha : SE ca X W H0 .r env a ra) (hs : SA ca X W H0 [.r] env [e] rs) (hm : X.mg "range" = none) (hg : Gl X "range" := by rfl) (he : starEach [e] X.env = (false, eval e X.env) :: starEach [] X.env := by rfl)
    (hmk : behindInMarks .In (.Call (.Name "range" p) [e] [] pos2) = false := by first | exact nomark _ | rfl) : ST ca X W H0 env (.Compare a [.In] [.Call (.Name "range" p) [e] [] pos2] pos) (ra.bind fun x => rs.bind fun ds => dInR1 x ds) := fun F H σ Q le ok hp => by
  refine ⟨_, pt_cmpR op_in_rng pe_W (pe_callTy cr_range1 hg hm (by decide +kernel) pa_W (by decide) (by decide) he) hmk, ha.thenB le ok hp fun d v F1 H1 _ g1 q1 ok1 hp1 => SA.thenT hs g1.fh ok1 hp1 fun ds vs F2 H2 g2 q2 hp2 => ?_⟩
  obtain ⟨i, n, rfl, rfl⟩ := inR1_inv hp2
  cases q2 with
  | consR r1 r2 =>
    cases r2
    exact ⟨n, by rw [ar_int r1], fun q hq => ⟨i, q, 0, n, ar_int (AR.mono g2 q1), rfl, upd_same, ⟨_, rfl, hp2 _ _ (Go.hid g2.fh hq _)⟩⟩⟩
theorem st_notinR1 (ha : SE ca X W H0 .r env a ra) (hs : SA ca X W H0 [.r] env [e] rs) (hm : X.mg "range" = none) (hg : Gl X "range" := by rfl) (he : starEach [e] X.env = (false, eval e X.env) :: starEach [] X.env := by rfl)
    (hmk : behindInMarks .NotIn (.Call (.Name "range" p) [e] [] pos2) = false := by first | exact nomark _ | rfl) : ST ca X W H0 env (.Compare a [.NotIn] [.Call (.Name "range" p) [e] [] pos2] pos) (ra.bind fun x => rs.bind fun ds => dNegB (dInR1 x ds)) := fun F H σ Q le ok hp => by
  refine ⟨_, pt_cmpR op_notin_rng pe_W (pe_callTy cr_range1 hg hm (by decide +kernel) pa_W (by decide) (by decide) he) hmk, ha.thenB le ok hp fun d v F1 H1 _ g1 q1 ok1 hp1 => SA.thenT hs g1.fh ok1 hp1 fun ds vs F2 H2 g2 q2 hp2 => ?_⟩
  have hp2 := negB_inv hp2
  obtain ⟨i, n, rfl, rfl⟩ := inR1_inv hp2
  cases q2 with
  | consR r1 r2 =>
    cases r2
    exact ⟨n, by rw [ar_int r1], fun q hq => ⟨i, q, 0, n, ar_int (AR.mono g2 q1), rfl, upd_same, ⟨_, rfl, hp2 _ _ (Go.hid g2.fh hq _)⟩⟩⟩
theorem st_inR2 (ha : SE ca X W H0 .r env a ra) (hs : SA ca X W H0 [.r, .r] env [e, e2] rs) (hm : X.mg "range" = none) (hg : Gl X "range" := by rfl) (he : starEach [e, e2] X.env = (false, eval e X.env) :: starEach [e2] X.env := by rfl)
    (hpl : (backTo pos2 (starEach [e2] X.env)).any (·.1) = false := by rfl)
    (hmk : behindInMarks .In (.Call (.Name "range" p) [e, e2] [] pos2) = false := by first | exact nomark _ | rfl) : ST ca X W H0 env (.Compare a [.In] [.Call (.Name "range" p) [e, e2] [] pos2] pos) (ra.bind fun x => rs.bind fun ds => dInR2 x ds) := fun F H σ Q le ok hp => by
  refine ⟨_, pt_cmpR op_in_rng pe_W (pe_callTy cr_range2 hg hm (by decide +kernel) pa_W (by decide) (by decide) he hpl) hmk, ha.thenB le ok hp fun d v F1 H1 _ g1 q1 ok1 hp1 => SA.thenT hs g1.fh ok1 hp1 fun ds vs F2 H2 g2 q2 hp2 => ?_⟩
  obtain ⟨i, m, n, rfl, rfl⟩ := inR2_inv hp2
  cases q2 with
  | consR r1 r2 =>
    cases r2 with
    | consR r3 r4 =>
      cases r4
      exact ⟨m, n, by rw [ar_int r1, ar_int r3], fun q hq => ⟨i, q, m, n, ar_int (AR.mono g2 q1), rfl, upd_same, ⟨_, rfl, hp2 _ _ (Go.hid g2.fh hq _)⟩⟩⟩
theorem st_notinR2 (ha : SE ca X W H0 .r env a ra) (hs : SA ca X W H0 [.r, .r] env [e, e2] rs) (hm : X.mg "range" = none) (hg : Gl X "range" := by rfl) (he : starEach [e, e2] X.env = (false, eval e X.env) :: starEach [e2] X.env := by rfl)
    (hpl : (backTo pos2 (starEach [e2] X.env)).any (·.1) = false := by rfl)
    (hmk : behindInMarks .NotIn (.Call (.Name "range" p) [e, e2] [] pos2) = false := by first | exact nomark _ | rfl) : ST ca X W H0 env (.Compare a [.NotIn] [.Call (.Name "range" p) [e, e2] [] pos2] pos) (ra.bind fun x => rs.bind fun ds => dNegB (dInR2 x ds)) := fun F H σ Q le ok hp => by
  refine ⟨_, pt_cmpR op_notin_rng pe_W (pe_callTy cr_range2 hg hm (by decide +kernel) pa_W (by decide) (by decide) he hpl) hmk, ha.thenB le ok hp fun d v F1 H1 _ g1 q1 ok1 hp1 => SA.thenT hs g1.fh ok1 hp1 fun ds vs F2 H2 g2 q2 hp2 => ?_⟩
  have hp2 := negB_inv hp2
  obtain ⟨i, m, n, rfl, rfl⟩ := inR2_inv hp2
  cases q2 with
  | consR r1 r2 =>
    cases r2 with
    | consR r3 r4 =>
      cases r4
      exact ⟨m, n, by rw [ar_int r1, ar_int r3], fun q hq => ⟨i, q, m, n, ar_int (AR.mono g2 q1), rfl, upd_same, ⟨_, rfl, hp2 _ _ (Go.hid g2.fh hq _)⟩⟩⟩
theorem se_inR1 (ha : SE ca X W H0 .r env a ra) (hs : SA ca X W H0 [.r] env [e] rs) (hm : X.mg "range" = none) (hg : Gl X "range" := by rfl) (he : starEach [e] X.env = (false, eval e X.env) :: starEach [] X.env := by rfl)
    (hmk : behindInMarks .In (.Call (.Name "range" p) [e] [] pos2) = false := by first | exact nomark _ | rfl) : SE ca X W H0 .v env (.Compare a [.In] [.Call (.Name "range" p) [e] [] pos2] pos) (R.bool (ra.bind fun x => rs.bind fun ds => dInR1 x ds)) := fun F H σ Q le ok hp => by
  refine ⟨_, pe_cmpR op_in_rng pe_W (pe_callTy cr_range1 hg hm (by decide +kernel) pa_W (by decide) (by decide) he) hmk, ha.thenB le ok (Post.bool rfl hp) fun d v F1 H1 _ g1 q1 ok1 hp1 => SA.thenT hs g1.fh ok1 hp1 fun ds vs F2 H2 g2 q2 hp2 => ?_⟩
  obtain ⟨i, n, rfl, rfl⟩ := inR1_inv hp2
  cases q2 with
  | consR r1 r2 =>
    cases r2
    exact ⟨n, by rw [ar_int r1], fun q hq => ⟨i, q, 0, n, ar_int (AR.mono g2 q1), rfl, upd_same, hp2 _ _ (Go.hid g2.fh hq _)⟩⟩
theorem se_notinR1 (ha : SE ca X W H0 .r env a ra) (hs : SA ca X W H0 [.r] env [e] rs) (hm : X.mg "range" = none) (hg : Gl X "range" := by rfl) (he : starEach [e] X.env = (false, eval e X.env) :: starEach [] X.env := by rfl)
    (hmk : behindInMarks .NotIn (.Call (.Name "range" p) [e] [] pos2) = false := by first | exact nomark _ | rfl) : SE ca X W H0 .v env (.Compare a [.NotIn] [.Call (.Name "range" p) [e] [] pos2] pos) (R.bool (ra.bind fun x => rs.bind fun ds => dNegB (dInR1 x ds))) := fun F H σ Q le ok hp => by
  refine ⟨_, pe_cmpR op_notin_rng pe_W (pe_callTy cr_range1 hg hm (by decide +kernel) pa_W (by decide) (by decide) he) hmk, ha.thenB le ok (Post.bool rfl hp) fun d v F1 H1 _ g1 q1 ok1 hp1 => SA.thenT hs g1.fh ok1 hp1 fun ds vs F2 H2 g2 q2 hp2 => ?_⟩
  have hp2 := negB_inv hp2
  obtain ⟨i, n, rfl, rfl⟩ := inR1_inv hp2
  cases q2 with
  | consR r1 r2 =>
    cases r2
    exact ⟨n, by rw [ar_int r1], fun q hq => ⟨i, q, 0, n, ar_int (AR.mono g2 q1), rfl, upd_same, hp2 _ _ (Go.hid g2.fh hq _)⟩⟩
theorem se_inR2 (ha : SE ca X W H0 .r env a ra) (hs : SA ca X W H0 [.r, .r] env [e, e2] rs) (hm : X.mg "range" = none) (hg : Gl X "range" := by rfl) (he : starEach [e, e2] X.env = (false, eval e X.env) :: starEach [e2] X.env := by rfl)
    (hpl : (backTo pos2 (starEach [e2] X.env)).any (·.1) = false := by rfl)
    (hmk : behindInMarks .In (.Call (.Name "range" p) [e, e2] [] pos2) = false := by first | exact nomark _ | rfl) : SE ca X W H0 .v env (.Compare a [.In] [.Call (.Name "range" p) [e, e2] [] pos2] pos) (R.bool (ra.bind fun x => rs.bind fun ds => dInR2 x ds)) := fun F H σ Q le ok hp => by
  refine ⟨_, pe_cmpR op_in_rng pe_W (pe_callTy cr_range2 hg hm (by decide +kernel) pa_W (by decide) (by decide) he hpl) hmk, ha.thenB le ok (Post.bool rfl hp) fun d v F1 H1 _ g1 q1 ok1 hp1 => SA.thenT hs g1.fh ok1 hp1 fun ds vs F2 H2 g2 q2 hp2 => ?_⟩
  obtain ⟨i, m, n, rfl, rfl⟩ := inR2_inv hp2
  cases q2 with
  | consR r1 r2 =>
    cases r2 with
    | consR r3 r4 =>
      cases r4
      exact ⟨m, n, by rw [ar_int r1, ar_int r3], fun q hq => ⟨i, q, m, n, ar_int (AR.mono g2 q1), rfl, upd_same, hp2 _ _ (Go.hid g2.fh hq _)⟩⟩
theorem se_notinR2 (ha : SE ca X W H0 .r env a ra) (hs : SA ca X W H0 [.r, .r] env [e, e2] rs) (hm : X.mg "range" = none) (hg : Gl X "range" := by rfl) (he : starEach [e, e2] X.env = (false, eval e X.env) :: starEach [e2] X.env := by rfl)
    (hpl : (backTo pos2 (starEach [e2] X.env)).any (·.1) = false := by rfl)
    (hmk : behindInMarks .NotIn (.Call (.Name "range" p) [e, e2] [] pos2) = false := by first | exact nomark _ | rfl) : SE ca X W H0 .v env (.Compare a [.NotIn] [.Call (.Name "range" p) [e, e2] [] pos2] pos) (R.bool (ra.bind fun x => rs.bind fun ds => dNegB (dInR2 x ds))) := fun F H σ Q le ok hp => by
  refine ⟨_, pe_cmpR op_notin_rng pe_W (pe_callTy cr_range2 hg hm (by decide +kernel) pa_W (by decide) (by decide) he hpl) hmk, ha.thenB le ok (Post.bool rfl hp) fun d v F1 H1 _ g1 q1 ok1 hp1 => SA.thenT hs g1.fh ok1 hp1 fun ds vs F2 H2 g2 q2 hp2 => ?_⟩
  have hp2 := negB_inv hp2
  obtain ⟨i, m, n, rfl, rfl⟩ := inR2_inv hp2
  cases q2 with
  | consR r1 r2 =>
    cases r2 with
    | consR r3 r4 =>
      cases r4
      exact ⟨m, n, by rw [ar_int r1, ar_int r3], fun q hq => ⟨i, q, m, n, ar_int (AR.mono g2 q1), rfl, upd_same, hp2 _ _ (Go.hid g2.fh hq _)⟩⟩
end
end Um

namespace Um
open L2 PySem PySem.Spec PyProof.Rows

/-! ## len(o) and list(o) of own instances that hold a list -/
/-- o's attribute g holds the list zs -/
def HoldsL (K : PySem.W.Frag) (C : Addr) (g : Str) (H : Hp) (a : Addr) (zs : List V) : Prop := ∃ dx fs l, H a = some (.ins C dx fs) ∧ fs.lookup g = some (.ref l) ∧ SqL K H l zs
def spIt (K : PySem.W.Frag) (C : Addr) (g : Str) : Sp := fun vs H Q _ => ∃ a dx fs l zs, vs = [.ref a] ∧ H a = some (.ins C dx fs) ∧ fs.lookup g = some (.ref l) ∧ SqL K H l zs ∧ ∀ it, H it = none → (∀ b u, H b = some u → b < it) → Q (.ref it) (upd H it (ItO l it 0))
theorem call_iterB {X : Cx} : CallR X (.builtin "iter") (fun xs H Q => ∃ (l : Addr) (zs : List V), xs = [.ref l] ∧ SqL X.K H l zs ∧ ∀ it, H it = none → (∀ b u, H b = some u → b < it) → Q (.ref it) (upd H it (ItO l it 0))) := by
  intro pins s σ H xs us Q I r h
  obtain ⟨l, zs, rfl, hq, q⟩ := h
  obtain ⟨u, rfl, ru⟩ := vals1 r
  cases ru
  obtain ⟨its, rv, pl, hz⟩ := I.list hq
  refine GNX.call_iter pl.isList ?_
  refine ⟨.ref s.heap.objs.size, _, I.laid (t' := s.toks) (fun b u e => Heap.get?_push_of_some _ e) (Nat.le_refl _) (itO_ok (Heap.get?_push_size _ rfl)), rfl, q _ (I.hok.fresh (Nat.le_refl _)) fun b u e => ?_⟩
  rcases Nat.lt_or_ge b s.heap.objs.size with h | h
  · exact h
  · rw [I.hok.fresh h] at e; cases e
def spLn (K : PySem.W.Frag) (C : Addr) (g : Str) : Sp := fun vs H Q _ => ∃ a zs, vs = [.ref a] ∧ HoldsL K C g H a zs ∧ Q (.int zs.length) H
section
variable {P : Program} {w : World} {K : PySem.W.Frag} {mg : Str → Option Value} {base : Heap} {C a : Addr} {fd : FuncData} {params : Arguments} {bd : List Stmt} {scope : Scope} {qual g : Str} {p1 p2 p3 p4 p5 : Pos}
theorem iter_ok (F : FunD K "__iter__" qual params [.Return (some (.Call (.Name "iter" p1) [.Attribute (.Name "self" p2) g p3] [] p4)) p5] scope [] [] a fd) (S : FnScope ["self"] ["self"] scope) (hc : Cls K C) (hn : NoAttr K C g) (hm : mg "iter" = none)
    (hg : ∀ cdv A outer s H E, Gl (cxOf (L2N.CX P w) P w K mg base ["self"] qual scope a cdv A outer s H E) "iter") (hv : ∀ cdv A outer s H E, Vis (cxOf (L2N.CX P w) P w K mg base ["self"] qual scope a cdv A outer s H E).env.scope "self")
    (hsw : ∀ cdv A outer s H E, starEach [.Attribute (.Name "self" p2) g p3] (cxOf (L2N.CX P w) P w K mg base ["self"] qual scope a cdv A outer s H E).env = [(false, eval (.Attribute (.Name "self" p2) g p3) (cxOf (L2N.CX P w) P w K mg base ["self"] qual scope a cdv A outer s H E).env)]) :
    FnOk P w K mg base (L2N.CX P w) 1 a fd ["self"] (spIt K C g) := by
  refine F.ok (k := 0) S (fun vs H Q E h => ?_) (fun cdv A outer s H vs Q E hr h => ?_)
  · obtain ⟨a, dx, fs, l, zs, rfl, _⟩ := h; rfl
  · obtain ⟨a', dx, fs, l, zs, rfl, ha, hl, hz, q⟩ := h
    refine ⟨_, pss_one (ps_ret (pe_callB call_iterB (hg cdv A outer s H E) hm (by decide +kernel) (pa_cons (pe_fld (pe_var (i := 0) rfl (hv cdv A outer s H E) (by decide) (by decide)) rfl) pa_nil) (by decide) (by decide) (hsw cdv A outer s H E) rfl)), ?_⟩
    refine ⟨_, rfl, a', C, dx, fs, _, rfl, ha, hc, hn, hl, ?_⟩
    exact ⟨l, zs, rfl, hz, q⟩
theorem len_ok (F : FunD K "__len__" qual params [.Return (some (.Call (.Name "len" p1) [.Attribute (.Name "self" p2) g p3] [] p4)) p5] scope [] [] a fd) (S : FnScope ["self"] ["self"] scope) (hc : Cls K C) (hn : NoAttr K C g) (hm : mg "len" = none)
    (hg : ∀ cdv A outer s H E, Gl (cxOf (L2N.CX P w) P w K mg base ["self"] qual scope a cdv A outer s H E) "len") (hv : ∀ cdv A outer s H E, Vis (cxOf (L2N.CX P w) P w K mg base ["self"] qual scope a cdv A outer s H E).env.scope "self")
    (hsw : ∀ cdv A outer s H E, starEach [.Attribute (.Name "self" p2) g p3] (cxOf (L2N.CX P w) P w K mg base ["self"] qual scope a cdv A outer s H E).env = [(false, eval (.Attribute (.Name "self" p2) g p3) (cxOf (L2N.CX P w) P w K mg base ["self"] qual scope a cdv A outer s H E).env)]) :
    FnOk P w K mg base (L2N.CX P w) 1 a fd ["self"] (spLn K C g) := by
  refine F.ok (k := 0) S (fun vs H Q E h => ?_) (fun cdv A outer s H vs Q E hr h => ?_)
  · obtain ⟨a, zs, rfl, _⟩ := h; rfl
  · obtain ⟨a', zs, rfl, ⟨dx, fs, l, ha, hl, hz⟩, q⟩ := h
    refine ⟨_, pss_one (ps_ret (pe_callB call_len_seq (hg cdv A outer s H E) hm (by decide +kernel) (pa_cons (pe_fld (pe_var (i := 0) rfl (hv cdv A outer s H E) (by decide) (by decide)) rfl) pa_nil) (by decide) (by decide) (hsw cdv A outer s H E) rfl)), ?_⟩
    refine ⟨_, rfl, a', C, dx, fs, _, rfl, ha, hc, hn, hl, ?_⟩
    exact ⟨l, zs, rfl, .inl hz, q⟩
end
/-- an own class with __len__ and __iter__ over the list in g -/
structure LenI (P : Program) (w : World) (K : PySem.W.Frag) (mg : Str → Option Value) (base : Heap) (C : Addr) (g : Str) : Prop where
  ln : ∃ (f : Addr) (fd : FuncData), FnOk P w K mg base (L2N.CX P w) 1 f fd ["self"] (spLn K C g) ∧ Binds K fd ["self"] [] ∧ PySem.W.findIn K (.ref C) "__len__" = some (some (.ref f)) ∧ PySem.W.isFn K (.ref f) = true
  it : ∃ (f : Addr) (fd : FuncData), FnOk P w K mg base (L2N.CX P w) 1 f fd ["self"] (spIt K C g) ∧ Binds K fd ["self"] [] ∧ PySem.W.findIn K (.ref C) "__iter__" = some (some (.ref f)) ∧ PySem.W.isFn K (.ref f) = true
section
variable {X : Cx} {C : Addr} {g : Str}
theorem run_ownE {n : Nat} {f : Addr} {fd : FuncData} {ps : List Str} {sp : Sp} {us : List Value} {vs : List V} {A1 : Around} {pins : List (Addr × Obj)} {σ : L2.St} {H : Hp} {s : Shared} {Q : VK} {E' : Value → Shared → Prop} (sb : Sub X n A1) (F : FnOk X.prog X.w X.K X.mg X.base (L2N.CX X.prog X.w) n f fd ps sp) (b : Binds X.K fd ps []) (I : Inv X pins σ H s) (r : Vals vs us) (h : sp vs H Q (fun _ _ _ => False)) :
    wpAny (model X.prog X.w) A1 (call (.ref f) us) (EP X pins σ Q) E' s := by
  have e0 : Env0 X.prog X.w X.K X.mg X.base A1 X.stack s H := by
    have e := I.env0
    exact ⟨by rw [sb.fr]; exact e.frames, e.mod, e.bs, e.bsz, e.funs, e.frf, e.hok, e.bare⟩
  have hl := F.len _ _ _ _ h
  refine wpAny_call (codeAny_mono (F.run A1 X.stack s H ⟨us, []⟩ us vs Q (fun _ _ _ => False) sb.room e0 (by
    have := b s us I.kIn (by rw [List.append_nil, ← r.length]; exact hl)
    rwa [List.append_nil] at this) r h) fun r s' hq => ?_)
  cases r with
  | error e => obtain ⟨a, B, H', cls, d, -, -, -, -, -, -, -, hE⟩ := hq; exact hE.elim
  | ok fl =>
    cases fl with
    | ret u => exact I.after hq
    | next => exact False.elim hq
    | brk => exact False.elim hq
    | cont => exact False.elim hq
/-- len(o), at any place within -/
theorem wp_lenOwn {E' : Value → Shared → Prop} {A1 : Around} {pins : List (Addr × Obj)} {σ : L2.St} {H : Hp} {s : Shared} {a : Addr} {zs : List V} {Q : Value → Shared → Prop} (L : LenI X.prog X.w X.K X.mg X.base C g) (sb : Sub X 2 A1) (I : Inv X pins σ H s) (h : HoldsL X.K C g H a zs)
    (hQ : ∀ t s', Inv X pins σ H s' → Q (.int zs.length t) s') : wpAny (model X.prog X.w) A1 (call (.builtin "len") [.ref a]) Q E' s := by
  obtain ⟨f, fd, G, b, hs, hf⟩ := L.ln
  have h' := h
  obtain ⟨dx, fs, l, ha, hl, hz⟩ := h
  obtain ⟨mA, J, _⟩ := ins_get I.hok ha
  obtain ⟨od, J, _⟩ := J.look
  obtain ⟨m, hF⟩ := I.fr
  refine PySem.W.len_K hF I.ok.mod.kin J hs hf ?_
  refine wpAny_mono (run_ownE (E' := E') (vs := [.ref a]) (Q := fun v H' => v = .int zs.length ∧ H' = H) (Sub.in1 sb) G b I (.cons rfl .nil) ⟨a, zs, rfl, h', rfl, rfl⟩) (fun v s' hv => ?_) fun _ _ z => z
  obtain ⟨x, H', I', r, rfl, rfl⟩ := hv
  obtain ⟨t, rfl⟩ := r
  obtain ⟨its, rv, pl, hzz⟩ := I'.list hz
  have hlen : zs.length ≤ sizeLine := hzz
  have := sizeLine_eq
  refine ⟨⟨by omega, by omega⟩, hQ _ _ ?_⟩
  exact I'.kept (t' := s'.toks + 1) fun b o e => e
theorem sqL_other {K : PySem.W.Frag} {H : Hp} {a q : Addr} {o : HO} {xs : List V} (h : SqL K H a xs) (n : a ≠ q) : SqL K (upd H q o) a xs := by
  rcases h with h | h
  · rcases h with h | ⟨ob, h⟩
    · exact .inl (.inl (by rw [upd_ne n]; exact h))
    · exact .inl (.inr ⟨ob, by rw [upd_ne n]; exact h⟩)
  · exact .inr h
theorem cr_lenOwn (L : LenI X.prog X.w X.K X.mg X.base C g) (hr : Room 2 X.A) : CallR X (.builtin "len") (fun xs H Q => ∃ a zs, xs = [.ref a] ∧ HoldsL X.K C g H a zs ∧ Q (.int zs.length) H) := by
  intro pins s σ H vs us Q I r h
  obtain ⟨a, zs, rfl, h, q⟩ := h
  obtain ⟨u, rfl, ru⟩ := r.one
  cases ru
  exact wp_lenOwn L ⟨hr, rfl⟩ I h fun t s' I' => ⟨.int zs.length, H, I', ⟨t, rfl⟩, q⟩
/-- the walk that fills the list at q -/
theorem listIt_loop (hc : X.calm = true) {A1 : Around} (hA : A1.in1.handled = none) {pins : List (Addr × Obj)} {σ : L2.St} {l it q : Addr} {zs : List V} {Rs : Result → Shared → Prop} :
    ∀ (k i : Nat) (H : Hp) (s : Shared) (acc : List V), zs.length - i = k → i ≤ zs.length → acc = zs.take i → Inv X pins σ H s → FpOk X pins H it → s.heap.IsListIter it l i → SqL X.K H l zs → H q = some (.lst acc) → l ≠ q →
      (∀ s', Inv X pins σ (upd H q (.lst zs)) s' → Rs (.ok (.ret .none)) s') →
      codeAny (model X.prog X.w) A1 (.builtin "list.extend.loop" ⟨[.ref q, .ref it, .none], []⟩) Rs s := by
  intro k
  induction k with
  | zero =>
    intro i H s acc hk hi ha I fp st hl hq hne hR
    have hi' : i = zs.length := by omega
    subst hi'
    rw [List.take_length] at ha
    subst ha
    obtain ⟨f0, f1, f2, f3, f4, f5⟩ := fp
    obtain ⟨its, rv, p, hz⟩ := I.list hl
    refine codeAny_builtin PySem.F.entry_extend_loop ?_
    rw [Around.under_plainId PySem.F.plain_extend_loop _]
    show wpAny _ A1.in1 (pyNext (.ref it) >>= _) _ _ s
    have hlv := rv.length
    refine wpAny_bind (wpAny_pyNext_list_end hA st p.isList (by simp; omega) fun h' eb => ?_)
    refine wpAny_pure (hR _ ?_)
    have I1 : Inv X pins σ H { s with heap := h' } := I.turned (t' := s.toks) (fun b o hb e => eb b o hb e) f0 f1 f3 f4 f5
    have e : upd H q (.lst acc) = H := by
      funext b
      by_cases hb : b = q
      · rw [hb, upd_same, hq]
      · rw [upd_ne hb]
    rw [e]; exact I1
  | succ k ih =>
    intro i H s acc hk hi ha I fp st hl hq hne hR
    obtain ⟨f0, f1, f2, f3, f4, f5⟩ := id fp
    obtain ⟨its, rv, p, hz⟩ := I.list hl
    have hlt : i < zs.length := by omega
    have hx : zs[i]? = some zs[i] := List.getElem?_eq_getElem hlt
    obtain ⟨u, hu, ru⟩ := rv.get hx
    refine codeAny_builtin PySem.F.entry_extend_loop ?_
    rw [Around.under_plainId PySem.F.plain_extend_loop _]
    show wpAny _ A1.in1 (pyNext (.ref it) >>= _) _ _ s
    refine wpAny_bind (wpAny_pyNext_list_item st p.isList (x := u) (by simpa using hu) fun h' st' sb => ?_)
    have I1 : Inv X pins σ H { s with heap := h' } := I.turned (t' := s.toks) (fun b o hb e => (sb.2 b hb).trans e) f0 f1 f3 f4 f5
    show wpAny _ A1.in1 (updateSeq q (·.push u) >>= _) _ _ _
    obtain ⟨z, its2, kk, r2, hl2, e⟩ := I1.lstM hq
    have hacc : acc.length = i := by rw [ha, List.length_take]; omega
    have hzl : zs.length ≤ sizeLine := hz
    have hqi : q ≠ it := fun e => by rw [e, f0] at hq; cases hq
    have I2 := I1.lset (f := (·.push u)) (its' := its2 ++ [u]) (ys := acc ++ [zs[i]]) (t' := s.toks) hq e (by simp) (r2.append (.cons ru .nil)) (by rw [List.length_append, List.length_singleton]; omega)
    refine wpAny_bind (wpAny_updateSeq e rfl (wpAny_pure ⟨plainId_quiet PySem.F.plain_extend_loop _, ?_⟩) (by rw [List.size_toArray]; omega) (by show (its2.toArray.push u).size ≤ sizeLine + 1; rw [Array.size_push, List.size_toArray]; omega))
    refine ih (i + 1) (upd H q (.lst (acc ++ [zs[i]]))) _ (acc ++ [zs[i]]) (by omega) hlt (by rw [ha, List.take_add_one, List.getElem?_eq_getElem hlt]; rfl) I2 ⟨?_, f1, f2, f3, f4, f5⟩ ?_ ?_ upd_same hne fun s' I' => ?_
    · rw [upd_ne (Ne.symm hqi)]; exact f0
    · obtain ⟨o, eo, c, d⟩ := st'
      exact ⟨o, (Heap.get?_update_other _ _ hqi).trans eo, c, d⟩
    · exact sqL_other hl hne
    · rw [upd_upd] at I'
      exact hR s' I'
/-- the length is asked for -/
theorem own_hintL {E' : Value → Shared → Prop} {A1 : Around} {pins : List (Addr × Obj)} {σ : L2.St} {H : Hp} {s : Shared} {a : Addr} {zs : List V} {Q : Bool → Shared → Prop} (L : LenI X.prog X.w X.K X.mg X.base C g) (sb : Sub X 2 A1) (I : Inv X pins σ H s) (h : HoldsL X.K C g H a zs)
    (hQ : ∀ b s', Inv X pins σ H s' → Q b s') : wpAny (model X.prog X.w) A1 (Builtin.List.listLengthHint (.ref a)) Q E' s := by
  obtain ⟨f, fd, G, b, hs, hf⟩ := id L.ln
  have h' := h
  obtain ⟨dx, fs, l, ha, hl, hz⟩ := h
  obtain ⟨its, rv, pl, hzz⟩ := I.list hz
  have hlen : zs.length ≤ sizeLine := hzz
  obtain ⟨mA, J, _⟩ := ins_get I.hok ha
  obtain ⟨od, J, _⟩ := J.look
  unfold Builtin.List.listLengthHint
  refine wpAny_bind (wpAny_bind (J.type.here ((PySem.W.looks_findIn I.kIn hs).here ?_)))
  refine PySem.W.KFB.if_not rfl ?_
  refine PySem.W.KFB.if_so rfl ?_
  refine wpAny_bind (wpAny_rule ?_)
  refine wpAny_bind (wpAny_attempt ?_)
  refine wp_lenOwn L sb I h' fun t s' I' => ?_
  show wpAny _ _ (asInt? (.int (zs.length : Int) t) >>= _) _ _ _
  refine wpAny_bind (wpAny_pure ?_)
  show wpAny _ _ (if Builtin.List.listTooLong ((zs.length : Int)).toNat = true then _ else _) _ _ _
  refine PySem.W.KFB.if_not (by unfold Builtin.List.listTooLong; rw [Int.toNat_natCast]; exact decide_eq_false (by omega)) ?_
  exact wpAny_pure (hQ _ _ I')
/-- iter(o), at any place within: an iterator over the list -/
theorem wp_iterOwn {E' : Value → Shared → Prop} {A1 : Around} {pins : List (Addr × Obj)} {σ : L2.St} {H : Hp} {s : Shared} {a l dx : Addr} {fs : List (Str × V)} {zs : List V} {Q : Value → Shared → Prop} (L : LenI X.prog X.w X.K X.mg X.base C g) (sb : Sub X 1 A1) (I : Inv X pins σ H s)
    (ha : H a = some (.ins C dx fs)) (hl : fs.lookup g = some (.ref l)) (hz : SqL X.K H l zs) (hb : ∃ b u, H b = some u ∧ X.s_0.heap.objs.size ≤ b)
    (hQ : ∀ it s', Inv X pins σ (upd H it (ItO l it 0)) s' → H it = none → X.s_0.heap.objs.size ≤ it → Q (.ref it) s') : wpAny (model X.prog X.w) A1 (pyIter (.ref a)) Q E' s := by
  obtain ⟨f, fd, G, b, hs, hf⟩ := id L.it
  obtain ⟨mA, J, _⟩ := ins_get I.hok ha
  obtain ⟨od, J, _⟩ := J.look
  obtain ⟨m, hF⟩ := I.fr
  refine PySem.W.owit_iter hF I.ok.mod.kin J hs hf ?_
  have e0 : Env0 X.prog X.w X.K X.mg X.base A1 X.stack s H := by
    have e := I.env0
    exact ⟨by rw [sb.fr]; exact e.frames, e.mod, e.bs, e.bsz, e.funs, e.frf, e.hok, e.bare⟩
  have r : Vals [V.ref a] [Value.ref a] := .cons rfl .nil
  have hsp : spIt X.K C g [.ref a] H (fun v H' => ∃ it, v = .ref it ∧ H it = none ∧ (∀ b u, H b = some u → b < it) ∧ H' = upd H it (ItO l it 0)) (fun _ _ _ => False) := ⟨a, dx, fs, l, zs, rfl, ha, hl, hz, fun it hit hlt => ⟨it, rfl, hit, hlt, rfl⟩⟩
  refine wpAny_call (codeAny_mono (G.run A1 X.stack s H ⟨[.ref a], []⟩ [.ref a] [.ref a] _ (fun _ _ _ => False) sb.room e0 (by
    have := b s [.ref a] I.kIn (by simp)
    simpa using this) r hsp) fun r s' hq => ?_)
  cases r with
  | error e => obtain ⟨a, B, H', cls, d, -, -, -, -, -, -, -, hE⟩ := hq; exact hE.elim
  | ok fl =>
    cases fl with
    | next => exact False.elim hq
    | brk => exact False.elim hq
    | cont => exact False.elim hq
    | ret u =>
      obtain ⟨v, H', I', rv, it, rfl, hit, hlt, rfl⟩ := I.after hq
      have rv' : u = Value.ref it := rv
      subst rv'
      have eo := (I'.hok it _ upd_same).1
      obtain ⟨b0, u0, hb0, hge⟩ := hb
      have st : s'.heap.IsListIter it l 0 := ⟨_, eo, rfl, rfl⟩
      unfold PySem.W.OwitIt
      refine wpAny_specialOf (name := Str.ofString "__next__") st.typeIs slot_listiter_next.lookup ?_
      exact hQ it s' I' hit (Nat.le_trans hge (Nat.le_of_lt (hlt b0 u0 hb0)))
theorem it_drop {pins : List (Addr × Obj)} {σ : L2.St} {H : Hp} {s : Shared} {it l : Addr} (I : Inv X pins σ (upd H it (ItO l it 0)) s) (hit : H it = none) (hn : X.s_0.heap.objs.size ≤ it) : Inv X pins σ H s ∧ FpOk X pins H it ∧ s.heap.IsListIter it l 0 := by
  have eo := (I.hok it _ upd_same).1
  have hD : ItX.dropH (upd H it (ItO l it 0)) it = H := ItX.dropH_upd hit
  have I2 := ItX.inv_drop I (a := it) (φ := fun h => h.get? it = some (GNX.itObj l 0)) upd_same
  have fp := ItX.inv_fp I upd_same hn
  rw [hD] at I2 fp
  exact ⟨I2, fp, ⟨_, eo, rfl, rfl⟩⟩
theorem upd_self {H : Hp} {a : Addr} {o : HO} (h : H a = some o) : upd H a o = H := by
  funext b
  by_cases hb : b = a
  · rw [hb, upd_same, h]
  · rw [upd_ne hb]
/-- list(o) -/
theorem cr_listOwn (hc : X.calm = true) (L : LenI X.prog X.w X.K X.mg X.base C g) (hr : Room 4 X.A) :
    CallR X (.type "list") (fun xs H Q => ∃ a dx fs l zs, xs = [.ref a] ∧ H a = some (.ins C dx fs) ∧ fs.lookup g = some (.ref l) ∧ SqL X.K H l zs ∧ ∀ q, H q = none → Q (.ref q) (upd H q (.lst zs))) := by
  intro pins s σ H xs us Q I rv h
  obtain ⟨a, dx, fs, l, zs, rfl, ha, hl, hz, hQ⟩ := h
  obtain ⟨u, rfl, ru⟩ := rv.one
  cases ru
  have sb : Sub X 2 X.A.in1.in1 := (Sub.in1 (Sub.in1 (⟨hr, rfl⟩ : Sub X 4 X.A)))
  refine callType_codes (Q₁ := fun obj s₁ => obj = .ref s.heap.objs.size ∧ s₁ = { s with heap := s.heap.push { cls := .type "list", data := .seq #[] } }) PySem.F.called_list (PySem.F.typeCall_list_1 _) PySem.F.entry_list_init
    (code_list_new _ ⟨rfl, rfl⟩) fun obj s₁ h₁ => ?_
  obtain ⟨rfl, rfl⟩ := h₁
  have hS : (s.heap.push { cls := .type "list", data := .seq #[] }).get? s.heap.objs.size = some { cls := .type "list", data := .seq #[] } := Heap.get?_push_size _ rfl
  refine ⟨⟨_, hS, rfl⟩, PySem.F.args_list_init_2 _ _, ?_⟩
  have fr : H s.heap.objs.size = none := I.hok.fresh (Nat.le_refl _)
  have I1 : Inv X pins σ (upd H s.heap.objs.size (.lst [])) { s with heap := s.heap.push { cls := .type "list", data := .seq #[] } } := I.lnew (its := []) (t' := s.toks) .nil (Nat.zero_le _)
  show wpAny _ _ (do let old ← Builtin.List.listItems (.ref s.heap.objs.size); Builtin.List.listUpdate (.ref s.heap.objs.size) (fun _ => #[]); letGo old.toList.reverse; Builtin.List.listExtendWith (.ref s.heap.objs.size) (.ref a) .none) _ _ _
  refine wpAny_bind ?_
  unfold Builtin.List.listItems
  refine wpAny_bind (wpAny_seqItems hS rfl (wpAny_pure ?_))
  show wpAny _ _ (updateSeq s.heap.objs.size (fun _ => #[]) >>= fun _ => letGo (#[] : Array Value).toList.reverse >>= fun _ => Builtin.List.listExtendWith (.ref s.heap.objs.size) (.ref a) .none) _ _ _
  refine wpAny_bind (wpAny_updateSeq hS rfl ?_)
  have I2 := I1.lset (f := fun _ => #[]) (its := []) (its' := []) (ys := []) (t' := s.toks) upd_same hS rfl .nil (Nat.zero_le _)
  rw [upd_upd] at I2
  refine wpAny_bind (wpAny_letGo ?_)
  have ha2 : upd H s.heap.objs.size (.lst []) a = some (.ins C dx fs) := by rw [upd_ne (ne_of_none ha fr)]; exact ha
  have hne0 : l ≠ s.heap.objs.size := fun e => by
    rcases hz with h | ⟨o, its, n, h1, _⟩
    · rcases h with h | ⟨ob, h⟩ <;> (rw [e, fr] at h; cases h)
    · have := I.kIn _ _ h1
      rw [e] at this
      exact absurd (Heap.lt_size this) (Nat.lt_irrefl _)
  have hz2 : SqL X.K (upd H s.heap.objs.size (.lst [])) l zs := sqL_other hz hne0
  have hsz : X.s_0.heap.objs.size ≤ s.heap.objs.size := I.sz
  generalize hq : s.heap.objs.size = q at *
  have hne : q ≠ a := fun e => by rw [e, ha] at fr; cases fr
  obtain ⟨mA, J, _⟩ := ins_get I2.hok ha2
  obtain ⟨od, J, _⟩ := J.look
  unfold Builtin.List.listExtendWith
  refine wpAny_bind (J.type.here ?_)
  have h1 : Builtin.List.listSameRef (.ref q) (.ref a) = false := by simp [Builtin.List.listSameRef, hne]
  have h2 : (Value.ref C == Value.type "list") = false := rfl
  have h3 : (Value.ref C == Value.type "tuple") = false := rfl
  simp only [h1, h2, h3, Bool.or_false, Bool.false_eq_true, if_false]
  refine wpAny_bind (wp_iterOwn L (sb.mono (by decide)) I2 ha2 hl hz2 ⟨q, _, upd_same, hsz⟩ fun it s3 I3 hit hnit => ?_)
  have hita : a ≠ it := fun e => by rw [← e, ha2] at hit; cases hit
  have hitl : l ≠ it := fun e => by
    rcases hz2 with h | ⟨o, its, n, h1, h2, _⟩
    · rcases h with h | ⟨ob, h⟩ <;> (rw [e, hit] at h; cases h)
    · have k1 := I3.kIn _ _ h1
      have k2 := (I3.hok it _ upd_same).1
      rw [e, k2] at k1
      cases k1
      exact absurd h2 (by intro z; injection z with z; revert z; decide)
  refine wpAny_bind (wpAny_holding (own_hintL L sb I3 ⟨dx, fs, l, by rw [upd_ne hita]; exact ha2, hl, sqL_other hz2 hitl⟩ fun b s4 I4 => ?_))
  obtain ⟨I5, fp, st⟩ := it_drop I4 hit hnit
  obtain ⟨z, its, k, r3, hl3, e3⟩ := I5.lstM upd_same
  cases r3
  have fin : ∀ s6, Inv X pins σ (upd H q (.lst [])) s6 → s6.heap.IsListIter it l 0 → codeAny (model X.prog X.w) X.A.in1 (.builtin "list.extend.loop" ⟨[.ref q, .ref it, .none], []⟩) (wants (fun r s₂ => r = .none ∧ EP X pins σ Q (.ref q) s₂) X.xe) s6 := fun s6 I6 st6 =>
    listIt_loop (A1 := X.A.in1) hc (I.ok.hd hc) zs.length 0 (upd H q (.lst [])) s6 [] (by omega) (Nat.zero_le _) rfl I6 fp st6 hz2 upd_same hne0 fun s7 I7 => ⟨rfl, .ref q, _, I7, rfl, by rw [upd_upd]; exact hQ q fr⟩
  refine wpAny_ite_split (fun _ => ?_) (fun _ => wpAny_pure ⟨plainId_quiet PySem.F.plain_extend_loop _, fin _ I5 st⟩)
  refine wpAny_bind (wpAny_rule ?_)
  refine wpAny_bind ?_
  show wpAny _ _ (updateSeq q (·.push .none) >>= fun _ => updateSeq q (·.pop)) _ _ _
  refine wpAny_bind (wpAny_updateSeq e3 rfl ?_)
  have I6 := I5.lset (f := (·.push Value.none)) (its' := [Value.none]) (ys := [.non]) (t' := s4.toks) upd_same e3 (by simp) (.cons rfl .nil) (by rw [List.length_singleton, sizeLine_eq]; decide)
  obtain ⟨z4, its4, k4, r4, hl4, e4⟩ := I6.lstM upd_same
  obtain ⟨u4, rfl, ru4⟩ := r4.one
  refine wpAny_updateSeq e4 rfl ?_ (by show 1 ≤ sizeLine; rw [sizeLine_eq]; decide) (by show 0 ≤ sizeLine + 1; exact Nat.zero_le _)
  have I7 := I6.lset (f := (·.pop)) (its := [u4]) (its' := []) (ys := []) (t' := s4.toks) upd_same e4 (by rfl) .nil (Nat.zero_le _)
  rw [upd_upd, upd_upd] at I7
  refine wpAny_pure ⟨plainId_quiet PySem.F.plain_extend_loop _, fin _ I7 ?_⟩
  have hqi : q ≠ it := fun e => by rw [← e, upd_same] at hit; cases hit
  obtain ⟨o, eo, c, d⟩ := st
  exact ⟨o, (Heap.get?_update_other _ _ hqi).trans ((Heap.get?_update_other _ _ hqi).trans eo), c, d⟩
end
end Um

namespace Um
open L2 PySem PySem.Spec PyProof.Rows

/-! ## len(o), list(o), for x in o: own instances that hold a tuple -/
abbrev ttObj (t : Addr) (i : Nat) : Obj := { cls := .type "tuple_iterator", data := .fields #[.ref t, .int i 0] }
def TtO (t it : Addr) (i : Nat) : HO := .ext fun h => h.get? it = some (ttObj t i)
theorem ttO_ok {P : Program} {w : World} {H : Hp} {h : Heap} {t it : Addr} {i : Nat} (e : h.get? it = some (ttObj t i)) : ObjOk P w H h it (TtO t it i) := ⟨e, ⟨_, e⟩, fun h1 h2 q k => k _ q⟩
def HoldsT (K : PySem.W.Frag) (C : Addr) (g : Str) (H : Hp) (a : Addr) (zs : List V) : Prop := ∃ dx fs l, H a = some (.ins C dx fs) ∧ fs.lookup g = some (.ref l) ∧ SqT K H l zs
def spItT (K : PySem.W.Frag) (C : Addr) (g : Str) (n : Nat) : Sp := fun vs H Q _ => ∃ a dx fs l zs, vs = [.ref a] ∧ H a = some (.ins C dx fs) ∧ fs.lookup g = some (.ref l) ∧ SqT K H l zs ∧ ∀ it, H it = none → n ≤ it → Q (.ref it) (upd H it (TtO l it 0))
theorem gnx_iterT {prog : Program} {w : World} {A : Around} {E : Value → Shared → Prop} {s : Shared} {l : Addr} {items : Array Value} {Q : Value → Shared → Prop} (hl : s.heap.IsTuple l items) (h : Q (.ref s.heap.objs.size) { s with heap := s.heap.push (ttObj l 0) }) : wpAny (model prog w) A (call (.builtin "iter") [.ref l]) Q E s := by
  refine Calls.call_function_entry (by decide +kernel) (by decide +kernel) PySem.W.kdk_entry_iter (PySem.W.kdk_args_iter _) ?_
  unfold Builtin.«iter»
  refine wpAny_bind (m := someArgs "iter" 1 2 _) (wpAny_of_eq (a := [Value.ref l]) (by first | rfl | kernel_rfl!) ?_)
  show wpAny _ _ (pyIter (.ref l) >>= _) _ _ _
  refine wpAny_bind (wpAny_pyIter_tuple hl ?_)
  exact wpAny_pure ⟨_, rfl, h⟩
theorem call_iterT {X : Cx} : CallR X (.builtin "iter") (fun xs H Q => ∃ (l : Addr) (zs : List V), xs = [.ref l] ∧ SqT X.K H l zs ∧ ∀ it, H it = none → X.s_0.heap.objs.size ≤ it → Q (.ref it) (upd H it (TtO l it 0))) := by
  intro pins s σ H xs us Q I r h
  obtain ⟨l, zs, rfl, hq, q⟩ := h
  obtain ⟨u, rfl, ru⟩ := vals1 r
  cases ru
  obtain ⟨its, rv, pl, hz⟩ := I.tuple hq
  refine gnx_iterT (show s.heap.IsTuple l its.toArray from pl) ?_
  exact ⟨.ref s.heap.objs.size, _, I.laid (t' := s.toks) (fun b u e => Heap.get?_push_of_some _ e) (Nat.le_refl _) (ttO_ok (Heap.get?_push_size _ rfl)), rfl, q _ (I.hok.fresh (Nat.le_refl _)) I.sz⟩
def spLnT (K : PySem.W.Frag) (C : Addr) (g : Str) : Sp := fun vs H Q _ => ∃ a zs, vs = [.ref a] ∧ HoldsT K C g H a zs ∧ Q (.int zs.length) H
/-- FnOk whose promise knows how great the heap is -/
structure FnOkN (P : Program) (w : World) (K : PySem.W.Frag) (mg : Str → Option Value) (base : Heap) (CX : CXT) (k : Nat) (f : Addr) (fd : FuncData) (ps : List Str) (sp : Nat → Sp) : Prop where
  len : ∀ n vs H Q E, sp n vs H Q E → vs.length = ps.length
  run : ∀ (n : Nat) (A : Around) (outer : List Env) (s : Shared) (H : Hp) (args : Args) (us : List Value) (vs : List V) (Q : VK) (E : XK), n ≤ s.heap.objs.size → Room k A → Env0 P w K mg base A outer s H → BindsTo s fd args (ps.zip us) → Vals vs us → sp n vs H Q E →
    codeAny (model P w) A (.call (.ref f) args) (CR CX outer P w H s Q E) s
theorem fn_ofN {CX : CXT} {P : Program} {w : World} {K : PySem.W.Frag} {mg : Str → Option Value} {base : Heap} {k : Nat} {f : Addr} {name qual : Str} {params : Arguments} {body : List Stmt} {scope : Scope} {dV kV doc pm cdv ct oc : Value} {an od : Option Addr}
    {osl : Array (Option Value)} {N ps : List Str} {sp : Nat → Sp} (lk : K.lookup f = some ⟨oc, od, .func (PySem.W.fnOf name qual params body scope dV kV doc pm an cdv ct), osl⟩) (hcd : PySem.W.codeIn K cdv qual = true) (S : FnScope N ps scope)
    (len : ∀ n vs H Q E, sp n vs H Q E → vs.length = ps.length)
    (hbody : ∀ (n : Nat) (A : Around) (outer : List Env) (s : Shared) (H : Hp) (vs : List V) (Q : VK) (E : XK), n ≤ s.heap.objs.size → Room k (A.deeper (envOfC qual scope s.heap.objs.size f cdv)) → sp n vs H Q E →
      ∃ t, PSs (cxOf CX P w K mg base N qual scope f cdv A outer s H E) body t ∧ t { nx := fun _ H' => Q .non H', rt := Q } (L2.start N vs) H) :
    FnOkN P w K mg base CX (k + 1) f (PySem.W.fnOf name qual params body scope dV kV doc pm an cdv ct) ps sp := by
  refine ⟨len, fun n A outer s H args us vs Q E hn hr e0 hb r hsp => ?_⟩
  have hl := len _ _ _ _ _ hsp
  have KX : K.In s.heap := e0.mod.kin.keeps fun b o e => (e0.bs b o e).1
  have lim : s.heap.NoLimit := e0.mod.nolimit.keeps fun b o e => (e0.bs b o e).1
  have hkind : ∀ y ∈ ps.zip us, scope.names.lookup y.1 = some .local ∨ (scope.names.lookup y.1 = some .cell ∧ ((cellsFrom (s.heap.objs.size + 1) scope.names []).lookup y.1).isSome = true) := fun ⟨n, v⟩ hy => by
    rcases S.par n (List.of_mem_zip hy).1 with q | q
    · exact .inl q
    · exact .inr ⟨q, PySem.W.cellsFrom_some _ _ _ (.inl q)⟩
  refine codeAny_call_function hr.depth (KX _ _ lk) rfl S.co S.gen rfl (PySem.W.codeRec_of KX hcd) (hb _ _ _ _ ?_)
  refine wpAny_newFunctionEnv_cells S.kind hkind fun env he s1 x => ?_
  subst he
  refine ⟨lim.keeps x.toInCall.keep, codeAny_func ?_⟩
  obtain ⟨t, ht, hq⟩ := hbody n A outer s H vs Q E hn (hr.deeper _) hsp
  have I : Inv (cxOf CX P w K mg base N qual scope f cdv A outer s H E) [] (L2.start N vs) H s1 := inv_start S hr.hd e0 hl r x
  refine wpAny_mono (ht.run [] s1 (L2.start N vs) H _ I hq) (fun fl s' hs => ?_) fun e s' hs => hs
  have fin : ∀ {σ' : L2.St} {H' : Hp} {v : V} {u : Value}, Inv (cxOf CX P w K mg base N qual scope f cdv A outer s H E) [] σ' H' s' → RelV v u → Q v H' → CE outer P w H s Q u s' :=
    fun {σ' H' v u} J rv q => ⟨v, H', J.os, J.bare, J.base, J.hok, rv, q⟩
  cases fl with
  | ret u =>
    obtain ⟨v, σ', H', J, rv, q⟩ := hs
    exact fin J rv q
  | next =>
    obtain ⟨σ', H', J, q⟩ := hs
    exact fin (v := V.non) (u := Value.none) J rfl q
  | brk =>
    obtain ⟨_, _, _, q⟩ := hs
    exact False.elim q
  | cont =>
    obtain ⟨_, _, _, q⟩ := hs
    exact False.elim q
section
variable {P : Program} {w : World} {K : PySem.W.Frag} {mg : Str → Option Value} {base : Heap} {C a : Addr} {fd : FuncData} {params : Arguments} {bd : List Stmt} {scope : Scope} {qual g : Str} {p1 p2 p3 p4 p5 : Pos}
theorem iter_okT (F : FunD K "__iter__" qual params [.Return (some (.Call (.Name "iter" p1) [.Attribute (.Name "self" p2) g p3] [] p4)) p5] scope [] [] a fd) (S : FnScope ["self"] ["self"] scope) (hc : Cls K C) (hn : NoAttr K C g) (hm : mg "iter" = none)
    (hg : ∀ cdv A outer s H E, Gl (cxOf (L2N.CX P w) P w K mg base ["self"] qual scope a cdv A outer s H E) "iter") (hv : ∀ cdv A outer s H E, Vis (cxOf (L2N.CX P w) P w K mg base ["self"] qual scope a cdv A outer s H E).env.scope "self")
    (hsw : ∀ cdv A outer s H E, starEach [.Attribute (.Name "self" p2) g p3] (cxOf (L2N.CX P w) P w K mg base ["self"] qual scope a cdv A outer s H E).env = [(false, eval (.Attribute (.Name "self" p2) g p3) (cxOf (L2N.CX P w) P w K mg base ["self"] qual scope a cdv A outer s H E).env)]) :
    FnOkN P w K mg base (L2N.CX P w) 1 a fd ["self"] (spItT K C g) := by
  obtain ⟨oc, od, dV, kV, doc, pm, an, cdv, ct, osl, rfl, lk, hcd, _, _⟩ := F.ex
  refine fn_ofN (k := 0) lk hcd S (fun n vs H Q E h => ?_) fun n A outer s H vs Q E hle hr h => ?_
  · obtain ⟨a, dx, fs, l, zs, rfl, _⟩ := h; rfl
  · obtain ⟨a', dx, fs, l, zs, rfl, ha, hl, hz, q⟩ := h
    refine ⟨_, pss_one (ps_ret (pe_callB call_iterT (hg cdv A outer s H E) hm (by decide +kernel) (pa_cons (pe_fld (pe_var (i := 0) rfl (hv cdv A outer s H E) (by decide) (by decide)) rfl) pa_nil) (by decide) (by decide) (hsw cdv A outer s H E) rfl)), ?_⟩
    refine ⟨_, rfl, a', C, dx, fs, _, rfl, ha, hc, hn, hl, ?_⟩
    exact ⟨l, zs, rfl, hz, fun it h1 h2 => q it h1 (Nat.le_trans hle h2)⟩
theorem len_okT (F : FunD K "__len__" qual params [.Return (some (.Call (.Name "len" p1) [.Attribute (.Name "self" p2) g p3] [] p4)) p5] scope [] [] a fd) (S : FnScope ["self"] ["self"] scope) (hc : Cls K C) (hn : NoAttr K C g) (hm : mg "len" = none)
    (hg : ∀ cdv A outer s H E, Gl (cxOf (L2N.CX P w) P w K mg base ["self"] qual scope a cdv A outer s H E) "len") (hv : ∀ cdv A outer s H E, Vis (cxOf (L2N.CX P w) P w K mg base ["self"] qual scope a cdv A outer s H E).env.scope "self")
    (hsw : ∀ cdv A outer s H E, starEach [.Attribute (.Name "self" p2) g p3] (cxOf (L2N.CX P w) P w K mg base ["self"] qual scope a cdv A outer s H E).env = [(false, eval (.Attribute (.Name "self" p2) g p3) (cxOf (L2N.CX P w) P w K mg base ["self"] qual scope a cdv A outer s H E).env)]) :
    FnOk P w K mg base (L2N.CX P w) 1 a fd ["self"] (spLnT K C g) := by
  refine F.ok (k := 0) S (fun vs H Q E h => ?_) (fun cdv A outer s H vs Q E hr h => ?_)
  · obtain ⟨a, zs, rfl, _⟩ := h; rfl
  · obtain ⟨a', zs, rfl, ⟨dx, fs, l, ha, hl, hz⟩, q⟩ := h
    refine ⟨_, pss_one (ps_ret (pe_callB call_len_seq (hg cdv A outer s H E) hm (by decide +kernel) (pa_cons (pe_fld (pe_var (i := 0) rfl (hv cdv A outer s H E) (by decide) (by decide)) rfl) pa_nil) (by decide) (by decide) (hsw cdv A outer s H E) rfl)), ?_⟩
    refine ⟨_, rfl, a', C, dx, fs, _, rfl, ha, hc, hn, hl, ?_⟩
    exact ⟨l, zs, rfl, .inr hz, q⟩
end
structure LenT (P : Program) (w : World) (K : PySem.W.Frag) (mg : Str → Option Value) (base : Heap) (C : Addr) (g : Str) : Prop where
  ln : ∃ (f : Addr) (fd : FuncData), FnOk P w K mg base (L2N.CX P w) 1 f fd ["self"] (spLnT K C g) ∧ Binds K fd ["self"] [] ∧ PySem.W.findIn K (.ref C) "__len__" = some (some (.ref f)) ∧ PySem.W.isFn K (.ref f) = true
  it : ∃ (f : Addr) (fd : FuncData), FnOkN P w K mg base (L2N.CX P w) 1 f fd ["self"] (spItT K C g) ∧ Binds K fd ["self"] [] ∧ PySem.W.findIn K (.ref C) "__iter__" = some (some (.ref f)) ∧ PySem.W.isFn K (.ref f) = true
section
variable {X : Cx} {C : Addr} {g : Str}
/-- len(o), at any place within -/
theorem wp_lenOwnT {E' : Value → Shared → Prop} {A1 : Around} {pins : List (Addr × Obj)} {σ : L2.St} {H : Hp} {s : Shared} {a : Addr} {zs : List V} {Q : Value → Shared → Prop} (L : LenT X.prog X.w X.K X.mg X.base C g) (sb : Sub X 2 A1) (I : Inv X pins σ H s) (h : HoldsT X.K C g H a zs)
    (hQ : ∀ t s', Inv X pins σ H s' → Q (.int zs.length t) s') : wpAny (model X.prog X.w) A1 (call (.builtin "len") [.ref a]) Q E' s := by
  obtain ⟨f, fd, G, b, hs, hf⟩ := L.ln
  have h' := h
  obtain ⟨dx, fs, l, ha, hl, hz⟩ := h
  obtain ⟨mA, J, _⟩ := ins_get I.hok ha
  obtain ⟨od, J, _⟩ := J.look
  obtain ⟨m, hF⟩ := I.fr
  refine PySem.W.len_K hF I.ok.mod.kin J hs hf ?_
  refine wpAny_mono (run_ownE (E' := E') (vs := [.ref a]) (Q := fun v H' => v = .int zs.length ∧ H' = H) (Sub.in1 sb) G b I (.cons rfl .nil) ⟨a, zs, rfl, h', rfl, rfl⟩) (fun v s' hv => ?_) fun _ _ z => z
  obtain ⟨x, H', I', r, rfl, rfl⟩ := hv
  obtain ⟨t, rfl⟩ := r
  obtain ⟨its, rv, pl, hzz⟩ := I'.tuple hz
  have hlen : zs.length ≤ sizeLine := hzz
  have := sizeLine_eq
  refine ⟨⟨by omega, by omega⟩, hQ _ _ ?_⟩
  exact I'.kept (t' := s'.toks + 1) fun b o e => e
theorem sqT_other {K : PySem.W.Frag} {H : Hp} {a q : Addr} {o : HO} {xs : List V} (h : SqT K H a xs) (n : a ≠ q) : SqT K (upd H q o) a xs := by
  rcases h with h | h
  · rcases h with h | ⟨ob, h⟩
    · exact .inl (.inl (by rw [upd_ne n]; exact h))
    · exact .inl (.inr ⟨ob, by rw [upd_ne n]; exact h⟩)
  · exact .inr h
theorem cr_lenOwnT (L : LenT X.prog X.w X.K X.mg X.base C g) (hr : Room 2 X.A) : CallR X (.builtin "len") (fun xs H Q => ∃ a zs, xs = [.ref a] ∧ HoldsT X.K C g H a zs ∧ Q (.int zs.length) H) := by
  intro pins s σ H vs us Q I r h
  obtain ⟨a, zs, rfl, h, q⟩ := h
  obtain ⟨u, rfl, ru⟩ := r.one
  cases ru
  exact wp_lenOwnT L ⟨hr, rfl⟩ I h fun t s' I' => ⟨.int zs.length, H, I', ⟨t, rfl⟩, q⟩
/-- the walk that fills the list at q -/
theorem tupIt_loop (hc : X.calm = true) {A1 : Around} (hA : A1.in1.handled = none) {pins : List (Addr × Obj)} {σ : L2.St} {l it q : Addr} {zs : List V} {Rs : Result → Shared → Prop} :
    ∀ (k i : Nat) (H : Hp) (s : Shared) (acc : List V), zs.length - i = k → i ≤ zs.length → acc = zs.take i → Inv X pins σ H s → FpOk X pins H it → s.heap.IsTupleIter it l i → SqT X.K H l zs → H q = some (.lst acc) → l ≠ q →
      (∀ s', Inv X pins σ (upd H q (.lst zs)) s' → Rs (.ok (.ret .none)) s') →
      codeAny (model X.prog X.w) A1 (.builtin "list.extend.loop" ⟨[.ref q, .ref it, .none], []⟩) Rs s := by
  intro k
  induction k with
  | zero =>
    intro i H s acc hk hi ha I fp st hl hq hne hR
    have hi' : i = zs.length := by omega
    subst hi'
    rw [List.take_length] at ha
    subst ha
    obtain ⟨f0, f1, f2, f3, f4, f5⟩ := fp
    obtain ⟨its, rv, p, hz⟩ := I.tuple hl
    refine codeAny_builtin PySem.F.entry_extend_loop ?_
    rw [Around.under_plainId PySem.F.plain_extend_loop _]
    show wpAny _ A1.in1 (pyNext (.ref it) >>= _) _ _ s
    have hlv := rv.length
    refine wpAny_bind (wpAny_pyNext_tuple_end hA st (show s.heap.IsTuple l its.toArray from p) (by simp; omega) fun h' eb => ?_)
    refine wpAny_pure (hR _ ?_)
    have I1 : Inv X pins σ H { s with heap := h' } := I.turned (t' := s.toks) (fun b o hb e => eb b o hb e) f0 f1 f3 f4 f5
    have e : upd H q (.lst acc) = H := by
      funext b
      by_cases hb : b = q
      · rw [hb, upd_same, hq]
      · rw [upd_ne hb]
    rw [e]; exact I1
  | succ k ih =>
    intro i H s acc hk hi ha I fp st hl hq hne hR
    obtain ⟨f0, f1, f2, f3, f4, f5⟩ := id fp
    obtain ⟨its, rv, p, hz⟩ := I.tuple hl
    have hlt : i < zs.length := by omega
    have hx : zs[i]? = some zs[i] := List.getElem?_eq_getElem hlt
    obtain ⟨u, hu, ru⟩ := rv.get hx
    refine codeAny_builtin PySem.F.entry_extend_loop ?_
    rw [Around.under_plainId PySem.F.plain_extend_loop _]
    show wpAny _ A1.in1 (pyNext (.ref it) >>= _) _ _ s
    refine wpAny_bind (wpAny_pyNext_tuple_item st (show s.heap.IsTuple l its.toArray from p) (x := u) (by simpa using hu) fun h' st' sb => ?_)
    have I1 : Inv X pins σ H { s with heap := h' } := I.turned (t' := s.toks) (fun b o hb e => (sb.2 b hb).trans e) f0 f1 f3 f4 f5
    show wpAny _ A1.in1 (updateSeq q (·.push u) >>= _) _ _ _
    obtain ⟨z, its2, kk, r2, hl2, e⟩ := I1.lstM hq
    have hacc : acc.length = i := by rw [ha, List.length_take]; omega
    have hzl : zs.length ≤ sizeLine := hz
    have hqi : q ≠ it := fun e => by rw [e, f0] at hq; cases hq
    have I2 := I1.lset (f := (·.push u)) (its' := its2 ++ [u]) (ys := acc ++ [zs[i]]) (t' := s.toks) hq e (by simp) (r2.append (.cons ru .nil)) (by rw [List.length_append, List.length_singleton]; omega)
    refine wpAny_bind (wpAny_updateSeq e rfl (wpAny_pure ⟨plainId_quiet PySem.F.plain_extend_loop _, ?_⟩) (by rw [List.size_toArray]; omega) (by show (its2.toArray.push u).size ≤ sizeLine + 1; rw [Array.size_push, List.size_toArray]; omega))
    refine ih (i + 1) (upd H q (.lst (acc ++ [zs[i]]))) _ (acc ++ [zs[i]]) (by omega) hlt (by rw [ha, List.take_add_one, List.getElem?_eq_getElem hlt]; rfl) I2 ⟨?_, f1, f2, f3, f4, f5⟩ ?_ ?_ upd_same hne fun s' I' => ?_
    · rw [upd_ne (Ne.symm hqi)]; exact f0
    · obtain ⟨o, eo, c, d⟩ := st'
      exact ⟨o, (Heap.get?_update_other _ _ hqi).trans eo, c, d⟩
    · exact sqT_other hl hne
    · rw [upd_upd] at I'
      exact hR s' I'
/-- the length is asked for -/
theorem own_hintT {E' : Value → Shared → Prop} {A1 : Around} {pins : List (Addr × Obj)} {σ : L2.St} {H : Hp} {s : Shared} {a : Addr} {zs : List V} {Q : Bool → Shared → Prop} (L : LenT X.prog X.w X.K X.mg X.base C g) (sb : Sub X 2 A1) (I : Inv X pins σ H s) (h : HoldsT X.K C g H a zs)
    (hQ : ∀ b s', Inv X pins σ H s' → Q b s') : wpAny (model X.prog X.w) A1 (Builtin.List.listLengthHint (.ref a)) Q E' s := by
  obtain ⟨f, fd, G, b, hs, hf⟩ := id L.ln
  have h' := h
  obtain ⟨dx, fs, l, ha, hl, hz⟩ := h
  obtain ⟨its, rv, pl, hzz⟩ := I.tuple hz
  have hlen : zs.length ≤ sizeLine := hzz
  obtain ⟨mA, J, _⟩ := ins_get I.hok ha
  obtain ⟨od, J, _⟩ := J.look
  unfold Builtin.List.listLengthHint
  refine wpAny_bind (wpAny_bind (J.type.here ((PySem.W.looks_findIn I.kIn hs).here ?_)))
  refine PySem.W.KFB.if_not rfl ?_
  refine PySem.W.KFB.if_so rfl ?_
  refine wpAny_bind (wpAny_rule ?_)
  refine wpAny_bind (wpAny_attempt ?_)
  refine wp_lenOwnT L sb I h' fun t s' I' => ?_
  show wpAny _ _ (asInt? (.int (zs.length : Int) t) >>= _) _ _ _
  refine wpAny_bind (wpAny_pure ?_)
  show wpAny _ _ (if Builtin.List.listTooLong ((zs.length : Int)).toNat = true then _ else _) _ _ _
  refine PySem.W.KFB.if_not (by unfold Builtin.List.listTooLong; rw [Int.toNat_natCast]; exact decide_eq_false (by omega)) ?_
  exact wpAny_pure (hQ _ _ I')
/-- iter(o), at any place within: an iterator over the list -/
theorem wp_iterOwnT {E' : Value → Shared → Prop} {A1 : Around} {pins : List (Addr × Obj)} {σ : L2.St} {H : Hp} {s : Shared} {a l dx : Addr} {fs : List (Str × V)} {zs : List V} {Q : Value → Shared → Prop} (L : LenT X.prog X.w X.K X.mg X.base C g) (sb : Sub X 1 A1) (I : Inv X pins σ H s)
    (ha : H a = some (.ins C dx fs)) (hl : fs.lookup g = some (.ref l)) (hz : SqT X.K H l zs)
    (hQ : ∀ it s', Inv X pins σ (upd H it (TtO l it 0)) s' → H it = none → X.s_0.heap.objs.size ≤ it → Q (.ref it) s') : wpAny (model X.prog X.w) A1 (pyIter (.ref a)) Q E' s := by
  obtain ⟨f, fd, G, b, hs, hf⟩ := id L.it
  obtain ⟨mA, J, _⟩ := ins_get I.hok ha
  obtain ⟨od, J, _⟩ := J.look
  obtain ⟨m, hF⟩ := I.fr
  refine PySem.W.owit_iter hF I.ok.mod.kin J hs hf ?_
  have e0 : Env0 X.prog X.w X.K X.mg X.base A1 X.stack s H := by
    have e := I.env0
    exact ⟨by rw [sb.fr]; exact e.frames, e.mod, e.bs, e.bsz, e.funs, e.frf, e.hok, e.bare⟩
  have r : Vals [V.ref a] [Value.ref a] := .cons rfl .nil
  have hsp : spItT X.K C g X.s_0.heap.objs.size [.ref a] H (fun v H' => ∃ it, v = .ref it ∧ H it = none ∧ X.s_0.heap.objs.size ≤ it ∧ H' = upd H it (TtO l it 0)) (fun _ _ _ => False) := ⟨a, dx, fs, l, zs, rfl, ha, hl, hz, fun it hit hlt => ⟨it, rfl, hit, hlt, rfl⟩⟩
  refine wpAny_call (codeAny_mono (G.run X.s_0.heap.objs.size A1 X.stack s H ⟨[.ref a], []⟩ [.ref a] [.ref a] _ (fun _ _ _ => False) I.sz sb.room e0 (by
    have := b s [.ref a] I.kIn (by simp)
    simpa using this) r hsp) fun r s' hq => ?_)
  cases r with
  | error e => obtain ⟨a, B, H', cls, d, -, -, -, -, -, -, -, hE⟩ := hq; exact hE.elim
  | ok fl =>
    cases fl with
    | next => exact False.elim hq
    | brk => exact False.elim hq
    | cont => exact False.elim hq
    | ret u =>
      obtain ⟨v, H', I', rv, it, rfl, hit, hlt, rfl⟩ := I.after hq
      have rv' : u = Value.ref it := rv
      subst rv'
      have eo := (I'.hok it _ upd_same).1
      have st : s'.heap.IsTupleIter it l 0 := ⟨_, eo, rfl, rfl⟩
      unfold PySem.W.OwitIt
      refine wpAny_specialOf (name := Str.ofString "__next__") st.typeIs PySem.F.slot_tuple_iterator_next.lookup ?_
      exact hQ it s' I' hit hlt
theorem tt_drop {pins : List (Addr × Obj)} {σ : L2.St} {H : Hp} {s : Shared} {it l : Addr} (I : Inv X pins σ (upd H it (TtO l it 0)) s) (hit : H it = none) (hn : X.s_0.heap.objs.size ≤ it) : Inv X pins σ H s ∧ FpOk X pins H it ∧ s.heap.IsTupleIter it l 0 := by
  have eo := (I.hok it _ upd_same).1
  have hD : ItX.dropH (upd H it (TtO l it 0)) it = H := ItX.dropH_upd hit
  have I2 := ItX.inv_drop I (a := it) (φ := fun h => h.get? it = some (ttObj l 0)) upd_same
  have fp := ItX.inv_fp I upd_same hn
  rw [hD] at I2 fp
  exact ⟨I2, fp, ⟨_, eo, rfl, rfl⟩⟩
/-- list(o) -/
theorem cr_listOwnT (hc : X.calm = true) (L : LenT X.prog X.w X.K X.mg X.base C g) (hr : Room 4 X.A) :
    CallR X (.type "list") (fun xs H Q => ∃ a dx fs l zs, xs = [.ref a] ∧ H a = some (.ins C dx fs) ∧ fs.lookup g = some (.ref l) ∧ SqT X.K H l zs ∧ ∀ q, H q = none → Q (.ref q) (upd H q (.lst zs))) := by
  intro pins s σ H xs us Q I rv h
  obtain ⟨a, dx, fs, l, zs, rfl, ha, hl, hz, hQ⟩ := h
  obtain ⟨u, rfl, ru⟩ := rv.one
  cases ru
  have sb : Sub X 2 X.A.in1.in1 := (Sub.in1 (Sub.in1 (⟨hr, rfl⟩ : Sub X 4 X.A)))
  refine callType_codes (Q₁ := fun obj s₁ => obj = .ref s.heap.objs.size ∧ s₁ = { s with heap := s.heap.push { cls := .type "list", data := .seq #[] } }) PySem.F.called_list (PySem.F.typeCall_list_1 _) PySem.F.entry_list_init
    (code_list_new _ ⟨rfl, rfl⟩) fun obj s₁ h₁ => ?_
  obtain ⟨rfl, rfl⟩ := h₁
  have hS : (s.heap.push { cls := .type "list", data := .seq #[] }).get? s.heap.objs.size = some { cls := .type "list", data := .seq #[] } := Heap.get?_push_size _ rfl
  refine ⟨⟨_, hS, rfl⟩, PySem.F.args_list_init_2 _ _, ?_⟩
  have fr : H s.heap.objs.size = none := I.hok.fresh (Nat.le_refl _)
  have I1 : Inv X pins σ (upd H s.heap.objs.size (.lst [])) { s with heap := s.heap.push { cls := .type "list", data := .seq #[] } } := I.lnew (its := []) (t' := s.toks) .nil (Nat.zero_le _)
  show wpAny _ _ (do let old ← Builtin.List.listItems (.ref s.heap.objs.size); Builtin.List.listUpdate (.ref s.heap.objs.size) (fun _ => #[]); letGo old.toList.reverse; Builtin.List.listExtendWith (.ref s.heap.objs.size) (.ref a) .none) _ _ _
  refine wpAny_bind ?_
  unfold Builtin.List.listItems
  refine wpAny_bind (wpAny_seqItems hS rfl (wpAny_pure ?_))
  show wpAny _ _ (updateSeq s.heap.objs.size (fun _ => #[]) >>= fun _ => letGo (#[] : Array Value).toList.reverse >>= fun _ => Builtin.List.listExtendWith (.ref s.heap.objs.size) (.ref a) .none) _ _ _
  refine wpAny_bind (wpAny_updateSeq hS rfl ?_)
  have I2 := I1.lset (f := fun _ => #[]) (its := []) (its' := []) (ys := []) (t' := s.toks) upd_same hS rfl .nil (Nat.zero_le _)
  rw [upd_upd] at I2
  refine wpAny_bind (wpAny_letGo ?_)
  have ha2 : upd H s.heap.objs.size (.lst []) a = some (.ins C dx fs) := by rw [upd_ne (ne_of_none ha fr)]; exact ha
  have hne0 : l ≠ s.heap.objs.size := fun e => by
    rcases hz with h | ⟨o, its, n, h1, _⟩
    · rcases h with h | ⟨ob, h⟩ <;> (rw [e, fr] at h; cases h)
    · have := I.kIn _ _ h1
      rw [e] at this
      exact absurd (Heap.lt_size this) (Nat.lt_irrefl _)
  have hz2 : SqT X.K (upd H s.heap.objs.size (.lst [])) l zs := sqT_other hz hne0
  have hsz : X.s_0.heap.objs.size ≤ s.heap.objs.size := I.sz
  generalize hq : s.heap.objs.size = q at *
  have hne : q ≠ a := fun e => by rw [e, ha] at fr; cases fr
  obtain ⟨mA, J, _⟩ := ins_get I2.hok ha2
  obtain ⟨od, J, _⟩ := J.look
  unfold Builtin.List.listExtendWith
  refine wpAny_bind (J.type.here ?_)
  have h1 : Builtin.List.listSameRef (.ref q) (.ref a) = false := by simp [Builtin.List.listSameRef, hne]
  have h2 : (Value.ref C == Value.type "list") = false := rfl
  have h3 : (Value.ref C == Value.type "tuple") = false := rfl
  simp only [h1, h2, h3, Bool.or_false, Bool.false_eq_true, if_false]
  refine wpAny_bind (wp_iterOwnT L (sb.mono (by decide)) I2 ha2 hl hz2 fun it s3 I3 hit hnit => ?_)
  have hita : a ≠ it := fun e => by rw [← e, ha2] at hit; cases hit
  have hitl : l ≠ it := fun e => by
    rcases hz2 with h | ⟨o, its, n, h1, h2, _⟩
    · rcases h with h | ⟨ob, h⟩ <;> (rw [e, hit] at h; cases h)
    · have k1 := I3.kIn _ _ h1
      have k2 := (I3.hok it _ upd_same).1
      rw [e, k2] at k1
      cases k1
      exact absurd h2 (by intro z; injection z with z; revert z; decide)
  refine wpAny_bind (wpAny_holding (own_hintT L sb I3 ⟨dx, fs, l, by rw [upd_ne hita]; exact ha2, hl, sqT_other hz2 hitl⟩ fun b s4 I4 => ?_))
  obtain ⟨I5, fp, st⟩ := tt_drop I4 hit hnit
  obtain ⟨z, its, k, r3, hl3, e3⟩ := I5.lstM upd_same
  cases r3
  have fin : ∀ s6, Inv X pins σ (upd H q (.lst [])) s6 → s6.heap.IsTupleIter it l 0 → codeAny (model X.prog X.w) X.A.in1 (.builtin "list.extend.loop" ⟨[.ref q, .ref it, .none], []⟩) (wants (fun r s₂ => r = .none ∧ EP X pins σ Q (.ref q) s₂) X.xe) s6 := fun s6 I6 st6 =>
    tupIt_loop (A1 := X.A.in1) hc (I.ok.hd hc) zs.length 0 (upd H q (.lst [])) s6 [] (by omega) (Nat.zero_le _) rfl I6 fp st6 hz2 upd_same hne0 fun s7 I7 => ⟨rfl, .ref q, _, I7, rfl, by rw [upd_upd]; exact hQ q fr⟩
  refine wpAny_ite_split (fun _ => ?_) (fun _ => wpAny_pure ⟨plainId_quiet PySem.F.plain_extend_loop _, fin _ I5 st⟩)
  refine wpAny_bind (wpAny_rule ?_)
  refine wpAny_bind ?_
  show wpAny _ _ (updateSeq q (·.push .none) >>= fun _ => updateSeq q (·.pop)) _ _ _
  refine wpAny_bind (wpAny_updateSeq e3 rfl ?_)
  have I6 := I5.lset (f := (·.push Value.none)) (its' := [Value.none]) (ys := [.non]) (t' := s4.toks) upd_same e3 (by simp) (.cons rfl .nil) (by rw [List.length_singleton, sizeLine_eq]; decide)
  obtain ⟨z4, its4, k4, r4, hl4, e4⟩ := I6.lstM upd_same
  obtain ⟨u4, rfl, ru4⟩ := r4.one
  refine wpAny_updateSeq e4 rfl ?_ (by show 1 ≤ sizeLine; rw [sizeLine_eq]; decide) (by show 0 ≤ sizeLine + 1; exact Nat.zero_le _)
  have I7 := I6.lset (f := (·.pop)) (its := [u4]) (its' := []) (ys := []) (t' := s4.toks) upd_same e4 (by rfl) .nil (Nat.zero_le _)
  rw [upd_upd, upd_upd] at I7
  refine wpAny_pure ⟨plainId_quiet PySem.F.plain_extend_loop _, fin _ I7 ?_⟩
  have hqi : q ≠ it := fun e => by rw [← e, upd_same] at hit; cases hit
  obtain ⟨o, eo, c, d⟩ := st
  exact ⟨o, (Heap.get?_update_other _ _ hqi).trans ((Heap.get?_update_other _ _ hqi).trans eo), c, d⟩
/-- for x in o -/
def iOwnT (K : PySem.W.Frag) (C : Addr) (g : Str) (te : TE) : TI := fun σ H R => te σ H fun x H1 => ∃ a dx fs l, x = .ref a ∧ H1 a = some (.ins C dx fs) ∧ fs.lookup g = some (.ref l) ∧ (∃ zs, SqT K H1 l zs) ∧ R (Itt K l) H1
theorem pi_ownT {tg e : Expr} {te : TE} (L : LenT X.prog X.w X.K X.mg X.base C g) (hr : Room 1 X.A) (he : PE X e te) : PI X tg e (iOwnT X.K C g te) := by
  refine ⟨fun pins s σ H R I h => ?_⟩
  refine thn (he.run pins s σ H _ I h) fun v s1 ⟨x, H1, I1, r1, q1⟩ => ?_
  obtain ⟨a, dx, fs, l, e, ha, hl, ⟨zs, hz⟩, q⟩ := q1
  subst e
  cases r1
  refine wp_iterOwnT L ⟨hr, rfl⟩ I1 ha hl hz fun it s' I' hit hsz => ?_
  obtain ⟨I2, fp, st⟩ := tt_drop I' hit hsz
  refine ⟨it, [it], _, _, H1, rfl, I2, turn_tuple l it, st, fun b hb => ?_, q⟩
  have e : b = it := by simpa using hb
  rw [e]; exact fp
end
def ownT (c g : Str) (x : D) : R (List D) := match x with
  | .ins c' ns xs => if c' = c then (lookD g ns xs).bind fun y => (match y with | .tup zs => .ok zs | _ => .bad) else .bad
  | _ => .bad
def dLenOwnT (c g : Str) (x : D) : R D := (ownT c g x).bind fun zs => .ok (.int zs.length)
def dListOwnT (c g : Str) (x : D) : R D := (ownT c g x).bind fun zs => .ok (.lst zs)
theorem bind_invT {α β : Type} {r : R α} {k : α → R β} {b : β} (h : r.bind k = .ok b) : ∃ a, r = .ok a ∧ k a = .ok b := by
  cases r with
  | ok a => exact ⟨a, rfl, h⟩
  | er x => cases h
  | bad => cases h
theorem ownT_ner {c g : Str} {x : D} {z : Exc} : ownT c g x ≠ .er z := fun h => by
  unfold ownT at h
  split at h
  · split at h
    · rename_i ns xs _
      cases hl : lookD g ns xs with
      | ok y =>
        rw [hl] at h
        have h' : (match y with | .tup zs => R.ok zs | _ => .bad) = .er z := h
        split at h' <;> cases h'
      | er w => exact absurd hl lookD_er
      | bad => rw [hl] at h; cases h
    · cases h
  · cases h
theorem ownT_holds {K : PySem.W.Frag} {ca : Ca} {F H : Hp} {v : V} {x : D} {c g : Str} {zs : List D} (le : Le F H) (q : AR K ca F H v x) (h : ownT c g x = .ok zs) :
    ∃ p dx fs l vs, v = .ref p ∧ H p = some (.ins (ca c) dx fs) ∧ fs.lookup g = some (.ref l) ∧ SqT K F l vs ∧ Reps K ca F vs zs := by
  unfold ownT at h
  split at h
  · split at h
    · rename_i c' ns xs hcc
      subst hcc
      obtain ⟨y, hl, hB⟩ := bind_invT h
      clear h
      obtain ⟨p, dx, fs, rfl, h1, h2, r⟩ := ar_ins le q
      subst h2
      obtain ⟨u, h3, h4⟩ := lookD_ok r hl
      split at hB
      · rename_i zs'
        cases hB
        cases h4 with
        | tup h5 r2 => exact ⟨p, dx, fs, _, _, rfl, h1, h3, h5.t, r2⟩
      · cases hB
    · cases h
  · cases h
section
variable {ca : Ca} {X : Cx} {W : WX} {H0 : Hp} {env : En} {e tg : Expr} {re : R D} {rs : R (List D)} {p pos : Pos} {c g : Str}
theorem se_lenOwnT (L : LenT X.prog X.w X.K X.mg X.base (ca c) g) (hr : Room 2 X.A) (ha : SA ca X W H0 [.r] env [e] rs) (hm : X.mg "len" = none) (hg : Gl X "len" := by rfl)
    (he : starEach [e] X.env = (false, eval e X.env) :: starEach [] X.env := by rfl) :
    SE ca X W H0 .v env (.Call (.Name "len" p) [e] [] pos) (rs.bind (fn1 (dLenOwnT c g))) := fun F H σ Q le ok hp => by
  refine ⟨_, pe_callB (cr_lenOwnT L hr) hg hm (by decide +kernel) pa_W (by decide) (by decide) he rfl, ha.then le ok hp fun ds vs F1 H1 he0 g1 q1 ok1 hp1 => ?_⟩
  cases q1 with
  | consR r1 r2 =>
    cases r2
    rename_i v x
    have hp2 : Post X.K ca .v (ekOf X.K ca W σ) F1 H1 (dLenOwnT c g x) Q := hp1
    unfold dLenOwnT at hp2
    cases ho : ownT c g x with
    | er z => exact absurd ho ownT_ner
    | bad => rw [ho] at hp2; exact hp2.elim
    | ok zs =>
      rw [ho] at hp2
      obtain ⟨a, dx, fs, l, vs, rfl, h1, h2, h3, h4⟩ := ownT_holds g1.fh r1 ho
      refine ⟨a, vs, rfl, ⟨dx, fs, l, h1, h2, g1.fh.t h3⟩, ?_⟩
      rw [h4.length]
      exact hp2 _ F1 H1 (Go.refl g1.fh) (.int _)
theorem se_listOwnT (hc : X.calm = true) (L : LenT X.prog X.w X.K X.mg X.base (ca c) g) (hr : Room 4 X.A) (ha : SA ca X W H0 [.r] env [e] rs) (hm : X.mg "list" = none) (hg : Gl X "list" := by rfl)
    (he : starEach [e] X.env = (false, eval e X.env) :: starEach [] X.env := by rfl) :
    SE ca X W H0 .o env (.Call (.Name "list" p) [e] [] pos) (rs.bind (fn1 (dListOwnT c g))) := fun F H σ Q le ok hp => by
  refine ⟨_, pe_callTy (cr_listOwnT hc L hr) hg hm (by decide +kernel) pa_W (by decide) (by decide) he rfl, ha.then le ok hp fun ds vs F1 H1 he0 g1 q1 ok1 hp1 => ?_⟩
  cases q1 with
  | consR r1 r2 =>
    cases r2
    rename_i v x
    have hp2 : Post X.K ca .o (ekOf X.K ca W σ) F1 H1 (dListOwnT c g x) Q := hp1
    unfold dListOwnT at hp2
    cases ho : ownT c g x with
    | er z => exact absurd ho ownT_ner
    | bad => rw [ho] at hp2; exact hp2.elim
    | ok zs =>
      rw [ho] at hp2
      obtain ⟨a, dx, fs, l, vs, rfl, h1, h2, h3, h4⟩ := ownT_holds g1.fh r1 ho
      refine ⟨a, dx, fs, l, vs, rfl, h1, h2, g1.fh.t h3, fun q hq => ?_⟩
      exact hp2 _ F1 _ (Go.hid g1.fh hq _) ⟨q, rfl, hq, g1.fh.free hq, .inl ⟨vs, zs, rfl, upd_same, h4⟩⟩
/-- for x in o -/
theorem si_ownT (L : LenT X.prog X.w X.K X.mg X.base (ca c) g) (hr : Room 1 X.A) (h : SE ca X W H0 .r env e re) : SI ca X W H0 env tg e (re.bind (ownT c g)) := fun F H σ Q le ok hp => by
  cases re with
  | er x => exact ⟨_, pi_ownT L hr pe_W, h F H σ _ le ok hp⟩
  | bad => exact hp.elim
  | ok d =>
    refine ⟨_, pi_ownT L hr pe_W, h F H σ _ le ok fun v F' H' g1 q => ?_⟩
    have hp' : PostI ca X H0 (ekOf X.K ca W σ) F H (ownT c g d) Q := hp
    cases ho : ownT c g d with
    | er z => exact absurd ho ownT_ner
    | bad => rw [ho] at hp'; exact hp'.elim
    | ok zs =>
      rw [ho] at hp'
      obtain ⟨a, dx, fs, l, vs, rfl, h1, h2, h3, h4⟩ := ownT_holds g1.fh q ho
      exact ⟨a, dx, fs, l, rfl, h1, h2, ⟨_, g1.fh.t h3⟩, hp' _ F' H' g1 (itok_tup h3 h4)⟩
end
end Um

namespace Um
open L2 PySem PySem.Spec PyProof.Rows

/-! ## Reckoning with the mirrors -/
abbrev il (ns : List Int) : List D := ns.map D.int
@[simp] theorem rcons_ok (a : D) (b : List D) : R.cons (.ok a) (.ok b) = .ok (a :: b) := (Eq.refl _).trans (Eq.refl _)
@[simp] theorem fn1_s (g : D → R D) (a : D) : fn1 g [a] = g a := (Eq.refl _).trans (Eq.refl _)
@[simp] theorem fn2_s (g : D → D → R D) (a b : D) : fn2 g [a, b] = g a b := (Eq.refl _).trans (Eq.refl _)
@[simp] theorem fn3_s (g : D → D → D → R D) (a b c : D) : fn3 g [a, b, c] = g a b c := (Eq.refl _).trans (Eq.refl _)
@[simp] theorem fn4_s (g : D → D → D → D → R D) (a b c d : D) : fn4 g [a, b, c, d] = g a b c d := (Eq.refl _).trans (Eq.refl _)
@[simp] theorem fn5_s (g : D → D → D → D → D → R D) (a b c d e : D) : fn5 g [a, b, c, d, e] = g a b c d e := (Eq.refl _).trans (Eq.refl _)
@[simp] theorem fn6_s (g : D → D → D → D → D → D → R D) (a b c d e f : D) : fn6 g [a, b, c, d, e, f] = g a b c d e f := (Eq.refl _).trans (Eq.refl _)
@[simp] theorem joinC_s {S β : Type} (f : (S → β) → β) (k : S → β) : joinC f k = f k := (Eq.refl _).trans (Eq.refl _)
@[simp] theorem dSub_s (a b : Int) : dSub (.int a) (.int b) = .ok (.int (a - b)) := (Eq.refl _).trans (Eq.refl _)
@[simp] theorem dAdd_s (a b : Int) : dAdd (.int a) (.int b) = .ok (.int (a + b)) := (Eq.refl _).trans (Eq.refl _)
@[simp] theorem dNeg_s (a : Int) : dNeg (.int a) = .ok (.int (-a)) := (Eq.refl _).trans (Eq.refl _)
@[simp] theorem dLt_s (a b : Int) : dLt (.int a) (.int b) = .ok (decide (a < b)) := (Eq.refl _).trans (Eq.refl _)
@[simp] theorem dGt_s (a b : Int) : dGt (.int a) (.int b) = .ok (decide (b < a)) := (Eq.refl _).trans (Eq.refl _)
@[simp] theorem dLe_s (a b : Int) : dLe (.int a) (.int b) = .ok (decide (a ≤ b)) := (Eq.refl _).trans (Eq.refl _)
@[simp] theorem dGe_s (a b : Int) : dGe (.int a) (.int b) = .ok (decide (b ≤ a)) := (Eq.refl _).trans (Eq.refl _)
@[simp] theorem dTruth_bl (b : Bool) : dTruth (.bl b) = .ok b := (Eq.refl _).trans (Eq.refl _)
@[simp] theorem dTruth_int (i : Int) : dTruth (.int i) = .ok (i != 0) := (Eq.refl _).trans (Eq.refl _)
@[simp] theorem dNot_s (b : Bool) : dNot (.bl b) = .ok (.bl (!b)) := (Eq.refl _).trans (Eq.refl _)
@[simp] theorem dInt_s (i : Int) : dInt (.int i) = .ok (.int i) := (Eq.refl _).trans (Eq.refl _)
@[simp] theorem dLen_l (xs : List D) : dLen (.lst xs) = .ok (.int xs.length) := (Eq.refl _).trans (Eq.refl _)
@[simp] theorem dLen_sc (xs : List D) : dLen (.scr xs) = .ok (.int xs.length) := (Eq.refl _).trans (Eq.refl _)
@[simp] theorem dLen_t (xs : List D) : dLen (.tup xs) = .ok (.int xs.length) := (Eq.refl _).trans (Eq.refl _)
@[simp] theorem dList_l (xs : List D) : dList (.lst xs) = .ok (.lst xs) := (Eq.refl _).trans (Eq.refl _)
@[simp] theorem dList_t (xs : List D) : dList (.tup xs) = .ok (.lst xs) := (Eq.refl _).trans (Eq.refl _)
@[simp] theorem dTuple_l (xs : List D) : dTuple (.lst xs) = .ok (.tup xs) := (Eq.refl _).trans (Eq.refl _)
@[simp] theorem dTuple_t (xs : List D) : dTuple (.tup xs) = .ok (.tup xs) := (Eq.refl _).trans (Eq.refl _)
@[simp] theorem dItems_l (xs : List D) : dItems (.lst xs) = .ok xs := (Eq.refl _).trans (Eq.refl _)
@[simp] theorem dItems_t (xs : List D) : dItems (.tup xs) = .ok xs := (Eq.refl _).trans (Eq.refl _)
@[simp] theorem dMax2_s (a b : Int) : dMax2 (.int a) (.int b) = .ok (.int (max a b)) := by
  show R.ok (D.int (if b > a then b else a)) = _
  by_cases h : b > a
  · rw [if_pos h, Int.max_eq_right (by omega)]
  · rw [if_neg h, Int.max_eq_left (by omega)]
@[simp] theorem dMin2_s (a b : Int) : dMin2 (.int a) (.int b) = .ok (.int (min a b)) := by
  show R.ok (D.int (if b < a then b else a)) = _
  by_cases h : b < a
  · rw [if_pos h, Int.min_eq_right (by omega)]
  · rw [if_neg h, Int.min_eq_left (by omega)]
@[simp] theorem dPart_s (i : Int) : dPart (.int i) = .ok (some i) := (Eq.refl _).trans (Eq.refl _)
theorem short_of {xs : List D} (h : xs.length ≤ 1000) : short xs := by
  unfold short; rw [sizeLine_eq]; omega
theorem dLst_s {xs : List D} (h : xs.length ≤ 1000) : dLst xs = .ok (.lst xs) := if_pos (short_of h)
theorem dTup_s {xs : List D} (h : xs.length ≤ 1000) : dTup xs = .ok (.tup xs) := if_pos (short_of h)
theorem finC_s {xs : List D} (h : xs.length ≤ 1000) : finC xs = .ok (.lst xs) := if_pos (short_of h)
theorem dApp_s {xs : List D} (d : D) (h : xs.length < 1000) : dApp xs d = .ok (.lst (xs ++ [d])) := if_pos (by rw [sizeLine_eq]; omega)
@[simp] theorem dLst_0 : dLst [] = .ok (.lst []) := dLst_s (by simp)
@[simp] theorem dLst_1 (a : D) : dLst [a] = .ok (.lst [a]) := dLst_s (by simp)
@[simp] theorem dTup_0 : dTup [] = .ok (.tup []) := dTup_s (by simp)
@[simp] theorem dTup_1 (a : D) : dTup [a] = .ok (.tup [a]) := dTup_s (by simp)
@[simp] theorem dTup_2 (a b : D) : dTup [a, b] = .ok (.tup [a, b]) := dTup_s (by simp)
@[simp] theorem dTup_3 (a b c : D) : dTup [a, b, c] = .ok (.tup [a, b, c]) := dTup_s (by simp)
theorem dCat_s {a b : List D} (h : a.length + b.length ≤ 1000) : dCat (.lst a) (.lst b) = .ok (.lst (a ++ b)) := if_pos (by rw [sizeLine_eq]; omega)
theorem dMul_l {a b : Int} (h1 : -18446744073709551616 < a) (h2 : a < 18446744073709551616) : dMul (.int a) (.int b) = .ok (.int (a * b)) := if_pos (.inl ⟨by simpa using h1, by simpa using h2⟩)
theorem dMod_s {a b : Int} (h : 0 < b) : dMod (.int a) (.int b) = .ok (.int (a % b)) := by
  show (if b ≠ 0 then R.ok (D.int (a.fmod b)) else R.bad) = _
  rw [if_pos (by omega), Int.fmod_eq_emod_of_nonneg a (by omega)]
theorem dFdiv_s {a b : Int} (h : 0 < b) (h2 : b < 1073741824) : dFdiv (.int a) (.int b) = .ok (.int (a / b)) := by
  show (if b ≠ 0 ∧ b.natAbs < 1073741824 then R.ok (D.int (a.fdiv b)) else R.bad) = _
  rw [if_pos (by omega), Int.fdiv_eq_ediv_of_nonneg a (by omega)]
theorem dPow_s {a b : Int} (h : 0 ≤ b) (h2 : b ≤ 1000000) (h3 : a.natAbs < 18446744073709551616) : dPow (.int a) (.int b) = .ok (.int (a ^ b.toNat)) := if_pos ⟨h, h2, by simpa using h3⟩
/-! ### == -/
theorem eqv_int (a b : Int) : PyData.eqv (.int a) (.int b) = decide (a = b) := by
  unfold PyData.eqv
  by_cases h : a = b <;> simp [h]
theorem shaped_int (a : Int) : SeqAt.shaped (.int a) = true := by
  simp [SeqAt.shaped, PyData.canLay0, PyData.depth]
@[simp] theorem dEq_s (a b : Int) : dEq (.int a) (.int b) = .ok (decide (a = b)) := by
  unfold dEq
  simp only [toPy, shaped_int, eqv_int, and_self, if_true]
@[simp] theorem dNe_s (a b : Int) : dNe (.int a) (.int b) = .ok (!decide (a = b)) := by
  unfold dNe; rw [dEq_s]; rfl
theorem toPys_il : ∀ ns : List Int, toPys (il ns) = some (ns.map PyData.int)
  | [] => by simp [toPys]
  | n :: ns => by
    show toPys (D.int n :: il ns) = _
    rw [toPys, toPy, toPys_il ns]; rfl
theorem canLayAll_il : ∀ ns : List Int, PyData.canLayAll0 (ns.map PyData.int) = true
  | [] => by simp [PyData.canLayAll0]
  | n :: ns => by simp [PyData.canLayAll0, PyData.canLay0, canLayAll_il ns]
theorem depthAll_il : ∀ ns : List Int, PyData.depthAll (ns.map PyData.int) = 0
  | [] => by simp [PyData.depthAll]
  | n :: ns => by simp [PyData.depthAll, PyData.depth, depthAll_il ns]
theorem shaped_il (ns : List Int) : SeqAt.shaped (.list (ns.map PyData.int)) = true := by
  simp [SeqAt.shaped, PyData.canLay0, PyData.depth, canLayAll_il, depthAll_il]
theorem shaped_it (ns : List Int) : SeqAt.shaped (.tuple (ns.map PyData.int)) = true := by
  simp [SeqAt.shaped, PyData.canLay0, PyData.depth, canLayAll_il, depthAll_il]
theorem eqvAll_il : ∀ a b : List Int, PyData.eqvAll (a.map PyData.int) (b.map PyData.int) = decide (a = b)
  | [], [] => by simp [PyData.eqvAll]
  | [], b :: bs => by simp [PyData.eqvAll]
  | a :: as, [] => by simp [PyData.eqvAll]
  | a :: as, b :: bs => by
    simp only [List.map_cons, PyData.eqvAll, eqv_int, eqvAll_il as bs]
    by_cases h : a = b <;> by_cases h2 : as = bs <;> simp [h, h2]
theorem dEq_il (a b : List Int) : dEq (.lst (il a)) (.lst (il b)) = .ok (decide (a = b)) := by
  unfold dEq
  simp only [toPy, toPys_il, Option.map_some, shaped_il, and_self, if_true, PyData.eqv, eqvAll_il]
theorem dEq_it (a b : List Int) : dEq (.tup (il a)) (.tup (il b)) = .ok (decide (a = b)) := by
  unfold dEq
  simp only [toPy, toPys_il, Option.map_some, shaped_it, and_self, if_true, PyData.eqv, eqvAll_il]
theorem dNe_il (a b : List Int) : dNe (.lst (il a)) (.lst (il b)) = .ok (!decide (a = b)) := by
  unfold dNe; rw [dEq_il]; rfl
theorem dNe_it (a b : List Int) : dNe (.tup (il a)) (.tup (il b)) = .ok (!decide (a = b)) := by
  unfold dNe; rw [dEq_it]; rfl
theorem intsOf_il (ns : List Int) : intsOf (il ns) = some ns := intsOf_map ns
theorem dIn_il (i : Int) (ns : List Int) : dIn (.int i) (.lst (il ns)) = .ok (decide (i ∈ ns)) := by
  unfold dIn
  simp only [isInt, itemsOf, Option.bind_some, intsOf_il]
theorem dNotIn_il (i : Int) (ns : List Int) : dNotIn (.int i) (.lst (il ns)) = .ok (!decide (i ∈ ns)) := by
  unfold dNotIn; rw [dIn_il]; rfl
theorem dIn_it (i : Int) (ns : List Int) : dIn (.int i) (.tup (il ns)) = .ok (decide (i ∈ ns)) := by
  unfold dIn
  simp only [isInt, itemsOf, Option.bind_some, intsOf_il]
theorem dNotIn_it (i : Int) (ns : List Int) : dNotIn (.int i) (.tup (il ns)) = .ok (!decide (i ∈ ns)) := by
  unfold dNotIn; rw [dIn_it]; rfl
@[simp] theorem dSum_il (ns : List Int) : dSum (.lst (il ns)) = .ok (.int ns.sum) := by
  unfold dSum; simp only [itemsOf, Option.bind_some, intsOf_il]
@[simp] theorem dSum_it (ns : List Int) : dSum (.tup (il ns)) = .ok (.int ns.sum) := by
  unfold dSum; simp only [itemsOf, Option.bind_some, intsOf_il]
theorem dMax_ex {d : D} {ns : List Int} (h : itemsOf d = some (il ns)) (h0 : ns ≠ []) : ∃ m : Int, dMax d = .ok (.int m) ∧ m ∈ ns ∧ ∀ y ∈ ns, y ≤ m := by
  cases ns with
  | nil => exact absurd rfl h0
  | cons n ns =>
    have key : ∀ (ns : List Int) (n : Int), (ns.foldl max n ∈ n :: ns) ∧ ∀ y ∈ n :: ns, y ≤ ns.foldl max n := by
      intro ns
      induction ns with
      | nil => intro n; simp
      | cons k ns ih =>
        intro n
        obtain ⟨i1, i2⟩ := ih (max n k)
        rw [List.foldl_cons]
        refine ⟨?_, fun y hy => ?_⟩
        · rcases List.mem_cons.mp i1 with e | e
          · rw [e]
            by_cases c : n ≤ k
            · rw [Int.max_eq_right c]; simp
            · rw [Int.max_eq_left (by omega)]; simp
          · simp [e]
        · have i3 := i2 (max n k) List.mem_cons_self
          rcases List.mem_cons.mp hy with e | hy
          · omega
          · rcases List.mem_cons.mp hy with e | hy
            · omega
            · exact i2 y (List.mem_cons_of_mem _ hy)
    obtain ⟨k1, k2⟩ := key ns n
    exact ⟨_, by unfold dMax; simp only [h, Option.bind_some, intsOf_il], k1, k2⟩
theorem dMin_ex {d : D} {ns : List Int} (h : itemsOf d = some (il ns)) (h0 : ns ≠ []) : ∃ m : Int, dMin d = .ok (.int m) ∧ m ∈ ns ∧ ∀ y ∈ ns, m ≤ y := by
  cases ns with
  | nil => exact absurd rfl h0
  | cons n ns =>
    have key : ∀ (ns : List Int) (n : Int), (ns.foldl min n ∈ n :: ns) ∧ ∀ y ∈ n :: ns, ns.foldl min n ≤ y := by
      intro ns
      induction ns with
      | nil => intro n; simp
      | cons k ns ih =>
        intro n
        obtain ⟨i1, i2⟩ := ih (min n k)
        rw [List.foldl_cons]
        refine ⟨?_, fun y hy => ?_⟩
        · rcases List.mem_cons.mp i1 with e | e
          · rw [e]
            by_cases c : n ≤ k
            · rw [Int.min_eq_left c]; simp
            · rw [Int.min_eq_right (by omega)]; simp
          · simp [e]
        · have i3 := i2 (min n k) List.mem_cons_self
          rcases List.mem_cons.mp hy with e | hy
          · omega
          · rcases List.mem_cons.mp hy with e | hy
            · omega
            · exact i2 y (List.mem_cons_of_mem _ hy)
    obtain ⟨k1, k2⟩ := key ns n
    exact ⟨_, by unfold dMin; simp only [h, Option.bind_some, intsOf_il], k1, k2⟩
theorem dSorted_il (ns : List Int) : dSortedG (.lst (il ns)) = .ok (.lst (il (sortI ns))) := by
  unfold dSortedG; simp only [itemsOf, Option.bind_some, intsOf_il]
theorem dSorted_it (ns : List Int) : dSortedG (.tup (il ns)) = .ok (.lst (il (sortI ns))) := by
  unfold dSortedG; simp only [itemsOf, Option.bind_some, intsOf_il]
theorem dAdd_tt {a b : List D} (h : a.length + b.length ≤ 1000) : dAdd (.tup a) (.tup b) = .ok (.tup (a ++ b)) := if_pos (by rw [sizeLine_eq]; omega)
theorem dAdd_ll {a b : List D} (h : a.length + b.length ≤ 1000) : dAdd (.lst a) (.lst b) = .ok (.lst (a ++ b)) := if_pos (by rw [sizeLine_eq]; omega)
theorem dSet_s {xs : List D} {j : Int} {d : D} (h0 : 0 ≤ j) (h : j < xs.length) : dSet xs (.int j) d = .ok (.lst (xs.set j.toNat d)) := by
  have e : ixN xs.length j = some j.toNat := by
    unfold ixN
    rw [if_pos h0, if_pos h]
  unfold dSet
  simp only [e]
@[simp] theorem plain_int (i : Int) : plain (.int i) = .ok (.int i) := (Eq.refl _).trans (Eq.refl _)
@[simp] theorem dRngL1_s {n : Int} (h0 : 0 ≤ n) (h : n ≤ 16777216) : dRngL1 (.int n) = .ok (.lst (rngD 0 1 n.toNat)) := if_pos ⟨h0, h⟩
theorem dRng2_s {m n : Int} (h0 : -1000000 ≤ m) (h1 : m ≤ 1000000) (h2 : -1000000 ≤ n) (h3 : n ≤ 1000000) : dRng2 [.int m, .int n] = .ok (rngD m 1 (n - m).toNat) := if_pos ⟨by unfold inR; omega, by unfold inR; omega⟩
theorem dRng3_s {m n : Int} (h0 : -1000000 ≤ m) (h1 : m ≤ 1000000) (h2 : -1000000 ≤ n) (h3 : n ≤ 1000000) : dRng3 [.int m, .int n, .int (-1)] = .ok (rngD m (-1) (m - n).toNat) := if_pos ⟨by unfold inR; omega, by unfold inR; omega, rfl⟩
theorem cutD_f1 (x : D) (xs : List D) : cutD (x :: xs) (some 1) none = xs := by
  unfold cutD
  have e : HT.sIx (x :: xs).length 0 (some 1) = 1 := by
    show (if (1 : Int) < 0 then ((1 : Int) + ((x :: xs).length : Int)).toNat else min (1 : Int).toNat (x :: xs).length) = 1
    rw [if_neg (by decide)]
    simp
  rw [HT.sIx_none, e]
  show List.take ((x :: xs).length - 1) xs = xs
  rw [List.length_cons, Nat.add_sub_cancel, List.take_length]
@[simp] theorem flat_il (ns : List Int) : flat (.lst (il ns)) = .ok (.lst (il ns)) := by
  unfold flat; simp only [intsOf_il]
/-! ### subscripts -/
theorem dIx_get {xs : List D} {i : Int} {d : D} (h0 : 0 ≤ i) (h : xs[i.toNat]? = some d) : dIx (.lst xs) (.int i) = .ok d := by
  have e : atI xs i = some d := by
    have := L2.atI_nat h
    rwa [Int.toNat_of_nonneg h0] at this
  unfold dIx; simp only [e]
theorem dIx_getT {xs : List D} {i : Int} {d : D} (h0 : 0 ≤ i) (h : xs[i.toNat]? = some d) : dIx (.tup xs) (.int i) = .ok d := by
  have e : atI xs i = some d := by
    have := L2.atI_nat h
    rwa [Int.toNat_of_nonneg h0] at this
  unfold dIx; simp only [e]
theorem dIx_getS {xs : List D} {i : Int} {d : D} (h0 : 0 ≤ i) (h : xs[i.toNat]? = some d) : dIx (.scr xs) (.int i) = .ok d := by
  have e : atI xs i = some d := by
    have := L2.atI_nat h
    rwa [Int.toNat_of_nonneg h0] at this
  unfold dIx; simp only [e]
theorem dIx_il {ns : List Int} {i : Int} (h0 : 0 ≤ i) (h : i < ns.length) : dIx (.lst (il ns)) (.int i) = .ok (.int (ns[i.toNat]?.getD 0)) := by
  have hl : i.toNat < ns.length := by omega
  refine dIx_get h0 ?_
  rw [List.getElem?_map, List.getElem?_eq_getElem hl]; rfl
theorem dIx_it {ns : List Int} {i : Int} (h0 : 0 ≤ i) (h : i < ns.length) : dIx (.tup (il ns)) (.int i) = .ok (.int (ns[i.toNat]?.getD 0)) := by
  have hl : i.toNat < ns.length := by omega
  refine dIx_getT h0 ?_
  rw [List.getElem?_map, List.getElem?_eq_getElem hl]; rfl
/-! ### ranges, loops -/
theorem dRng1_s {n : Int} (h0 : 0 ≤ n) (h : n < 4611686018427387904) : dRng1 [.int n] = .ok (rngD 0 1 n.toNat) := if_pos ⟨by omega, by simpa using h⟩
theorem rngD_0 (lo c : Int) : rngD lo c 0 = [] := rfl
theorem rngD_succ (lo c : Int) (n : Nat) : rngD lo c (n + 1) = .int lo :: rngD (lo + c) c n := by
  unfold rngD
  rw [List.range_succ_eq_map, List.map_cons, List.map_map]
  congr 1
  · simp
  · refine List.map_congr_left fun i _ => ?_
    simp only [Function.comp]
    congr 1
    have : ((i.succ : Nat) : Int) * c = (i : Int) * c + c := by
      rw [Nat.succ_eq_add_one, Int.natCast_add, Int.add_mul]; simp
    rw [this]; omega
/-- a loop that always goes on -/
theorem forC_inv {S α : Type} (I : Nat → S → Prop) {ds : List D} {s : S} {body : D → S → (S → R α) → (S → R α) → R α} {after : S → R α}
    (h0 : I 0 s) (hb : ∀ i d s, ds[i]? = some d → I i s → ∃ s', I (i + 1) s' ∧ ∀ nx bk, body d s nx bk = nx s') : ∃ s', I ds.length s' ∧ forC ds s body after = after s' := by
  induction ds generalizing s I with
  | nil => exact ⟨s, h0, rfl⟩
  | cons d ds ih =>
    obtain ⟨s1, i1, e1⟩ := hb 0 d s rfl h0
    obtain ⟨s2, i2, e2⟩ := ih (fun i => I (i + 1)) i1 fun i d s hd hi => hb (i + 1) d s (by simpa using hd) hi
    refine ⟨s2, i2, ?_⟩
    show body d s (fun s' => forC ds s' body after) after = _
    rw [e1, e2]
theorem forC_P {S α : Type} (P : R α → Prop) (I : Nat → S → Prop) {ds : List D} {s : S} {body : D → S → (S → R α) → (S → R α) → R α} {after : S → R α}
    (h0 : I 0 s) (hb : ∀ i d s, ds[i]? = some d → I i s → ∃ s', I (i + 1) s' ∧ ∀ nx bk, body d s nx bk = nx s') (ha : ∀ s, I ds.length s → P (after s)) : P (forC ds s body after) := by
  obtain ⟨s', i, e⟩ := forC_inv I h0 hb
  rw [e]; exact ha s' i
theorem joinC_ex {f : (Unit → R D) → R D} {K : Unit → R D} {P : Int → Prop} (hK : ∃ r : Int, K () = .ok (.int r) ∧ P r) (hf : ∀ K' : Unit → R D, (∃ r : Int, K' () = .ok (.int r) ∧ P r) → ∃ r : Int, f K' = .ok (.int r) ∧ P r) : ∃ r : Int, joinC f K = .ok (.int r) ∧ P r := hf K hK
/-- a loop over ints that always goes on, as a fold -/
theorem forC_fold {S T α : Type} (st : T → S) (step : T → Int → T) (I : Nat → T → Prop) {ws : List Int} {s : T} {body : D → S → (S → R α) → (S → R α) → R α} {after : S → R α}
    (h0 : I ws.length s) (hb : ∀ k w s, w ∈ ws → I (k + 1) s → I k (step s w) ∧ ∀ nx bk, body (.int w) (st s) nx bk = nx (st (step s w))) : forC (il ws) (st s) body after = after (st (ws.foldl step s)) := by
  induction ws generalizing s with
  | nil => rfl
  | cons w ws ih =>
    obtain ⟨i1, e1⟩ := hb ws.length w s List.mem_cons_self h0
    show body (.int w) (st s) (fun s' => forC (il ws) s' body after) after = _
    rw [e1]
    exact ih i1 fun k w' s' hw' => hb k w' s' (List.mem_cons_of_mem _ hw')
/-- down to 0 -/
def downF {T : Type} (step : T → Nat → T) : Nat → T → T
  | 0, s => s
  | n + 1, s => downF step n (step s n)
theorem forC_down {S T α : Type} (st : T → S) (step : T → Nat → T) (I : Nat → T → Prop) {n : Nat} {s : T} {body : D → S → (S → R α) → (S → R α) → R α} {after : S → R α}
    (h0 : I n s) (hb : ∀ k s, k < n → I (k + 1) s → I k (step s k) ∧ ∀ nx bk, body (.int (k : Int)) (st s) nx bk = nx (st (step s k))) : forC (rngD ((n : Int) - 1) (-1) n) (st s) body after = after (st (downF step n s)) := by
  induction n generalizing s with
  | zero => rfl
  | succ n ih =>
    rw [rngD_succ]
    have e : ((n + 1 : Nat) : Int) - 1 = (n : Int) := by omega
    obtain ⟨i1, e1⟩ := hb n s (by omega) h0
    show body (.int (((n + 1 : Nat) : Int) - 1)) (st s) (fun s' => forC (rngD (((n + 1 : Nat) : Int) - 1 + -1) (-1) n) s' body after) after = _
    rw [e, e1]
    exact ih i1 fun k s hk => hb k s (by omega)
theorem compC_ints {lo c : Int} {n : Nat} {e : D → R D} (h : ∀ i : Nat, i < n → ∃ v : Int, e (.int (lo + (i : Int) * c)) = .ok (.int v)) : ∃ bs : List Int, compC (rngD lo c n) yes e = .ok (il bs) ∧ bs.length = n := by
  induction n generalizing lo with
  | zero => exact ⟨[], rfl, rfl⟩
  | succ n ih =>
    obtain ⟨v, hv⟩ := h 0 (by omega)
    obtain ⟨bs, h1, h2⟩ := ih (lo := lo + c) fun i hi => by
      obtain ⟨u, hu⟩ := h (i + 1) (by omega)
      refine ⟨u, ?_⟩
      rw [← hu]
      congr 2
      have : ((i + 1 : Nat) : Int) * c = (i : Int) * c + c := by rw [Int.natCast_add, Int.add_mul]; simp
      rw [this]; omega
    refine ⟨v :: bs, ?_, by rw [List.length_cons, h2]⟩
    rw [rngD_succ]
    have hv' : e (.int lo) = .ok (.int v) := by rw [← hv]; simp
    simp only [compC, yes, noEr_ok, R.bind_ok, if_true, hv', h1]
    rfl
theorem compC_il {ns : List Int} {e : D → R D} {f : Int → Int} (h : ∀ i, i ∈ ns → e (.int i) = .ok (.int (f i))) : compC (il ns) yes e = .ok (il (ns.map f)) := by
  induction ns with
  | nil => rfl
  | cons n ns ih =>
    have ih := ih fun i hi => h i (List.mem_cons_of_mem _ hi)
    show compC (.int n :: il ns) yes e = _
    simp only [compC, yes, noEr_ok, R.bind_ok, if_true, h n List.mem_cons_self, ih]
    rfl
theorem compC_map {ds : List D} {e : D → R D} {f : D → D} (h : ∀ d, d ∈ ds → e d = .ok (f d)) : compC ds yes e = .ok (ds.map f) := by
  induction ds with
  | nil => rfl
  | cons d ds ih =>
    simp only [compC, yes, noEr, R.bind_ok, if_true, h d List.mem_cons_self, List.map_cons]
    have := ih fun d hd => h d (List.mem_cons_of_mem _ hd)
    simp only [this, R.bind_ok]
theorem compC_filter {ds : List D} {c : D → R Bool} {e : D → R D} {p : D → Bool} {f : D → D} (hc : ∀ d, d ∈ ds → c d = .ok (p d)) (h : ∀ d, d ∈ ds → p d = true → e d = .ok (f d)) : compC ds c e = .ok ((ds.filter p).map f) := by
  induction ds with
  | nil => rfl
  | cons d ds ih =>
    have ih := ih (fun d hd => hc d (List.mem_cons_of_mem _ hd)) fun d hd => h d (List.mem_cons_of_mem _ hd)
    simp only [compC, hc d List.mem_cons_self, noEr_ok, R.bind_ok]
    cases hp : p d with
    | true => simp only [if_true, h d List.mem_cons_self hp, noEr_ok, R.bind_ok, ih, List.filter_cons, hp, List.map_cons]
    | false => simp [ih, List.filter_cons, hp]
/-! ### slices -/
theorem cutD_all (xs : List D) : cutD xs none none = xs := by
  unfold cutD
  rw [HT.sIx_none, HT.sIx_none]; simp
theorem cutD_to1 (xs : List D) : cutD xs none (some (-1)) = xs.take (xs.length - 1) := by
  unfold cutD
  have e : HT.sIx xs.length xs.length (some (-1)) = xs.length - 1 := by
    show (if (-1 : Int) < 0 then ((-1 : Int) + (xs.length : Int)).toNat else min (-1 : Int).toNat xs.length) = _
    rw [if_pos (by decide)]; omega
  rw [HT.sIx_none, e]; simp
theorem cutD_from1 (xs : List D) : cutD xs (some (-1)) none = xs.drop (xs.length - 1) := by
  unfold cutD
  have e : HT.sIx xs.length 0 (some (-1)) = xs.length - 1 := by
    show (if (-1 : Int) < 0 then ((-1 : Int) + (xs.length : Int)).toNat else min (-1 : Int).toNat xs.length) = _
    rw [if_pos (by decide)]; omega
  rw [HT.sIx_none, e, List.take_of_length_le (by rw [List.length_drop]; omega)]
theorem il_take (ns : List Int) (n : Nat) : (il ns).take n = il (ns.take n) := (List.map_take ..).symm
theorem il_drop (ns : List Int) (n : Nat) : (il ns).drop n = il (ns.drop n) := (List.map_drop ..).symm
theorem il_len (ns : List Int) : (il ns).length = ns.length := List.length_map ..
theorem il_app (a b : List Int) : il a ++ il b = il (a ++ b) := (List.map_append ..).symm
theorem il_snoc (a : List Int) (b : Int) : il a ++ [D.int b] = il (a ++ [b]) := by simp [il]
end Um

namespace Um
open L2 PySem PySem.Spec PyProof.Rows

/-! ## Rows: tuples of ints; their order, sorted -/
abbrev tl (xs : List Int) : D := .tup (il xs)
abbrev rows (st : List (List Int)) : List D := st.map tl
def ltR : List Int → List Int → Bool
  | [], [] => false
  | [], _ :: _ => true
  | _ :: _, [] => false
  | a :: as, b :: bs => decide (a < b) || (!decide (b < a) && ltR as bs)
def leR (a b : List Int) : Bool := !ltR b a
theorem ltR_cons (a b : Int) (as bs : List Int) : ltR (a :: as) (b :: bs) = (decide (a < b) || (!decide (b < a) && ltR as bs)) := rfl
theorem leR_anti : ∀ {a b : List Int}, leR a b = true → leR b a = true → a = b
  | [], [], _, _ => rfl
  | [], b :: bs, _, h => by simp [leR, ltR] at h
  | a :: as, [], h, _ => by simp [leR, ltR] at h
  | a :: as, b :: bs, h1, h2 => by
    unfold leR at h1 h2
    rw [ltR_cons] at h1 h2
    simp only [Bool.not_eq_true', Bool.or_eq_false_iff, decide_eq_false_iff_not, Bool.and_eq_false_iff, Bool.not_eq_false'] at h1 h2
    obtain ⟨p1, p2⟩ := h1
    obtain ⟨q1, q2⟩ := h2
    have e : a = b := by omega
    subst e
    have r1 : ltR bs as = false := by
      rcases p2 with p | p
      · exact absurd (of_decide_eq_true p) (by omega)
      · exact p
    have r2 : ltR as bs = false := by
      rcases q2 with p | p
      · exact absurd (of_decide_eq_true p) (by omega)
      · exact p
    rw [leR_anti (a := as) (b := bs) (by unfold leR; rw [r1]; rfl) (by unfold leR; rw [r2]; rfl)]
theorem leR_nil (a : List Int) : leR [] a = true := by cases a <;> rfl
def pyR (x : List Int) : PyData := .tuple (x.map PyData.int)
theorem toks_int (n : Int) : PySem.W.keyToks (.int n) = [.inl n] := by simp [PySem.W.keyToks]
theorem toks_R : ∀ a b : List Int, PyProof.Rows.lexLt itemOrd (PySem.W.keyToksAll (a.map PyData.int)) (PySem.W.keyToksAll (b.map PyData.int)) = ltR a b
  | [], [] => by simp [PySem.W.keyToksAll, PyProof.Rows.lexLt, itemLt, ltR]
  | [], b :: bs => by simp [PySem.W.keyToksAll, PyProof.Rows.lexLt, itemLt, ltR]
  | a :: as, [] => by simp [PySem.W.keyToksAll, PyProof.Rows.lexLt, itemLt, ltR]
  | a :: as, b :: bs => by
    have ih := toks_R as bs
    simp only [List.map_cons, PySem.W.keyToksAll, toks_int, List.cons_append, List.nil_append]
    rw [ltR_cons, ← ih]
    simp [PyProof.Rows.lexLt, itemLt]
theorem leR_key (a b : List Int) : leR a b = PySem.W.sortLe (listOrd itemOrd) false (fun x : D × PyData => PySem.W.keyToks x.2) (tl a, pyR a) (tl b, pyR b) := by
  unfold leR PySem.W.sortLe
  show _ = !(PyProof.Rows.lexLt itemOrd (PySem.W.keyToks (pyR b)) (PySem.W.keyToks (pyR a)))
  unfold pyR
  simp only [PySem.W.keyToks]
  rw [toks_R]
def sortR (st : List (List Int)) : List (List Int) := st.mergeSort leR
theorem toPys_rows : ∀ st : List (List Int), toPys (rows st) = some (st.map pyR)
  | [] => by simp [toPys]
  | x :: st => by
    show toPys (tl x :: rows st) = _
    rw [toPys, toPys_rows st]
    simp only [toPy, toPys_il]
    rfl
theorem alikeAll_ints : ∀ a b : List Int, PySem.W.alikeAll (a.map PyData.int) (b.map PyData.int) = true
  | [], b => by simp [PySem.W.alikeAll]
  | a :: as, [] => by simp [PySem.W.alikeAll]
  | a :: as, b :: bs => by simp [PySem.W.alikeAll, PySem.W.alike, alikeAll_ints as bs]
theorem sortOk_rows (st : List (List Int)) : sortOk (st.map pyR) = true := by
  unfold sortOk
  simp only [Bool.and_eq_true, Bool.or_eq_true, List.all_eq_true]
  refine ⟨fun d hd d' hd' => ?_, .inl fun d hd => ?_⟩
  · obtain ⟨x, _, rfl⟩ := List.mem_map.mp hd
    obtain ⟨y, _, rfl⟩ := List.mem_map.mp hd'
    unfold pyR
    simp only [PySem.W.alike]
    exact alikeAll_ints x y
  · obtain ⟨x, _, rfl⟩ := List.mem_map.mp hd
    rfl
theorem shallow_rows (st : List (List Int)) : shallow (st.map pyR) = true := by
  unfold shallow
  rw [List.all_eq_true]
  intro d hd
  obtain ⟨x, _, rfl⟩ := List.mem_map.mp hd
  unfold pyR
  simp [PyData.depth, depth_ints]
theorem zip_map2 {α β γ : Type} (f : α → β) (g : α → γ) : ∀ l : List α, (l.map f).zip (l.map g) = l.map fun x => (f x, g x)
  | [] => rfl
  | x :: l => by simp [zip_map2 f g l]
theorem sortVP_rows (st : List (List Int)) : (sortVP false ((rows st).zip (st.map pyR))).map (·.1) = rows (sortR st) := by
  rw [zip_map2 tl pyR st]
  unfold sortVP
  rw [← PySem.W.sort_maps (r := leR) (fun x => (tl x, pyR x)) fun a _ b _ => leR_key a b]
  rw [List.map_map]
  rfl
theorem intsOf_rows (x : List Int) (st : List (List Int)) : intsOf (rows (x :: st)) = none := rfl
theorem dSorted_rows (st : List (List Int)) : dSortedG (.lst (rows st)) = .ok (.lst (rows (sortR st))) := by
  unfold dSortedG
  cases st with
  | nil =>
    have e : sortR [] = [] := List.mergeSort_nil
    rw [e]; rfl
  | cons x st =>
    simp only [itemsOf, Option.bind_some, intsOf_rows, toPys_rows, sortOk_rows, shallow_rows, and_self, if_true, sortVP_rows]
theorem dSorted_rowsT (st : List (List Int)) : dSortedG (.tup (rows st)) = .ok (.lst (rows (sortR st))) := by
  unfold dSortedG
  cases st with
  | nil =>
    have e : sortR [] = [] := List.mergeSort_nil
    rw [e]; rfl
  | cons x st =>
    simp only [itemsOf, Option.bind_some, intsOf_rows, toPys_rows, sortOk_rows, shallow_rows, and_self, if_true, sortVP_rows]
theorem leR_total : PySem.W.TotalLe leR := by
  have h := PySem.W.sortLe_total (listOrd itemOrd) false (fun x : D × PyData => PySem.W.keyToks x.2)
  refine ⟨fun a b c => ?_, fun a b => ?_⟩
  · rw [leR_key, leR_key, leR_key]; exact h.trans _ _ _
  · rw [leR_key, leR_key]; exact h.total _ _
theorem sortR_perm (st : List (List Int)) : (sortR st).Perm st := List.mergeSort_perm _ _
theorem sortR_sorted (st : List (List Int)) : (sortR st).Pairwise (fun a b => leR a b = true) := PySem.W.sort_pairwise leR_total st
theorem sortR_unique {a b : List (List Int)} (p : a.Perm b) (h : a.Pairwise (fun a b => leR a b = true)) : a = sortR b :=
  List.Perm.eq_of_pairwise (fun x y _ _ h1 h2 => leR_anti h1 h2) h (sortR_sorted b) (p.trans (sortR_perm b).symm)
theorem sortR_cong {a b : List (List Int)} (p : a.Perm b) : sortR a = sortR b := sortR_unique ((sortR_perm a).trans p) (sortR_sorted a)
theorem sortR_nil_cons (st : List (List Int)) : sortR ([] :: st) = [] :: sortR st :=
  (sortR_unique (List.Perm.cons _ (sortR_perm st)) (List.pairwise_cons.mpr ⟨fun a _ => leR_nil a, sortR_sorted st⟩)).symm
end Um

namespace Um
open L2 PySem PySem.Spec PyProof.Rows

/-! ## Loops over typed items -/
theorem forC_map {α S T β : Type} (emb : α → D) (st : T → S) (step : T → α → T) {xs : List α} {s : T} {body : D → S → (S → R β) → (S → R β) → R β} {after : S → R β}
    (hb : ∀ x, x ∈ xs → ∀ s nx bk, body (emb x) (st s) nx bk = nx (st (step s x))) : forC (xs.map emb) (st s) body after = after (st (xs.foldl step s)) := by
  induction xs generalizing s with
  | nil => rfl
  | cons x xs ih =>
    show body (emb x) (st s) (fun s' => forC (xs.map emb) s' body after) after = _
    rw [hb x List.mem_cons_self]
    exact ih fun y hy => hb y (List.mem_cons_of_mem _ hy)
theorem forC_mapI {α S T β : Type} (emb : α → D) (st : T → S) (step : T → α → T) (I : T → Prop) {xs : List α} {s : T} {body : D → S → (S → R β) → (S → R β) → R β} {after : S → R β}
    (h0 : I s) (hb : ∀ x, x ∈ xs → ∀ s, I s → I (step s x) ∧ ∀ nx bk, body (emb x) (st s) nx bk = nx (st (step s x))) : forC (xs.map emb) (st s) body after = after (st (xs.foldl step s)) ∧ I (xs.foldl step s) := by
  induction xs generalizing s with
  | nil => exact ⟨rfl, h0⟩
  | cons x xs ih =>
    obtain ⟨i1, e1⟩ := hb x List.mem_cons_self s h0
    obtain ⟨a, b⟩ := ih i1 fun y hy => hb y (List.mem_cons_of_mem _ hy)
    refine ⟨?_, b⟩
    show body (emb x) (st s) (fun s' => forC (xs.map emb) s' body after) after = _
    rw [e1]
    exact a
theorem forC_app {S β : Type} : ∀ (ds es : List D) (s : S) (body : D → S → (S → R β) → (S → R β) → R β) (after : S → R β), (∀ d s nx bk bk', body d s nx bk = body d s nx bk') → forC (ds ++ es) s body after = forC ds s body fun s' => forC es s' body after
  | [], es, s, body, after, _ => rfl
  | d :: ds, es, s, body, after, hb => by
    show body d s (fun s' => forC (ds ++ es) s' body after) after = body d s (fun s' => forC ds s' body fun s'' => forC es s'' body after) (fun s' => forC es s' body after)
    rw [hb d s _ after (fun s' => forC es s' body after)]
    congr 1
    funext s'
    exact forC_app ds es s' body after hb
/-- a loop over range(n), its state told by the turn's number -/
theorem forC_rng {S β : Type} (J : Nat → S) {n : Nat} {body : D → S → (S → R β) → (S → R β) → R β} {after : S → R β}
    (hb : ∀ i, i < n → ∀ nx bk, body (.int (i : Int)) (J i) nx bk = nx (J (i + 1))) : forC (rngD 0 1 n) (J 0) body after = after (J n) := by
  have key : ∀ (m k : Nat) , k + m = n → forC (rngD (k : Int) 1 m) (J k) body after = after (J n) := by
    intro m
    induction m with
    | zero => intro k h; rw [rngD_0]; subst h; rfl
    | succ m ih =>
      intro k h
      rw [rngD_succ]
      show body (.int (k : Int)) (J k) (fun s' => forC (rngD ((k : Int) + 1) 1 m) s' body after) after = _
      rw [hb k (by omega)]
      exact ih (k + 1) (by omega)
  exact key n 0 (by omega)
theorem tup1 : D.tup [D.int (-1)] = tl [-1] := rfl
theorem tup0 : D.tup [] = tl [] := rfl
/-- a loop without a state that ends early -/
theorem forC_find {α β : Type} (emb : α → D) (p : α → Bool) {r : R β} {xs : List α} {body : D → Unit → (Unit → R β) → (Unit → R β) → R β} {after : Unit → R β}
    (hb : ∀ x, x ∈ xs → ∀ nx bk, body (emb x) () nx bk = if p x = true then r else nx ()) : forC (xs.map emb) () body after = if xs.any p = true then r else after () := by
  induction xs with
  | nil => rfl
  | cons x xs ih =>
    show body (emb x) () (fun s' => forC (xs.map emb) s' body after) after = _
    rw [hb x List.mem_cons_self, List.any_cons]
    cases p x with
    | true => rfl
    | false => simpa using ih fun y hy => hb y (List.mem_cons_of_mem _ hy)
/-- a loop that always goes on and keeps nothing -/
theorem forC_all {α β : Type} (emb : α → D) {xs : List α} {body : D → Unit → (Unit → R β) → (Unit → R β) → R β} {after : Unit → R β}
    (hb : ∀ x, x ∈ xs → ∀ nx bk, body (emb x) () nx bk = nx ()) : forC (xs.map emb) () body after = after () := by
  rw [forC_find emb (fun _ => false) (r := .bad) fun x hx nx bk => by rw [hb x hx]; rfl]
  simp
theorem compC_t {α β : Type} (emb : α → D) (emb' : β → D) (p : α → Bool) (f : α → β) {xs : List α} {c : D → R Bool} {e : D → R D} (hc : ∀ x, x ∈ xs → c (emb x) = .ok (p x)) (he : ∀ x, x ∈ xs → p x = true → e (emb x) = .ok (emb' (f x))) :
    compC (xs.map emb) c e = .ok (((xs.filter p).map f).map emb') := by
  induction xs with
  | nil => rfl
  | cons x xs ih =>
    have ih := ih (fun d hd => hc d (List.mem_cons_of_mem _ hd)) fun d hd => he d (List.mem_cons_of_mem _ hd)
    simp only [List.map_cons, compC, hc x List.mem_cons_self, noEr_ok, R.bind_ok]
    cases hp : p x with
    | true => simp only [if_true, he x List.mem_cons_self hp, noEr_ok, R.bind_ok, ih, List.filter_cons, hp, List.map_cons]
    | false => simp [ih, List.filter_cons, hp]
theorem compC_ty {α β : Type} (emb : α → D) (emb' : β → D) (f : α → β) {xs : List α} {e : D → R D} (he : ∀ x, x ∈ xs → e (emb x) = .ok (emb' (f x))) :
    compC (xs.map emb) yes e = .ok ((xs.map f).map emb') := by
  have := compC_t emb emb' (fun _ => true) f (xs := xs) (c := yes) (e := e) (fun x _ => rfl) fun x hx _ => he x hx
  rw [this, List.filter_eq_self.mpr (fun _ _ => rfl)]
def rangeI (n : Nat) : List Int := (List.range n).map fun i : Nat => (i : Int)
theorem rng_il (n : Nat) : rngD 0 1 n = il (rangeI n) := by
  unfold rngD rangeI il
  rw [List.map_map]
  refine List.map_congr_left fun i _ => ?_
  show D.int (0 + (i : Int) * 1) = D.int (i : Int)
  congr 1; omega
theorem mem_rangeI {n : Nat} {c : Int} : c ∈ rangeI n ↔ 0 ≤ c ∧ c < n := by
  unfold rangeI
  rw [List.mem_map]
  refine ⟨?_, fun ⟨h0, h1⟩ => ⟨c.toNat, List.mem_range.mpr (by omega), by omega⟩⟩
  rintro ⟨i, hi, rfl⟩
  rw [List.mem_range] at hi
  omega
theorem rangeI_len (n : Nat) : (rangeI n).length = n := by unfold rangeI; rw [List.length_map, List.length_range]
theorem rangeI_succ (n : Nat) : rangeI (n + 1) = rangeI n ++ [(n : Int)] := by
  unfold rangeI; rw [List.range_succ, List.map_append]; rfl
/-! ## Items, greatest, least -/
def gI (bs : List Int) (c : Int) : Int := bs[c.toNat]?.getD 0
theorem gI_ix {bs : List Int} {c : Int} (h0 : 0 ≤ c) (h : c < bs.length) : dIx (.lst (il bs)) (.int c) = .ok (.int (gI bs c)) := dIx_il h0 h
theorem gI_ixT {bs : List Int} {c : Int} (h0 : 0 ≤ c) (h : c < bs.length) : dIx (tl bs) (.int c) = .ok (.int (gI bs c)) := dIx_it h0 h
theorem gI_mem {bs : List Int} {c : Int} (h0 : 0 ≤ c) (h : c < bs.length) : gI bs c ∈ bs := by
  unfold gI
  have hl : c.toNat < bs.length := by omega
  rw [List.getElem?_eq_getElem hl]
  exact List.getElem_mem hl
def maxF : List Int → Int
  | [] => 0
  | b :: bs => bs.foldl max b
def minF : List Int → Int
  | [] => 0
  | b :: bs => bs.foldl min b
theorem maxF_dl {bs : List Int} (h : bs ≠ []) : dMax (.lst (il bs)) = .ok (.int (maxF bs)) := by
  cases bs with
  | nil => exact absurd rfl h
  | cons b bs => unfold dMax; simp only [itemsOf, Option.bind_some, intsOf_il]; rfl
theorem maxF_dt {bs : List Int} (h : bs ≠ []) : dMax (tl bs) = .ok (.int (maxF bs)) := by
  cases bs with
  | nil => exact absurd rfl h
  | cons b bs => unfold dMax; simp only [itemsOf, Option.bind_some, intsOf_il]; rfl
theorem minF_dl {bs : List Int} (h : bs ≠ []) : dMin (.lst (il bs)) = .ok (.int (minF bs)) := by
  cases bs with
  | nil => exact absurd rfl h
  | cons b bs => unfold dMin; simp only [itemsOf, Option.bind_some, intsOf_il]; rfl
theorem minF_dt {bs : List Int} (h : bs ≠ []) : dMin (tl bs) = .ok (.int (minF bs)) := by
  cases bs with
  | nil => exact absurd rfl h
  | cons b bs => unfold dMin; simp only [itemsOf, Option.bind_some, intsOf_il]; rfl
theorem foldl_max_ge : ∀ (bs : List Int) (b : Int), b ≤ bs.foldl max b ∧ ∀ y ∈ bs, y ≤ bs.foldl max b
  | [], b => ⟨Int.le_refl _, by simp⟩
  | c :: bs, b => by
    obtain ⟨h1, h2⟩ := foldl_max_ge bs (max b c)
    rw [List.foldl_cons]
    refine ⟨by omega, fun y hy => ?_⟩
    rcases List.mem_cons.mp hy with e | hy
    · subst e; omega
    · exact h2 y hy
theorem foldl_max_mem : ∀ (bs : List Int) (b : Int), bs.foldl max b = b ∨ bs.foldl max b ∈ bs
  | [], b => .inl rfl
  | c :: bs, b => by
    rw [List.foldl_cons]
    rcases foldl_max_mem bs (max b c) with h | h
    · rw [h]
      by_cases hc : b ≤ c
      · rw [Int.max_eq_right hc]; exact .inr List.mem_cons_self
      · rw [Int.max_eq_left (by omega)]; exact .inl rfl
    · exact .inr (List.mem_cons_of_mem _ h)
theorem maxF_ge {bs : List Int} {y : Int} (h : y ∈ bs) : y ≤ maxF bs := by
  cases bs with
  | nil => exact absurd h (by simp)
  | cons b bs =>
    obtain ⟨h1, h2⟩ := foldl_max_ge bs b
    rcases List.mem_cons.mp h with e | h
    · subst e; exact h1
    · exact h2 y h
theorem maxF_mem {bs : List Int} (h : bs ≠ []) : maxF bs ∈ bs := by
  cases bs with
  | nil => exact absurd rfl h
  | cons b bs =>
    rcases foldl_max_mem bs b with h | h
    · show bs.foldl max b ∈ _; rw [h]; exact List.mem_cons_self
    · exact List.mem_cons_of_mem _ h
theorem foldl_min_le : ∀ (bs : List Int) (b : Int), bs.foldl min b ≤ b ∧ ∀ y ∈ bs, bs.foldl min b ≤ y
  | [], b => ⟨Int.le_refl _, by simp⟩
  | c :: bs, b => by
    obtain ⟨h1, h2⟩ := foldl_min_le bs (min b c)
    rw [List.foldl_cons]
    refine ⟨by omega, fun y hy => ?_⟩
    rcases List.mem_cons.mp hy with e | hy
    · subst e; omega
    · exact h2 y hy
theorem foldl_min_mem : ∀ (bs : List Int) (b : Int), bs.foldl min b = b ∨ bs.foldl min b ∈ bs
  | [], b => .inl rfl
  | c :: bs, b => by
    rw [List.foldl_cons]
    rcases foldl_min_mem bs (min b c) with h | h
    · rw [h]
      by_cases hc : b ≤ c
      · rw [Int.min_eq_left hc]; exact .inl rfl
      · rw [Int.min_eq_right (by omega)]; exact .inr List.mem_cons_self
    · exact .inr (List.mem_cons_of_mem _ h)
theorem minF_le {bs : List Int} {y : Int} (h : y ∈ bs) : minF bs ≤ y := by
  cases bs with
  | nil => exact absurd h (by simp)
  | cons b bs =>
    obtain ⟨h1, h2⟩ := foldl_min_le bs b
    rcases List.mem_cons.mp h with e | h
    · subst e; exact h1
    · exact h2 y h
theorem minF_mem {bs : List Int} (h : bs ≠ []) : minF bs ∈ bs := by
  cases bs with
  | nil => exact absurd rfl h
  | cons b bs =>
    rcases foldl_min_mem bs b with h | h
    · show bs.foldl min b ∈ _; rw [h]; exact List.mem_cons_self
    · exact List.mem_cons_of_mem _ h
theorem foldl_max_eq (bs : List Int) (b m : Int) (h1 : b ≤ m) (h2 : ∀ y ∈ bs, y ≤ m) (h3 : m = b ∨ m ∈ bs) : bs.foldl max b = m := by
  obtain ⟨g1, g2⟩ := foldl_max_ge bs b
  rcases foldl_max_mem bs b with e | e <;> rcases h3 with f | f
  · omega
  · have := g2 m f; omega
  · have := h2 _ e; omega
  · have := g2 m f; have := h2 _ e; omega
/-- the least of a start and of what a function gives -/
def minOver {α : Type} (f : α → Int) (a : Int) (l : List α) : Int := l.foldl (fun a x => min a (f x)) a
theorem minOver_le {α : Type} (f : α → Int) : ∀ (l : List α) (a : Int), minOver f a l ≤ a ∧ ∀ x ∈ l, minOver f a l ≤ f x
  | [], a => ⟨Int.le_refl _, by simp⟩
  | y :: l, a => by
    obtain ⟨h1, h2⟩ := minOver_le f l (min a (f y))
    show minOver f (min a (f y)) l ≤ a ∧ ∀ x ∈ y :: l, minOver f (min a (f y)) l ≤ f x
    refine ⟨by omega, fun x hx => ?_⟩
    rcases List.mem_cons.mp hx with e | hx
    · subst e; omega
    · exact h2 x hx
theorem minOver_mem {α : Type} (f : α → Int) : ∀ (l : List α) (a : Int), minOver f a l = a ∨ ∃ x ∈ l, minOver f a l = f x
  | [], a => .inl rfl
  | y :: l, a => by
    show minOver f (min a (f y)) l = a ∨ ∃ x ∈ y :: l, minOver f (min a (f y)) l = f x
    rcases minOver_mem f l (min a (f y)) with h | ⟨x, hx, h⟩
    · rw [h]
      by_cases hc : a ≤ f y
      · rw [Int.min_eq_left hc]; exact .inl rfl
      · rw [Int.min_eq_right (by omega)]; exact .inr ⟨y, List.mem_cons_self, rfl⟩
    · exact .inr ⟨x, List.mem_cons_of_mem _ hx, h⟩
theorem minOver_eq {α : Type} {f : α → Int} {l : List α} {a m : Int} (h1 : m ≤ a) (h2 : ∀ x ∈ l, m ≤ f x) (h3 : m = a ∨ ∃ x ∈ l, m = f x) : minOver f a l = m := by
  obtain ⟨g1, g2⟩ := minOver_le f l a
  rcases minOver_mem f l a with e | ⟨x, hx, e⟩
  · rcases h3 with e2 | ⟨y, hy, e2⟩
    · omega
    · have := g2 y hy; omega
  · have := h2 x hx
    rcases h3 with e2 | ⟨y, hy, e2⟩
    · omega
    · have := g2 y hy; omega
theorem minOver_mono {α : Type} {f g : α → Int} {l k : List α} {a b : Int} (hab : a ≤ b) (h : ∀ y ∈ k, ∃ x ∈ l, f x ≤ g y) : minOver f a l ≤ minOver g b k := by
  obtain ⟨g1, g2⟩ := minOver_le f l a
  rcases minOver_mem g k b with e | ⟨y, hy, e⟩
  · omega
  · obtain ⟨x, hx, hxy⟩ := h y hy
    have := g2 x hx
    omega
theorem minOver_cong {α : Type} {f g : α → Int} {l k : List α} (a : Int) (h1 : ∀ x ∈ l, ∃ y ∈ k, g y = f x) (h2 : ∀ y ∈ k, ∃ x ∈ l, f x = g y) : minOver f a l = minOver g a k := by
  have := minOver_mono (f := f) (g := g) (l := l) (k := k) (Int.le_refl a) fun y hy => by
    obtain ⟨x, hx, e⟩ := h2 y hy
    exact ⟨x, hx, by omega⟩
  have := minOver_mono (f := g) (g := f) (l := k) (k := l) (Int.le_refl a) fun x hx => by
    obtain ⟨y, hy, e⟩ := h1 x hx
    exact ⟨y, hy, by omega⟩
  omega
/-! ## Lots -/
def lotsU : Nat → List (List Int)
  | 0 => [[]]
  | n + 1 => lotsU n ++ (lotsU n).map (· ++ [(n : Int)])
theorem lotsU_len : ∀ n, (lotsU n).length = 2 ^ n
  | 0 => rfl
  | n + 1 => by
    show (lotsU n ++ (lotsU n).map (· ++ [(n : Int)])).length = _
    rw [List.length_append, List.length_map, lotsU_len n, Nat.pow_succ]; omega
theorem lotsU_cons : ∀ n, ∃ t, lotsU n = [] :: t ∧ ∀ l ∈ t, l ≠ []
  | 0 => ⟨[], rfl, by simp⟩
  | n + 1 => by
    obtain ⟨t, e, h⟩ := lotsU_cons n
    refine ⟨t ++ ([] :: t).map (· ++ [(n : Int)]), by rw [lotsU, e]; rfl, fun l hl => ?_⟩
    rcases List.mem_append.mp hl with hl | hl
    · exact h l hl
    · obtain ⟨l', _, rfl⟩ := List.mem_map.mp hl
      simp
/-- ascending cells -/
def Asc (n : Nat) (l : List Int) : Prop := (∀ c ∈ l, 0 ≤ c ∧ c < n) ∧ l.Pairwise (· < ·)
theorem mem_lotsU : ∀ {n : Nat} {l : List Int}, l ∈ lotsU n ↔ Asc n l
  | 0, l => by
    rw [lotsU, List.mem_singleton]
    refine ⟨fun e => by subst e; exact ⟨by simp, .nil⟩, fun ⟨h, _⟩ => ?_⟩
    cases l with
    | nil => rfl
    | cons c l => have := h c List.mem_cons_self; omega
  | n + 1, l => by
    rw [lotsU, List.mem_append]
    refine ⟨fun h => ?_, fun ⟨h1, h2⟩ => ?_⟩
    · rcases h with h | h
      · obtain ⟨h1, h2⟩ := mem_lotsU.mp h
        exact ⟨fun c hc => by have := h1 c hc; omega, h2⟩
      · obtain ⟨l', hl', rfl⟩ := List.mem_map.mp h
        obtain ⟨h1, h2⟩ := mem_lotsU.mp hl'
        refine ⟨fun c hc => ?_, ?_⟩
        · rcases List.mem_append.mp hc with hc | hc
          · have := h1 c hc; omega
          · rw [List.mem_singleton] at hc; omega
        · rw [List.pairwise_append]
          refine ⟨h2, List.pairwise_singleton _ _, fun a ha b hb => ?_⟩
          rw [List.mem_singleton] at hb
          have := h1 a ha; omega
    · by_cases hn : (n : Int) ∈ l
      · right
        rw [List.mem_map]
        -- n is the last one
        have key : ∀ {l : List Int}, (∀ c ∈ l, c ≤ n) → l.Pairwise (· < ·) → (n : Int) ∈ l → ∃ l', l = l' ++ [(n : Int)] := by
          intro l
          induction l with
          | nil => intro _ _ h; exact absurd h (by simp)
          | cons a l ih =>
            intro g1 g2 g3
            obtain ⟨p1, p2⟩ := List.pairwise_cons.mp g2
            rcases List.mem_cons.mp g3 with e | g3
            · subst e
              cases l with
              | nil => exact ⟨[], rfl⟩
              | cons b l =>
                have a1 := p1 b List.mem_cons_self
                have a2 := g1 b (List.mem_cons_of_mem _ List.mem_cons_self)
                omega
            · obtain ⟨l', e⟩ := ih (fun c hc => g1 c (List.mem_cons_of_mem _ hc)) p2 g3
              exact ⟨a :: l', by rw [e]; rfl⟩
        obtain ⟨l', rfl⟩ := key (fun c hc => by have := h1 c hc; omega) h2 hn
        refine ⟨l', mem_lotsU.mpr ⟨fun c hc => ?_, (List.pairwise_append.mp h2).1⟩, rfl⟩
        have a1 := h1 c (List.mem_append_left _ hc)
        have a2 := (List.pairwise_append.mp h2).2.2 c hc n (List.mem_singleton.mpr rfl)
        omega
      · left
        refine mem_lotsU.mpr ⟨fun c hc => ?_, h2⟩
        have a1 := h1 c hc
        have : c ≠ n := fun e => hn (e ▸ hc)
        omega
/-- the lots but the empty one -/
def lotsT (n : Nat) : List (List Int) := (lotsU n).tail
theorem mem_lotsT {n : Nat} {l : List Int} : l ∈ lotsT n ↔ Asc n l ∧ l ≠ [] := by
  obtain ⟨t, e, h⟩ := lotsU_cons n
  unfold lotsT
  refine ⟨fun hl => ⟨mem_lotsU.mp (List.mem_of_mem_tail hl), ?_⟩, fun ⟨ha, hn⟩ => ?_⟩
  · rw [e] at hl; exact h l hl
  · have := mem_lotsU.mpr ha
    rw [e] at this ⊢
    rcases List.mem_cons.mp this with z | z
    · exact absurd z hn
    · exact z
theorem lotsT_sort (n : Nat) : (sortR (lotsU n)).tail = sortR (lotsT n) := by
  obtain ⟨t, e, _⟩ := lotsU_cons n
  unfold lotsT
  rw [e, sortR_nil_cons]; rfl
theorem lotsT_len (n : Nat) : (lotsT n).length + 1 = 2 ^ n := by
  obtain ⟨t, e, _⟩ := lotsU_cons n
  have h := lotsU_len n
  unfold lotsT
  rw [e] at h ⊢
  simpa using h
theorem asc_len_from : ∀ {l : List Int} {a n : Int}, a ≤ n → (∀ c ∈ l, a ≤ c ∧ c < n) → l.Pairwise (· < ·) → (l.length : Int) ≤ n - a
  | [], a, n, h, _, _ => by simp; omega
  | c :: l, a, n, h, h1, h2 => by
    obtain ⟨p1, p2⟩ := List.pairwise_cons.mp h2
    have hc := h1 c List.mem_cons_self
    have := asc_len_from (l := l) (a := c + 1) (n := n) (by omega) (fun x hx => ⟨by have := p1 x hx; omega, (h1 x (List.mem_cons_of_mem _ hx)).2⟩) p2
    rw [List.length_cons]; omega
theorem asc_len {n : Nat} {l : List Int} (h : Asc n l) : l.length ≤ n := by
  have := asc_len_from (l := l) (a := 0) (n := (n : Int)) (by omega) h.1 h.2
  omega
/-! ## Needs -/
def hasB (c : Int) (x : List Int) : Bool := decide (x = [-1]) || decide (c ∈ x)
def loadF (st : List (List Int)) (c : Int) : Int := ((st.filter (hasB c)).length : Int)
def wideB (x : List Int) : Bool := decide (x = [-1])
def widesF (st : List (List Int)) : Int := ((st.filter wideB).length : Int)
def outB (lot x : List Int) : Bool := !decide (x = [-1]) && x.any fun c => !decide (c ∈ lot)
def outF (st : List (List Int)) (lot : List Int) : Int := ((st.filter (outB lot)).length : Int)
def outerL (bs lot : List Int) : List Int := ((rangeI bs.length).filter fun c => !decide (c ∈ lot)).map (gI bs)
def sumL (bs lot : List Int) : Int := (lot.map (gI bs)).sum
def heightF (bs : List Int) (st : List (List Int)) : Int := max (outF st []) (maxF bs)
def slackF (bs : List Int) (st : List (List Int)) (lot : List Int) : Int := (sumL bs lot + maxF (outF st lot :: outerL bs lot) - heightF bs st) / (lot.length : Int)
def boundF (bs : List Int) (mw : Int) : Int := min mw (minF bs)
def needF (bs : List Int) (mw : Int) (st : List (List Int)) : Int := heightF bs st + minOver (slackF bs st) (boundF bs mw) (lotsT bs.length)
/-- a content of a house of n cells -/
def okRow (n : Nat) (x : List Int) : Prop := x = [-1] ∨ Asc n x
def okB (bs : List Int) : Prop := 1 ≤ bs.length ∧ bs.length ≤ 5 ∧ ∀ b ∈ bs, 1 ≤ b ∧ b ≤ 20
theorem okB.ne {bs : List Int} (h : okB bs) : bs ≠ [] := by
  intro z; subst z; exact absurd h.1 (by decide)
theorem okRow.len {n : Nat} {x : List Int} (h : okRow n x) (hn : n ≤ 800) : x.length ≤ 900 := by
  rcases h with e | h
  · subst e; simp
  · have := asc_len h; omega
/-- a valid state -/
structure Val (bs : List Int) (mw : Int) (st : List (List Int)) : Prop where
  row : ∀ x ∈ st, okRow bs.length x
  load : ∀ c : Int, 0 ≤ c → c < bs.length → loadF st c ≤ gI bs c
  wide : widesF st ≤ mw
theorem out_reach {n : Nat} {lot x : List Int} (h : okRow n x) : x.any (fun c => decide (0 ≤ c) && !decide (c ∈ lot)) = outB lot x := by
  unfold outB
  rcases h with e | h
  · subst e; simp
  · have hx : decide (x = [-1]) = false := decide_eq_false fun e => by
      subst e
      have := h.1 (-1) List.mem_cons_self
      omega
    rw [hx]
    simp only [Bool.not_false, Bool.true_and]
    rw [Bool.eq_iff_iff]
    simp only [List.any_eq_true, Bool.and_eq_true, decide_eq_true_eq]
    exact ⟨fun ⟨c, hc, _, h2⟩ => ⟨c, hc, h2⟩, fun ⟨c, hc, h2⟩ => ⟨c, hc, (h.1 c hc).1, h2⟩⟩
end Um

namespace Um
open L2 PySem PySem.Spec PyProof.Rows

/-! ## Valid states, one call more -/
def b2n (b : Bool) : Int := if b = true then 1 else 0
def cnt {α : Type} (p : α → Bool) (st : List α) : Int := ((st.filter p).length : Int)
theorem cnt_nil {α : Type} (p : α → Bool) : cnt p [] = 0 := rfl
theorem cnt_cons {α : Type} (p : α → Bool) (x : α) (st : List α) : cnt p (x :: st) = b2n (p x) + cnt p st := by
  unfold cnt b2n
  cases h : p x with
  | true => simp [List.filter_cons, h]; omega
  | false => simp [List.filter_cons, h]
theorem cnt_nonneg {α : Type} (p : α → Bool) (st : List α) : 0 ≤ cnt p st := by unfold cnt; omega
theorem cnt_le {α : Type} (p : α → Bool) (st : List α) : cnt p st ≤ st.length := by
  unfold cnt
  have := List.length_filter_le p st
  omega
theorem b2n_le (b : Bool) : 0 ≤ b2n b ∧ b2n b ≤ 1 := by cases b <;> decide
theorem cnt_app {α : Type} (p : α → Bool) (a b : List α) : cnt p (a ++ b) = cnt p a + cnt p b := by
  unfold cnt; rw [List.filter_append, List.length_append]; omega
theorem cnt_set {α : Type} (p : α → Bool) : ∀ {st : List α} {i : Nat} {x y : α}, st[i]? = some x → cnt p (st.set i y) = cnt p st - b2n (p x) + b2n (p y)
  | [], i, x, y, h => by simp at h
  | z :: st, 0, x, y, h => by
    simp at h; subst h
    rw [List.set_cons_zero, cnt_cons, cnt_cons]; omega
  | z :: st, i + 1, x, y, h => by
    rw [List.set_cons_succ, cnt_cons, cnt_cons, cnt_set p (st := st) (i := i) (x := x) (y := y) (by simpa using h)]
    omega
theorem cnt_mono {α : Type} {p q : α → Bool} : ∀ {st : List α}, (∀ x ∈ st, p x = true → q x = true) → cnt p st ≤ cnt q st
  | [], _ => Int.le_refl _
  | x :: st, h => by
    rw [cnt_cons, cnt_cons]
    have := cnt_mono (p := p) (q := q) (st := st) fun y hy => h y (List.mem_cons_of_mem _ hy)
    have h1 := h x List.mem_cons_self
    have : b2n (p x) ≤ b2n (q x) := by
      cases hp : p x with
      | false => exact (b2n_le _).1
      | true => rw [h1 hp]; exact Int.le_refl _
    omega
theorem cnt_cong {α : Type} {p q : α → Bool} {st : List α} (h : ∀ x ∈ st, p x = q x) : cnt p st = cnt q st := by
  have h1 := cnt_mono (p := p) (q := q) (st := st) fun x hx e => by rw [← h x hx]; exact e
  have h2 := cnt_mono (p := q) (q := p) (st := st) fun x hx e => by rw [h x hx]; exact e
  omega
theorem cnt_perm {α : Type} (p : α → Bool) {a b : List α} (h : a.Perm b) : cnt p a = cnt p b := by
  unfold cnt; rw [(h.filter p).length_eq]
theorem cnt_pos {α : Type} {p : α → Bool} {st : List α} {x : α} (hx : x ∈ st) (h : p x = true) : 1 ≤ cnt p st := by
  unfold cnt
  have := List.length_pos_of_mem (List.mem_filter.mpr ⟨hx, h⟩)
  omega
theorem loadF_cnt (st : List (List Int)) (c : Int) : loadF st c = cnt (hasB c) st := rfl
theorem widesF_cnt (st : List (List Int)) : widesF st = cnt wideB st := rfl
theorem outF_cnt (st : List (List Int)) (lot : List Int) : outF st lot = cnt (outB lot) st := rfl
def fitB (x : List Int) (w : Int) : Bool := if w = -1 then decide (x = []) else !decide (x = [-1]) && !decide (w ∈ x)
def allowB (bs : List Int) (mw : Int) (st : List (List Int)) (w : Int) : Bool :=
  if 0 ≤ w then decide (loadF st w < gI bs w) else !((rangeI bs.length).any fun c => decide (gI bs c ≤ loadF st c)) && decide (widesF st < mw)
theorem asc_nn {n : Nat} {x : List Int} (h : Asc n x) : x ≠ [-1] := by
  intro e; subst e
  have := h.1 (-1) List.mem_cons_self
  omega
theorem asc_mono {n m : Nat} {x : List Int} (h : Asc n x) (hm : n ≤ m) : Asc m x := ⟨fun c hc => by have := h.1 c hc; omega, h.2⟩
theorem sort_asc {n : Nat} {x : List Int} {w : Int} (h : Asc n x) (hw : w ∉ x) (h0 : 0 ≤ w ∧ w < n) : Asc n (sortI (x ++ [w])) := by
  have hp := sortI_perm (x ++ [w])
  refine ⟨fun c hc => ?_, ?_⟩
  · rcases List.mem_append.mp (hp.mem_iff.mp hc) with hc | hc
    · exact h.1 c hc
    · rw [List.mem_singleton] at hc; subst hc; exact h0
  · have nd : (x ++ [w]).Nodup := by
      rw [List.nodup_append]
      refine ⟨h.2.imp fun {a b} h => by omega, by simp, fun a ha b hb => ?_⟩
      rw [List.mem_singleton] at hb; subst hb
      intro e; subst e; exact hw ha
    have nd2 := hp.nodup_iff.mpr nd
    have le := sortI_le (x ++ [w])
    have := List.Pairwise.and le nd2
    exact this.imp fun {a b} ⟨h1, h2⟩ => by omega
theorem sort_wide : sortI ([] ++ [(-1 : Int)]) = [-1] := rfl
theorem hasB_add {n : Nat} {x : List Int} {w c : Int} (h : Asc n x) (hw : w ∉ x) (h0 : 0 ≤ w ∧ w < n) : hasB c (sortI (x ++ [w])) = (hasB c x || decide (c = w)) := by
  unfold hasB
  have h1 := asc_nn (sort_asc h hw h0)
  have h2 := asc_nn h
  have hp := sortI_perm (x ++ [w])
  simp only [h1, h2, decide_false, Bool.false_or]
  rw [Bool.eq_iff_iff, decide_eq_true_eq, Bool.or_eq_true, decide_eq_true_eq, decide_eq_true_eq, hp.mem_iff, List.mem_append, List.mem_singleton]
theorem Val.add {bs : List Int} {mw : Int} {st : List (List Int)} {i : Nat} {x : List Int} {w : Int} (V : Val bs mw st) (hx : st[i]? = some x) (hf : fitB x w = true) (ha : allowB bs mw st w = true) (hw : -1 ≤ w ∧ w < bs.length) : Val bs mw (st.set i (sortI (x ++ [w]))) := by
  have hxm := List.mem_of_getElem? hx
  unfold fitB at hf
  unfold allowB at ha
  by_cases hneg : w = -1
  · subst hneg
    rw [if_pos rfl] at hf
    have e : x = [] := of_decide_eq_true hf
    subst e
    rw [if_neg (by decide)] at ha
    simp only [Bool.and_eq_true, Bool.not_eq_true', List.any_eq_false, decide_eq_true_eq] at ha
    obtain ⟨a1, a2⟩ := ha
    rw [sort_wide]
    refine ⟨fun y hy => ?_, fun c h0 h1 => ?_, ?_⟩
    · rcases List.mem_or_eq_of_mem_set hy with hy | e
      · exact V.row y hy
      · subst e; exact .inl rfl
    · have := a1 c (mem_rangeI.mpr ⟨h0, h1⟩)
      rw [loadF_cnt, cnt_set _ hx]
      rw [loadF_cnt] at this
      have q1 : hasB c [] = false := by simp [hasB]
      have q2 : hasB c [-1] = true := by simp [hasB]
      rw [q1, q2]
      show cnt (hasB c) st - 0 + 1 ≤ _
      omega
    · rw [widesF_cnt, cnt_set _ hx]
      rw [widesF_cnt] at a2
      have q1 : wideB [] = false := rfl
      have q2 : wideB [-1] = true := rfl
      rw [q1, q2]
      show cnt wideB st - 0 + 1 ≤ _
      omega
  · rw [if_neg hneg] at hf
    simp only [Bool.and_eq_true, Bool.not_eq_true', decide_eq_false_iff_not] at hf
    rw [if_pos (by omega), decide_eq_true_eq] at ha
    have h0 : 0 ≤ w ∧ w < (bs.length : Int) := by omega
    have hasc : Asc bs.length x := by
      rcases V.row x hxm with e | e
      · exact absurd e hf.1
      · exact e
    have ha2 := sort_asc hasc hf.2 h0
    refine ⟨fun y hy => ?_, fun c c0 c1 => ?_, ?_⟩
    · rcases List.mem_or_eq_of_mem_set hy with hy | e
      · exact V.row y hy
      · subst e; exact .inr ha2
    · have hl := V.load c c0 c1
      rw [loadF_cnt, cnt_set _ hx, hasB_add hasc hf.2 h0]
      rw [loadF_cnt] at hl ha
      by_cases hcw : c = w
      · subst hcw
        have := b2n_le (hasB c x)
        have q : hasB c x = false := by
          unfold hasB
          simp [hf.1, hf.2]
        rw [q]
        simp only [decide_true, Bool.or_true]
        show cnt (hasB c) st - 0 + 1 ≤ _
        omega
      · simp only [hcw, decide_false, Bool.or_false]
        omega
    · have hl := V.wide
      rw [widesF_cnt, cnt_set _ hx]
      rw [widesF_cnt] at hl
      have q1 : wideB x = false := decide_eq_false hf.1
      have q2 : wideB (sortI (x ++ [w])) = false := decide_eq_false (asc_nn ha2)
      rw [q1, q2]
      show cnt wideB st - 0 + 0 ≤ _
      omega
theorem Val.free {bs : List Int} {mw : Int} (n : Nat) (hb : ∀ b ∈ bs, 0 ≤ b) (hm : 0 ≤ mw) : Val bs mw (List.replicate n []) := by
  have hz : ∀ {p : List Int → Bool}, p [] = false → cnt p (List.replicate n []) = 0 := fun {p} hp => by
    unfold cnt
    rw [List.filter_eq_nil_iff.mpr fun x hx => by rw [List.mem_replicate] at hx; rw [hx.2, hp]; decide]
    rfl
  refine ⟨fun x hx => ?_, fun c c0 c1 => ?_, ?_⟩
  · rw [List.mem_replicate] at hx
    rw [hx.2]; exact .inr ⟨by simp, .nil⟩
  · rw [loadF_cnt, hz (by simp [hasB])]
    exact hb _ (gI_mem c0 c1)
  · rw [widesF_cnt, hz rfl]; exact hm
theorem Val.lens {bs : List Int} {mw : Int} {st : List (List Int)} (V : Val bs mw st) (hb : bs.length ≤ 800) : ∀ x ∈ st, x.length ≤ 900 := fun x hx => (V.row x hx).len hb
theorem get_row {st : List (List Int)} {c : Int} (h0 : 0 ≤ c) (h : c < st.length) : ∃ x, st[c.toNat]? = some x ∧ dIx (.lst (rows st)) (.int c) = .ok (tl x) ∧ x ∈ st := by
  have hl : c.toNat < st.length := by omega
  refine ⟨st[c.toNat], List.getElem?_eq_getElem hl, dIx_get h0 ?_, List.getElem_mem hl⟩
  rw [List.getElem?_map, List.getElem?_eq_getElem hl]; rfl
theorem get_rowT {st : List (List Int)} {c : Int} (h0 : 0 ≤ c) (h : c < st.length) : ∃ x, st[c.toNat]? = some x ∧ dIx (.tup (rows st)) (.int c) = .ok (tl x) ∧ x ∈ st := by
  have hl : c.toNat < st.length := by omega
  refine ⟨st[c.toNat], List.getElem?_eq_getElem hl, dIx_getT h0 ?_, List.getElem_mem hl⟩
  rw [List.getElem?_map, List.getElem?_eq_getElem hl]; rfl
theorem forC_or {S α : Type} (P : R α → Prop) (I : Nat → S → Prop) {ds : List D} {s : S} {body : D → S → (S → R α) → (S → R α) → R α} {after : S → R α}
    (h0 : I 0 s) (hb : ∀ i d s, ds[i]? = some d → I i s → (∃ s', I (i + 1) s' ∧ ∀ nx bk, body d s nx bk = nx s') ∨ ∃ r, P r ∧ ∀ nx bk, body d s nx bk = r) (ha : ∀ s, I ds.length s → P (after s)) : P (forC ds s body after) := by
  induction ds generalizing s I with
  | nil => exact ha s h0
  | cons d ds ih =>
    show P (body d s (fun s' => forC ds s' body after) after)
    rcases hb 0 d s rfl h0 with ⟨s1, i1, e1⟩ | ⟨r, pr, e⟩
    · rw [e1]
      exact ih (fun i => I (i + 1)) i1 (fun i d s hd hi => hb (i + 1) d s (by simpa using hd) hi) ha
    · rw [e]; exact pr
theorem joinC_P {S : Type} {f : (S → R D) → R D} {K : S → R D} (P : S → Prop) (Q : R D → Prop) (hK : ∀ s, P s → Q (K s)) (hf : ∀ K' : S → R D, (∀ s, P s → Q (K' s)) → Q (f K')) : Q (joinC f K) := hf K hK
/-- the house -/
def houseD (bs : List Int) (ch mw : Int) : D := .ins "House" ["limits", "channels", "wide_limit"] [tl bs, .int ch, .int mw]
theorem house_is (bs : List Int) (ch mw : Int) : isOf "House" (houseD bs ch mw) = .ok (houseD bs ch mw) := (Eq.refl _).trans (Eq.refl _)
theorem house_lim (bs : List Int) (ch mw : Int) : dFld "House" "limits" (houseD bs ch mw) = .ok (tl bs) := (Eq.refl _).trans (Eq.refl _)
theorem house_ch (bs : List Int) (ch mw : Int) : dFld "House" "channels" (houseD bs ch mw) = .ok (.int ch) := (Eq.refl _).trans (Eq.refl _)
theorem house_mw (bs : List Int) (ch mw : Int) : dFld "House" "wide_limit" (houseD bs ch mw) = .ok (.int mw) := (Eq.refl _).trans (Eq.refl _)
/-! ### equal rows, place by place -/
def gR {α : Type} [Inhabited α] (a : List α) (i : Int) : α := a[i.toNat]?.getD default
theorem any_ne {α : Type} [Inhabited α] [DecidableEq α] {a b : List α} (h : a.length = b.length) : (rangeI b.length).any (fun i => !decide (gR a i = gR b i)) = !decide (a = b) := by
  rw [Bool.eq_iff_iff]
  simp only [List.any_eq_true, Bool.not_eq_true', decide_eq_false_iff_not]
  refine ⟨fun ⟨i, hi, hne⟩ e => ?_, fun hne => ?_⟩
  · subst e; exact hne rfl
  · have key : ∃ i : Nat, i < b.length ∧ a[i]? ≠ b[i]? := by
      refine Classical.byContradiction fun z => hne (List.ext_getElem? fun i => ?_)
      by_cases hi : i < b.length
      · exact Classical.byContradiction fun q => z ⟨i, hi, q⟩
      · rw [List.getElem?_eq_none (by omega), List.getElem?_eq_none (by omega)]
    obtain ⟨i, hi, hq⟩ := key
    refine ⟨(i : Int), mem_rangeI.mpr (by omega), fun e => hq ?_⟩
    unfold gR at e
    rw [Int.toNat_natCast, List.getElem?_eq_getElem hi, List.getElem?_eq_getElem (by omega)] at e
    rw [List.getElem?_eq_getElem hi, List.getElem?_eq_getElem (by omega)]
    exact congrArg some e
theorem gR_gI (a : List Int) (i : Int) : gR a i = gI a i := rfl
theorem gR_row {st : List (List Int)} {c : Int} (h0 : 0 ≤ c) (h : c < st.length) : dIx (.lst (rows st)) (.int c) = .ok (tl (gR st c)) ∧ gR st c ∈ st := by
  obtain ⟨x, hx, e, m⟩ := get_row h0 h
  unfold gR
  rw [hx]
  exact ⟨e, m⟩
theorem gR_rowT {st : List (List Int)} {c : Int} (h0 : 0 ≤ c) (h : c < st.length) : dIx (.tup (rows st)) (.int c) = .ok (tl (gR st c)) ∧ gR st c ∈ st := by
  obtain ⟨x, hx, e, m⟩ := get_rowT h0 h
  unfold gR
  rw [hx]
  exact ⟨e, m⟩
theorem bl_ne (a b : Bool) : dNe (.bl a) (.bl b) = .ok (!(a == b)) := by cases a <;> cases b <;> rfl
theorem bl_eq (a b : Bool) : dEq (.bl a) (.bl b) = .ok (a == b) := by cases a <;> cases b <;> rfl
end Um

namespace Um
open L2 PySem PySem.Spec PyProof.Rows

/-! ## Slacks and needs: plain facts -/
def sumOn {α : Type} (f : α → Int) (l : List α) : Int := (l.map f).sum
theorem sumOn_nil {α : Type} (f : α → Int) : sumOn f [] = 0 := rfl
theorem sumOn_cons {α : Type} (f : α → Int) (a : α) (l : List α) : sumOn f (a :: l) = f a + sumOn f l := by unfold sumOn; rw [List.map_cons, List.sum_cons]
theorem sumOn_add {α : Type} (f g : α → Int) : ∀ l : List α, sumOn (fun a => f a + g a) l = sumOn f l + sumOn g l
  | [] => rfl
  | a :: l => by rw [sumOn_cons, sumOn_cons, sumOn_cons, sumOn_add f g l]; omega
theorem sumOn_zero {α : Type} : ∀ l : List α, sumOn (fun _ => 0) l = 0
  | [] => rfl
  | a :: l => by rw [sumOn_cons, sumOn_zero l]; rfl
theorem sumOn_le {α : Type} {f g : α → Int} : ∀ {l : List α}, (∀ a ∈ l, f a ≤ g a) → sumOn f l ≤ sumOn g l
  | [], _ => Int.le_refl _
  | a :: l, h => by
    rw [sumOn_cons, sumOn_cons]
    have := h a List.mem_cons_self
    have := sumOn_le (f := f) (g := g) (l := l) fun b hb => h b (List.mem_cons_of_mem _ hb)
    omega
theorem sumOn_nonneg {α : Type} {f : α → Int} {l : List α} (h : ∀ a ∈ l, 0 ≤ f a) : 0 ≤ sumOn f l := by
  have := sumOn_le (f := fun _ => 0) (g := f) (l := l) h
  rwa [sumOn_zero] at this
theorem sumOn_ge {α : Type} {f : α → Int} : ∀ {l : List α} {a : α}, (∀ a ∈ l, 0 ≤ f a) → a ∈ l → f a ≤ sumOn f l
  | b :: l, a, h, hm => by
    rw [sumOn_cons]
    have h1 := h b List.mem_cons_self
    have h2 := sumOn_nonneg (f := f) (l := l) fun c hc => h c (List.mem_cons_of_mem _ hc)
    rcases List.mem_cons.mp hm with e | hm
    · subst e; omega
    · have := sumOn_ge (f := f) (l := l) (a := a) (fun c hc => h c (List.mem_cons_of_mem _ hc)) hm
      omega
theorem sumOn_cong {α : Type} {f g : α → Int} {l : List α} (h : ∀ a ∈ l, f a = g a) : sumOn f l = sumOn g l := by
  unfold sumOn; rw [List.map_congr_left h]
theorem sumOn_app {α : Type} (f : α → Int) (a b : List α) : sumOn f (a ++ b) = sumOn f a + sumOn f b := by
  unfold sumOn; rw [List.map_append, List.sum_append]
theorem sumOn_perm {α : Type} (f : α → Int) {a b : List α} (h : a.Perm b) : sumOn f a = sumOn f b := by
  induction h with
  | nil => rfl
  | cons x _ ih => rw [sumOn_cons, sumOn_cons, ih]
  | swap x y l => rw [sumOn_cons, sumOn_cons, sumOn_cons, sumOn_cons]; omega
  | trans _ _ ih1 ih2 => exact ih1.trans ih2
/-- the bearing channels: those outside of a lot, and at most the loads of its cells -/
theorem bear_le {n : Nat} (lot : List Int) : ∀ (st : List (List Int)), (∀ x ∈ st, okRow n x) → outF st [] ≤ outF st lot + sumOn (loadF st) lot
  | [], _ => by
    have : sumOn (loadF []) lot = 0 := sumOn_zero lot
    rw [this]
    show (0 : Int) ≤ 0 + 0
    decide
  | x :: st, h => by
    have ih := bear_le lot st fun y hy => h y (List.mem_cons_of_mem _ hy)
    rw [outF_cnt, outF_cnt] at *
    rw [cnt_cons, cnt_cons]
    have e : sumOn (loadF (x :: st)) lot = sumOn (fun c => b2n (hasB c x)) lot + sumOn (loadF st) lot := by
      rw [← sumOn_add]
      exact sumOn_cong fun c _ => by rw [loadF_cnt, loadF_cnt, cnt_cons]
    rw [e]
    have nn : 0 ≤ sumOn (fun c => b2n (hasB c x)) lot := sumOn_nonneg fun c _ => (b2n_le _).1
    have key : b2n (outB [] x) ≤ b2n (outB lot x) + sumOn (fun c => b2n (hasB c x)) lot := by
      cases ho : outB [] x with
      | false => have := (b2n_le (outB lot x)).1; show 0 ≤ _; omega
      | true =>
        unfold outB at ho
        simp only [Bool.and_eq_true, Bool.not_eq_true', decide_eq_false_iff_not, List.any_eq_true] at ho
        obtain ⟨h1, c, hc, _⟩ := ho
        by_cases hcl : c ∈ lot
        · have := sumOn_ge (f := fun c => b2n (hasB c x)) (l := lot) (a := c) (fun c _ => (b2n_le _).1) hcl
          have e1 : b2n (hasB c x) = 1 := by
            have : hasB c x = true := by unfold hasB; simp [hc]
            rw [this]; rfl
          have := (b2n_le (outB lot x)).1
          show 1 ≤ _
          omega
        · have e1 : outB lot x = true := by
            unfold outB
            simp only [Bool.and_eq_true, Bool.not_eq_true', decide_eq_false_iff_not, List.any_eq_true]
            exact ⟨h1, c, hc, hcl⟩
          rw [e1]
          show 1 ≤ 1 + _
          omega
    omega
theorem gI_pos {bs : List Int} (ob : okB bs) {c : Int} (h0 : 0 ≤ c) (h1 : c < bs.length) : 1 ≤ gI bs c ∧ gI bs c ≤ 20 := ob.2.2 _ (gI_mem h0 h1)
theorem mem_gI {bs : List Int} {b : Int} (h : b ∈ bs) : ∃ c : Int, 0 ≤ c ∧ c < bs.length ∧ gI bs c = b := by
  obtain ⟨i, hi, e⟩ := List.mem_iff_getElem.mp h
  refine ⟨(i : Int), by omega, by omega, ?_⟩
  unfold gI
  rw [Int.toNat_natCast, List.getElem?_eq_getElem hi]; exact e
theorem mem_outerL {bs lot : List Int} {v : Int} : v ∈ outerL bs lot ↔ ∃ c : Int, 0 ≤ c ∧ c < bs.length ∧ c ∉ lot ∧ gI bs c = v := by
  unfold outerL
  rw [List.mem_map]
  constructor
  · rintro ⟨c, hc, rfl⟩
    obtain ⟨h1, h2⟩ := List.mem_filter.mp hc
    have := mem_rangeI.mp h1
    exact ⟨c, this.1, this.2, by simpa using h2, rfl⟩
  · rintro ⟨c, c0, c1, h, rfl⟩
    exact ⟨c, List.mem_filter.mpr ⟨mem_rangeI.mpr ⟨c0, c1⟩, by simpa using h⟩, rfl⟩
theorem outF_nonneg (st : List (List Int)) (lot : List Int) : 0 ≤ outF st lot := cnt_nonneg _ _
theorem slack_top {bs : List Int} {mw : Int} {st : List (List Int)} {lot : List Int} (ob : okB bs) (V : Val bs mw st) (ha : Asc bs.length lot) : heightF bs st ≤ sumL bs lot + maxF (outF st lot :: outerL bs lot) := by
  have e : sumL bs lot = sumOn (gI bs) lot := rfl
  have g1 : outF st lot ≤ maxF (outF st lot :: outerL bs lot) := maxF_ge List.mem_cons_self
  have n0 := outF_nonneg st lot
  have hp : ∀ c ∈ lot, 0 ≤ gI bs c := fun c hc => by have := gI_pos ob (ha.1 c hc).1 (ha.1 c hc).2; omega
  have hs := sumOn_nonneg hp
  have h1 : outF st [] ≤ outF st lot + sumOn (gI bs) lot := by
    have a1 := bear_le (n := bs.length) lot st V.row
    have a2 : sumOn (loadF st) lot ≤ sumOn (gI bs) lot := sumOn_le fun c hc => V.load c (ha.1 c hc).1 (ha.1 c hc).2
    omega
  have h2 : maxF bs ≤ sumOn (gI bs) lot + maxF (outF st lot :: outerL bs lot) := by
    obtain ⟨c, c0, c1, ec⟩ := mem_gI (maxF_mem ob.ne)
    by_cases hc : c ∈ lot
    · have := sumOn_ge hp hc
      omega
    · have : gI bs c ≤ maxF (outF st lot :: outerL bs lot) := maxF_ge (List.mem_cons_of_mem _ (mem_outerL.mpr ⟨c, c0, c1, hc, rfl⟩))
      omega
  unfold heightF
  omega
theorem slack_nonneg {bs : List Int} {mw : Int} {st : List (List Int)} {lot : List Int} (ob : okB bs) (V : Val bs mw st) (ha : Asc bs.length lot) : 0 ≤ slackF bs st lot := by
  have := slack_top ob V ha
  unfold slackF
  exact Int.ediv_nonneg (by omega) (by omega)
theorem need_perm {bs : List Int} {mw : Int} {st : List (List Int)} {L : List (List Int)} (p : L.Perm (lotsT bs.length)) : heightF bs st + minOver (slackF bs st) (boundF bs mw) L = needF bs mw st := by
  unfold needF
  rw [minOver_cong (f := slackF bs st) (g := slackF bs st) (boundF bs mw) (fun x hx => ⟨x, p.mem_iff.mp hx, rfl⟩) fun y hy => ⟨y, p.mem_iff.mpr hy, rfl⟩]
/-- states with the same counts have the same need -/
theorem need_cong {bs : List Int} {mw : Int} {st st2 : List (List Int)} (h : ∀ lot, outF st lot = outF st2 lot) : needF bs mw st = needF bs mw st2 := by
  have e : slackF bs st = slackF bs st2 := by
    funext lot
    unfold slackF heightF
    rw [h, h]
  unfold needF heightF
  rw [e, h]
theorem out_free (lot : List Int) : outB lot [] = false := by simp [outB]
theorem out_wide (lot : List Int) : outB lot [-1] = false := by simp [outB]
theorem boundF_nonneg {bs : List Int} {mw : Int} (ob : okB bs) (hm : 0 ≤ mw) : 0 ≤ boundF bs mw := by
  have := ob.2.2 _ (minF_mem ob.ne)
  unfold boundF; omega
/-- a state as a list or as a tuple -/
def IsSt (a : D) (st : List (List Int)) : Prop := a = .lst (rows st) ∨ a = .tup (rows st)
theorem IsSt.l (st : List (List Int)) : IsSt (.lst (rows st)) st := .inl rfl
theorem IsSt.t (st : List (List Int)) : IsSt (.tup (rows st)) st := .inr rfl
theorem IsSt.list {a : D} {st : List (List Int)} (h : IsSt a st) : dList a = .ok (.lst (rows st)) := by rcases h with e | e <;> subst e <;> rfl
theorem IsSt.len {a : D} {st : List (List Int)} (h : IsSt a st) : dLen a = .ok (.int (st.length : Int)) := by rcases h with e | e <;> subst e <;> simp [dLen]
theorem IsSt.items {a : D} {st : List (List Int)} (h : IsSt a st) : dItems a = .ok (rows st) := by rcases h with e | e <;> subst e <;> rfl
theorem IsSt.ix {a : D} {st : List (List Int)} (h : IsSt a st) {c : Int} (h0 : 0 ≤ c) (h1 : c < st.length) : dIx a (.int c) = .ok (tl (gR st c)) ∧ gR st c ∈ st := by
  rcases h with e | e <;> subst e
  · exact gR_row h0 h1
  · exact gR_rowT h0 h1
theorem IsSt.sorted {a : D} {st : List (List Int)} (h : IsSt a st) : dSortedG a = .ok (.lst (rows (sortR st))) := by
  rcases h with e | e <;> subst e
  · exact dSorted_rows st
  · exact dSorted_rowsT st
end Um

namespace Um
open L2 PySem PySem.Spec PyProof.Rows

/-! ## One call more: needs -/
theorem div_le_div {a b k : Int} (hk : 0 < k) (h : a ≤ b) : a / k ≤ b / k := Int.ediv_le_ediv hk h
/-- a need's part, level and slack together -/
def partF (bs : List Int) (st : List (List Int)) (lot : List Int) : Int := (sumL bs lot + maxF (outF st lot :: outerL bs lot) + ((lot.length : Int) - 1) * heightF bs st) / (lot.length : Int)
theorem part_eq {bs : List Int} {st : List (List Int)} {lot : List Int} (hn : lot ≠ []) : heightF bs st + slackF bs st lot = partF bs st lot := by
  have hk : 0 < (lot.length : Int) := by have := List.length_pos_iff.mpr hn; omega
  unfold slackF partF
  generalize heightF bs st = h
  generalize sumL bs lot + maxF (outF st lot :: outerL bs lot) = a
  generalize (lot.length : Int) = k at hk
  have e : a + (k - 1) * h = (a - h) + h * k := by
    rw [Int.sub_mul, Int.one_mul, Int.mul_comm k h]; omega
  rw [e, Int.add_mul_ediv_right _ _ (by omega)]; omega
theorem minOver_add {α : Type} (f : α → Int) (h : Int) : ∀ (l : List α) (a : Int), h + minOver f a l = minOver (fun x => h + f x) (h + a) l
  | [], a => rfl
  | x :: l, a => by
    show h + minOver f (min a (f x)) l = minOver (fun x => h + f x) (min (h + a) (h + f x)) l
    rw [minOver_add f h l]
    congr 1
    omega
theorem minOver_congf {α : Type} {f g : α → Int} {l : List α} (a : Int) (h : ∀ x ∈ l, f x = g x) : minOver f a l = minOver g a l :=
  minOver_cong a (fun x hx => ⟨x, hx, (h x hx).symm⟩) fun x hx => ⟨x, hx, h x hx⟩
theorem need_part (bs : List Int) (mw : Int) (st : List (List Int)) : needF bs mw st = minOver (partF bs st) (heightF bs st + boundF bs mw) (lotsT bs.length) := by
  unfold needF
  rw [minOver_add]
  exact minOver_congf _ fun l hl => part_eq (mem_lotsT.mp hl).2
theorem maxF_cons_le {o o' : Int} {l : List Int} (h : o ≤ o') : maxF (o :: l) ≤ maxF (o' :: l) := by
  have h0 := maxF_mem (bs := o :: l) (by simp)
  rcases List.mem_cons.mp h0 with e | e
  · have := maxF_ge (bs := o' :: l) (y := o') List.mem_cons_self
    omega
  · exact maxF_ge (List.mem_cons_of_mem _ e)
theorem maxF_cons_succ {o o' : Int} {l : List Int} (h : o' ≤ o + 1) : maxF (o' :: l) ≤ maxF (o :: l) + 1 := by
  have h0 := maxF_mem (bs := o' :: l) (by simp)
  rcases List.mem_cons.mp h0 with e | e
  · have := maxF_ge (bs := o :: l) (y := o) List.mem_cons_self
    omega
  · have := maxF_ge (bs := o :: l) (List.mem_cons_of_mem _ e); omega
/-- outside counts grow by at most one: so do needs -/
theorem need_grow {bs : List Int} {mw : Int} {st st2 : List (List Int)} (h : ∀ lot, outF st lot ≤ outF st2 lot ∧ outF st2 lot ≤ outF st lot + 1) : needF bs mw st ≤ needF bs mw st2 ∧ needF bs mw st2 ≤ needF bs mw st + 1 := by
  have hh : heightF bs st ≤ heightF bs st2 ∧ heightF bs st2 ≤ heightF bs st + 1 := by
    have := h []
    unfold heightF; omega
  have key : ∀ l ∈ lotsT bs.length, partF bs st l ≤ partF bs st2 l ∧ partF bs st2 l ≤ partF bs st l + 1 := fun l hl => by
    have hk : 0 < (l.length : Int) := by have := List.length_pos_iff.mpr (mem_lotsT.mp hl).2; omega
    have h1 := maxF_cons_le (l := outerL bs l) (h l).1
    have h2 := maxF_cons_succ (l := outerL bs l) (h l).2
    have k1 : ((l.length : Int) - 1) * heightF bs st ≤ ((l.length : Int) - 1) * heightF bs st2 := Int.mul_le_mul_of_nonneg_left hh.1 (by omega)
    have k2 : ((l.length : Int) - 1) * heightF bs st2 ≤ ((l.length : Int) - 1) * (heightF bs st + 1) := Int.mul_le_mul_of_nonneg_left hh.2 (by omega)
    rw [Int.mul_add, Int.mul_one] at k2
    unfold partF
    refine ⟨div_le_div hk (by omega), ?_⟩
    have e := Int.add_mul_ediv_right (sumL bs l + maxF (outF st l :: outerL bs l) + ((l.length : Int) - 1) * heightF bs st) 1 (show (l.length : Int) ≠ 0 by omega)
    rw [Int.one_mul] at e
    rw [← e]
    exact div_le_div hk (by omega)
  rw [need_part, need_part]
  refine ⟨minOver_mono (by omega) fun y hy => ⟨y, hy, (key y hy).1⟩, ?_⟩
  have := minOver_mono (f := partF bs st2) (g := fun x => 1 + partF bs st x) (l := lotsT bs.length) (k := lotsT bs.length) (a := heightF bs st2 + boundF bs mw) (b := 1 + (heightF bs st + boundF bs mw)) (by omega) fun y hy => ⟨y, hy, by have := (key y hy).2; omega⟩
  rw [← minOver_add] at this
  omega
theorem outB_add {n : Nat} {x : List Int} {w : Int} (lot : List Int) (h : Asc n x) (hw : w ∉ x) (h0 : 0 ≤ w ∧ w < n) : outB lot (sortI (x ++ [w])) = (outB lot x || !decide (w ∈ lot)) := by
  have h1 := asc_nn (sort_asc h hw h0)
  have h2 := asc_nn h
  have hp := sortI_perm (x ++ [w])
  unfold outB
  simp only [h1, h2, decide_false, Bool.not_false, Bool.true_and]
  rw [Bool.eq_iff_iff, List.any_eq_true, Bool.or_eq_true, List.any_eq_true]
  constructor
  · rintro ⟨c, hc, hl⟩
    rcases List.mem_append.mp (hp.mem_iff.mp hc) with hc | hc
    · exact .inl ⟨c, hc, hl⟩
    · rw [List.mem_singleton] at hc; subst hc; exact .inr hl
  · rintro (⟨c, hc, hl⟩ | hl)
    · exact ⟨c, hp.mem_iff.mpr (List.mem_append_left _ hc), hl⟩
    · exact ⟨w, hp.mem_iff.mpr (List.mem_append_right _ (List.mem_singleton.mpr rfl)), hl⟩
theorem fit_cases {n : Nat} {x : List Int} {w : Int} (hr : okRow n x) (hf : fitB x w = true) : (w = -1 ∧ x = []) ∨ (w ≠ -1 ∧ Asc n x ∧ w ∉ x) := by
  unfold fitB at hf
  by_cases h : w = -1
  · rw [if_pos h] at hf
    exact .inl ⟨h, of_decide_eq_true hf⟩
  · rw [if_neg h] at hf
    simp only [Bool.and_eq_true, Bool.not_eq_true', decide_eq_false_iff_not] at hf
    rcases hr with e | e
    · exact absurd e hf.1
    · exact .inr ⟨h, e, hf.2⟩
/-- one call more -/
theorem out_step {n : Nat} {st : List (List Int)} {i : Nat} {x : List Int} {w : Int} (hx : st[i]? = some x) (hr : okRow n x) (hf : fitB x w = true) (hw : -1 ≤ w ∧ w < n) (lot : List Int) :
    outF (st.set i (sortI (x ++ [w]))) lot = outF st lot - b2n (outB lot x) + b2n (outB lot (sortI (x ++ [w]))) := by
  rw [outF_cnt, outF_cnt, cnt_set _ hx]
theorem out_wide_step {n : Nat} {st : List (List Int)} {i : Nat} {x : List Int} (hx : st[i]? = some x) (hr : okRow n x) (hf : fitB x (-1) = true) (lot : List Int) : outF st lot = outF (st.set i (sortI (x ++ [-1]))) lot := by
  rcases fit_cases hr hf with ⟨_, e⟩ | ⟨e, _⟩
  · subst e
    rw [outF_cnt, outF_cnt, cnt_set _ hx, sort_wide, out_free, out_wide]; omega
  · exact absurd rfl e
theorem need_wide_step {n : Nat} {bs : List Int} {mw : Int} {st : List (List Int)} {i : Nat} {x : List Int} (hx : st[i]? = some x) (hr : okRow n x) (hf : fitB x (-1) = true) : needF bs mw st = needF bs mw (st.set i (sortI (x ++ [-1]))) :=
  need_cong (out_wide_step hx hr hf)
theorem out_local_step {n : Nat} {st : List (List Int)} {i : Nat} {x : List Int} {w : Int} (hx : st[i]? = some x) (hr : okRow n x) (hf : fitB x w = true) (hw : 0 ≤ w ∧ w < n) (lot : List Int) : outF st lot ≤ outF (st.set i (sortI (x ++ [w]))) lot ∧ outF (st.set i (sortI (x ++ [w]))) lot ≤ outF st lot + 1 := by
  rcases fit_cases hr hf with ⟨e, _⟩ | ⟨_, ha, hwx⟩
  · omega
  · rw [out_step hx hr hf (by omega), outB_add lot ha hwx hw]
    cases outB lot x <;> cases decide (w ∈ lot) <;> simp [b2n] <;> omega
theorem need_local_step {n : Nat} {bs : List Int} {mw : Int} {st : List (List Int)} {i : Nat} {x : List Int} {w : Int} (hx : st[i]? = some x) (hr : okRow n x) (hf : fitB x w = true) (hw : 0 ≤ w ∧ w < n) :
    needF bs mw st ≤ needF bs mw (st.set i (sortI (x ++ [w]))) ∧ needF bs mw (st.set i (sortI (x ++ [w]))) ≤ needF bs mw st + 1 := need_grow (out_local_step hx hr hf hw)
/-! ### needs from below -/
theorem need_ge_height {bs : List Int} {mw : Int} {st : List (List Int)} (ob : okB bs) (hm : 0 ≤ mw) (V : Val bs mw st) : heightF bs st ≤ needF bs mw st := by
  unfold needF
  have hb := boundF_nonneg ob hm
  rcases minOver_mem (slackF bs st) (lotsT bs.length) (boundF bs mw) with e | ⟨l, hl, e⟩
  · omega
  · have := slack_nonneg ob V (mem_lotsT.mp hl).1
    omega
def locF (st : List (List Int)) (c : Int) : Int := cnt (fun x => decide (c ∈ x)) st
theorem load_split {n : Nat} {st : List (List Int)} (h : ∀ x ∈ st, okRow n x) {c : Int} (h0 : 0 ≤ c) : loadF st c = locF st c + widesF st := by
  rw [loadF_cnt, widesF_cnt]
  unfold locF
  induction st with
  | nil => rfl
  | cons x st ih =>
    rw [cnt_cons, cnt_cons, cnt_cons, ih fun y hy => h y (List.mem_cons_of_mem _ hy)]
    have : b2n (hasB c x) = b2n (decide (c ∈ x)) + b2n (wideB x) := by
      unfold hasB wideB
      by_cases e : x = [-1]
      · have : c ∉ x := by subst e; simp; omega
        simp [e, b2n]; omega
      · simp [e, b2n]
    omega
theorem bear_loc {n : Nat} (lot : List Int) : ∀ (st : List (List Int)), (∀ x ∈ st, okRow n x) → outF st [] ≤ outF st lot + sumOn (locF st) lot
  | [], _ => by
    have : sumOn (locF []) lot = 0 := sumOn_zero lot
    rw [this]
    show (0 : Int) ≤ 0 + 0
    decide
  | x :: st, h => by
    have ih := bear_loc lot st fun y hy => h y (List.mem_cons_of_mem _ hy)
    rw [outF_cnt, outF_cnt] at *
    rw [cnt_cons, cnt_cons]
    have e : sumOn (locF (x :: st)) lot = sumOn (fun c => b2n (decide (c ∈ x))) lot + sumOn (locF st) lot := by
      rw [← sumOn_add]
      exact sumOn_cong fun c _ => by unfold locF; rw [cnt_cons]
    rw [e]
    have nn : 0 ≤ sumOn (fun c => b2n (decide (c ∈ x))) lot := sumOn_nonneg fun c _ => (b2n_le _).1
    have key : b2n (outB [] x) ≤ b2n (outB lot x) + sumOn (fun c => b2n (decide (c ∈ x))) lot := by
      have := (b2n_le (outB lot x)).1
      cases ho : outB [] x with
      | false => show 0 ≤ _; omega
      | true =>
        unfold outB at ho
        simp only [Bool.and_eq_true, Bool.not_eq_true', decide_eq_false_iff_not, List.any_eq_true] at ho
        obtain ⟨h1, c, hc, _⟩ := ho
        by_cases hcl : c ∈ lot
        · have e2 : b2n (decide (c ∈ x)) ≤ sumOn (fun c => b2n (decide (c ∈ x))) lot := sumOn_ge (f := fun c => b2n (decide (c ∈ x))) (l := lot) (a := c) (fun c _ => (b2n_le _).1) hcl
          have e1 : b2n (decide (c ∈ x)) = 1 := by rw [decide_eq_true hc]; rfl
          show 1 ≤ _
          omega
        · have e1 : outB lot x = true := by
            unfold outB
            simp only [Bool.and_eq_true, Bool.not_eq_true', decide_eq_false_iff_not, List.any_eq_true]
            exact ⟨h1, c, hc, by simpa using hcl⟩
          rw [e1]
          show 1 ≤ 1 + _
          omega
    omega
theorem sumOn_const (k : Int) {α : Type} : ∀ l : List α, sumOn (fun _ => k) l = (l.length : Int) * k
  | [] => by rw [sumOn_nil]; simp
  | a :: l => by rw [sumOn_cons, sumOn_const k l, List.length_cons, Int.natCast_add, Int.add_mul]; simp; omega
def busyB (x : List Int) : Bool := !decide (x = [])
theorem busy_split {n : Nat} {st : List (List Int)} (h : ∀ x ∈ st, okRow n x) : cnt busyB st = outF st [] + widesF st := by
  rw [outF_cnt, widesF_cnt]
  induction st with
  | nil => rfl
  | cons x st ih =>
    rw [cnt_cons, cnt_cons, cnt_cons, ih fun y hy => h y (List.mem_cons_of_mem _ hy)]
    have : b2n (busyB x) = b2n (outB [] x) + b2n (wideB x) := by
      unfold busyB outB wideB
      by_cases e : x = [-1]
      · simp [e, b2n]
      · cases x with
        | nil => simp [b2n]
        | cons a x => simp [e, b2n]
    omega
theorem wides_bound {bs : List Int} {mw : Int} {st : List (List Int)} (ob : okB bs) (V : Val bs mw st) : widesF st ≤ boundF bs mw := by
  obtain ⟨c, c0, c1, e⟩ := mem_gI (minF_mem ob.ne)
  have h1 := V.load c c0 c1
  have h2 := load_split V.row c0
  have h3 : 0 ≤ locF st c := cnt_nonneg _ _
  have h4 := V.wide
  unfold boundF
  omega
theorem need_ge_busy {bs : List Int} {mw : Int} {st : List (List Int)} (ob : okB bs) (V : Val bs mw st) : cnt busyB st ≤ needF bs mw st := by
  rw [busy_split V.row, need_part]
  have hw := wides_bound ob V
  have hb : outF st [] ≤ heightF bs st := by unfold heightF; omega
  rcases minOver_mem (partF bs st) (lotsT bs.length) (heightF bs st + boundF bs mw) with e | ⟨l, hl, e⟩
  · omega
  · rw [e]
    obtain ⟨ha, hn⟩ := mem_lotsT.mp hl
    have hk : 0 < (l.length : Int) := by have := List.length_pos_iff.mpr hn; omega
    have k1 := bear_loc l st V.row
    have k2 : sumOn (loadF st) l = sumOn (locF st) l + (l.length : Int) * widesF st := by
      rw [← sumOn_const, ← sumOn_add]
      exact sumOn_cong fun c hc => load_split V.row (ha.1 c hc).1
    have k3 : sumOn (loadF st) l ≤ sumL bs l := sumOn_le fun c hc => V.load c (ha.1 c hc).1 (ha.1 c hc).2
    have k4 : outF st l ≤ maxF (outF st l :: outerL bs l) := maxF_ge List.mem_cons_self
    have k5 : ((l.length : Int) - 1) * outF st [] ≤ ((l.length : Int) - 1) * heightF bs st := Int.mul_le_mul_of_nonneg_left hb (by omega)
    unfold partF
    rw [Int.le_ediv_iff_mul_le hk, Int.add_mul, Int.mul_comm (widesF st)]
    rw [Int.sub_mul, Int.one_mul] at k5
    rw [Int.mul_comm (outF st [])]
    omega
/-! ### a call less -/
theorem Val.remove {bs : List Int} {mw : Int} {st : List (List Int)} {i : Nat} {x : List Int} {w : Int} (V : Val bs mw st) (hx : st[i]? = some x) (hw : w ∈ x) : Val bs mw (st.set i (x.filter fun c => !decide (c = w))) := by
  have hxm := List.mem_of_getElem? hx
  have hrow : okRow bs.length (x.filter fun c => !decide (c = w)) ∧ (x.filter fun c => !decide (c = w)) ≠ [-1] := by
    rcases V.row x hxm with e | e
    · subst e
      rw [List.mem_singleton] at hw; subst hw
      exact ⟨.inr ⟨by simp, by simp⟩, by simp⟩
    · have : Asc bs.length (x.filter fun c => !decide (c = w)) := ⟨fun c hc => e.1 c (List.mem_filter.mp hc).1, e.2.filter _⟩
      exact ⟨.inr this, asc_nn this⟩
  refine ⟨fun y hy => ?_, fun c c0 c1 => ?_, ?_⟩
  · rcases List.mem_or_eq_of_mem_set hy with hy | e
    · exact V.row y hy
    · subst e; exact hrow.1
  · have := V.load c c0 c1
    rw [loadF_cnt, cnt_set _ hx]
    rw [loadF_cnt] at this
    have hb : b2n (hasB c (x.filter fun c => !decide (c = w))) ≤ b2n (hasB c x) := by
      unfold hasB
      simp only [hrow.2, decide_false, Bool.false_or]
      by_cases hc : c ∈ x.filter fun c => !decide (c = w)
      · simp [(List.mem_filter.mp hc).1, b2n]; split <;> omega
      · rw [decide_eq_false hc]; exact (b2n_le _).1
    omega
  · have := V.wide
    rw [widesF_cnt, cnt_set _ hx]
    rw [widesF_cnt] at this
    have : b2n (wideB (x.filter fun c => !decide (c = w))) = 0 := by unfold wideB; rw [decide_eq_false hrow.2]; rfl
    have := (b2n_le (wideB x)).1
    omega
/-- put back -/
theorem put_back {n : Nat} {x : List Int} {w : Int} (hr : okRow n x) (hw : w ∈ x) : sortI ((x.filter fun c => !decide (c = w)) ++ [w]) = x ∧ fitB (x.filter fun c => !decide (c = w)) w = true ∧ (w = -1 ∨ (0 ≤ w ∧ w < n)) := by
  rcases hr with e | e
  · subst e
    rw [List.mem_singleton] at hw; subst hw
    exact ⟨rfl, rfl, .inl rfl⟩
  · have h0 := e.1 w hw
    refine ⟨?_, ?_, .inr h0⟩
    · symm
      refine sortI_unique ?_ (e.2.imp fun {a b} h => by omega)
      have nd : x.Nodup := e.2.imp fun {a b} h => by omega
      refine (List.perm_cons_erase hw).trans ?_
      rw [nd.erase_eq_filter w]
      have : (x.filter fun c => c != w) = x.filter fun c => !decide (c = w) := List.filter_congr fun c _ => by by_cases h : c = w <;> simp [h]
      rw [this]
      exact (List.perm_append_singleton w _).symm
    · unfold fitB
      rw [if_neg (by omega)]
      have hne : (x.filter fun c => !decide (c = w)) ≠ [-1] := asc_nn (n := n) ⟨fun c hc => e.1 c (List.mem_filter.mp hc).1, e.2.filter _⟩
      simp [hne]
/-- a loop that appends -/
theorem forC_push {α β : Type} (emb f : α → D) : ∀ (ys : List α) (cs : List D) {body : D → D → (D → R β) → (D → R β) → R β} {after : D → R β}, cs.length + ys.length ≤ 1000 →
    (∀ y, y ∈ ys → ∀ ds : List D, ds.length < 1000 → ∀ nx bk, body (emb y) (.lst ds) nx bk = nx (.lst (ds ++ [f y]))) → forC (ys.map emb) (.lst cs) body after = after (.lst (cs ++ ys.map f))
  | [], cs, body, after, _, _ => by simp [forC]
  | y :: ys, cs, body, after, hl, hb => by
    rw [List.length_cons] at hl
    show body (emb y) (.lst cs) (fun s' => forC (ys.map emb) s' body after) after = _
    rw [hb y List.mem_cons_self cs (by omega), forC_push emb f ys (cs ++ [f y]) (by rw [List.length_append, List.length_singleton]; omega) fun z hz => hb z (List.mem_cons_of_mem _ hz), List.append_assoc]
    rfl
end Um

namespace Um
open L2 PySem PySem.Spec PyProof.Rows

/-! ## Needs by one number -/
theorem asc_all {n : Nat} : Asc n (rangeI n) := by
  refine ⟨fun c hc => mem_rangeI.mp hc, ?_⟩
  unfold rangeI
  rw [List.pairwise_map]
  exact List.pairwise_lt_range.imp fun {a b} h => by omega
theorem all_lot {n : Nat} (h : 1 ≤ n) : rangeI n ∈ lotsT n := mem_lotsT.mpr ⟨asc_all, by intro z; have := congrArg List.length z; rw [rangeI_len] at this; simp at this; omega⟩
theorem sum_all : ∀ (bs : List Int), sumL bs (rangeI bs.length) = bs.sum := by
  intro bs
  unfold sumL
  have : (rangeI bs.length).map (gI bs) = bs := by
    refine List.ext_getElem? fun i => ?_
    unfold rangeI
    rw [List.map_map, List.getElem?_map]
    by_cases h : i < bs.length
    · rw [List.getElem?_eq_getElem (by rw [List.length_range]; exact h), List.getElem_range, List.getElem?_eq_getElem h]
      show some (gI bs (i : Int)) = _
      unfold gI
      rw [Int.toNat_natCast, List.getElem?_eq_getElem h]; rfl
    · rw [List.getElem?_eq_none (by rw [List.length_range]; omega), List.getElem?_eq_none (by omega)]; rfl
  rw [this]
theorem out_all {n : Nat} {st : List (List Int)} (h : ∀ x ∈ st, okRow n x) : outF st (rangeI n) = 0 := by
  unfold outF
  rw [List.filter_eq_nil_iff.mpr fun x hx => ?_]
  · rfl
  · rcases h x hx with e | e
    · subst e; rw [out_wide]; decide
    · unfold outB
      simp only [Bool.and_eq_true, not_and, List.any_eq_true]
      rintro _ ⟨c, hc, hn⟩
      have := mem_rangeI.mpr (e.1 c hc)
      simp [this] at hn
theorem outer_all (bs : List Int) : outerL bs (rangeI bs.length) = [] := by
  unfold outerL
  rw [List.filter_eq_nil_iff.mpr fun c hc => by simp [hc]]; rfl
def lineF (bs : List Int) (mw : Int) (st : List (List Int)) : Int := heightF bs st + min (boundF bs mw) ((bs.sum - heightF bs st) / (bs.length : Int))
theorem slack_all {bs : List Int} {st : List (List Int)} (h : ∀ x ∈ st, okRow bs.length x) : slackF bs st (rangeI bs.length) = (bs.sum - heightF bs st) / (bs.length : Int) := by
  unfold slackF
  rw [sum_all, out_all h, outer_all, rangeI_len]
  congr 2
  show bs.sum + 0 = _
  omega
theorem need_le_line {bs : List Int} {mw : Int} {st : List (List Int)} (ob : okB bs) (h : ∀ x ∈ st, okRow bs.length x) : needF bs mw st ≤ lineF bs mw st := by
  obtain ⟨g1, g2⟩ := minOver_le (slackF bs st) (lotsT bs.length) (boundF bs mw)
  have := g2 _ (all_lot ob.1)
  rw [slack_all h] at this
  unfold needF lineF
  omega
/-- a lot of fewer than all cells -/
theorem proper {n : Nat} {l : List Int} (ha : Asc n l) (hn : l ≠ rangeI n) : ∃ c : Int, 0 ≤ c ∧ c < n ∧ c ∉ l := by
  refine Classical.byContradiction fun z => hn ?_
  have hm : ∀ c, c ∈ l ↔ c ∈ rangeI n := fun c => ⟨fun h => mem_rangeI.mpr (ha.1 c h), fun h => Classical.byContradiction fun q => z ⟨c, (mem_rangeI.mp h).1, (mem_rangeI.mp h).2, q⟩⟩
  have nd1 : l.Nodup := ha.2.imp fun {a b} h => by omega
  have nd2 : (rangeI n).Nodup := asc_all.2.imp fun {a b} h => by omega
  exact List.Perm.eq_of_pairwise (le := fun a b : Int => a < b) (fun a b _ _ h1 h2 => by omega) ha.2 asc_all.2 ((List.perm_ext_iff_of_nodup nd1 nd2).mpr hm)
theorem sum_ge {f : Int → Int} {m : Int} : ∀ {l : List Int}, (∀ c ∈ l, m ≤ f c) → (l.length : Int) * m ≤ sumOn f l
  | [], _ => by rw [sumOn_nil]; simp
  | c :: l, h => by
    rw [sumOn_cons, List.length_cons, Int.natCast_add, Int.add_mul]
    have := h c List.mem_cons_self
    have := sum_ge (f := f) (m := m) (l := l) fun d hd => h d (List.mem_cons_of_mem _ hd)
    simp
    omega
theorem sum_ge1 {f : Int → Int} {m : Int} : ∀ {l : List Int} {c : Int}, (∀ c ∈ l, m ≤ f c) → c ∈ l → f c + ((l.length : Int) - 1) * m ≤ sumOn f l
  | d :: l, c, h, hc => by
    rw [sumOn_cons, List.length_cons]
    have h1 := h d List.mem_cons_self
    have e : (((l.length + 1 : Nat) : Int) - 1) * m = (l.length : Int) * m := by congr 1; omega
    rw [e]
    rcases List.mem_cons.mp hc with q | hc
    · subst q
      have := sum_ge (f := f) (m := m) (l := l) fun d hd => h d (List.mem_cons_of_mem _ hd)
      omega
    · have := sum_ge1 (f := f) (m := m) (l := l) (c := c) (fun d hd => h d (List.mem_cons_of_mem _ hd)) hc
      rw [Int.sub_mul, Int.one_mul] at this
      omega
/-- what a proper lot has: the greatest limit, and the least one for each of its cells -/
theorem proper_top {bs : List Int} {st : List (List Int)} {l : List Int} (ob : okB bs) (ha : Asc bs.length l) (hn : l ≠ rangeI bs.length) : maxF bs + (l.length : Int) * minF bs ≤ sumL bs l + maxF (outF st l :: outerL bs l) := by
  have hm : ∀ c ∈ l, minF bs ≤ gI bs c := fun c hc => minF_le (gI_mem (ha.1 c hc).1 (ha.1 c hc).2)
  have es : sumL bs l = sumOn (gI bs) l := rfl
  obtain ⟨c, c0, c1, ec⟩ := mem_gI (maxF_mem ob.ne)
  by_cases hc : c ∈ l
  · have k1 := sum_ge1 hm hc
    obtain ⟨d, d0, d1, hd⟩ := proper ha hn
    have k2 : gI bs d ≤ maxF (outF st l :: outerL bs l) := maxF_ge (List.mem_cons_of_mem _ (mem_outerL.mpr ⟨d, d0, d1, hd, rfl⟩))
    have k3 : minF bs ≤ gI bs d := minF_le (gI_mem d0 d1)
    rw [Int.sub_mul, Int.one_mul] at k1
    omega
  · have k1 := sum_ge hm
    have k2 : gI bs c ≤ maxF (outF st l :: outerL bs l) := maxF_ge (List.mem_cons_of_mem _ (mem_outerL.mpr ⟨c, c0, c1, hc, rfl⟩))
    omega
theorem line_le_need {bs : List Int} {mw : Int} {st : List (List Int)} (ob : okB bs) (h : ∀ x ∈ st, okRow bs.length x) (hp : ∀ l, Asc bs.length l → l ≠ [] → l ≠ rangeI bs.length → min (boundF bs mw) ((bs.sum - heightF bs st) / (bs.length : Int)) ≤ slackF bs st l) : lineF bs mw st = needF bs mw st := by
  have := need_le_line (mw := mw) ob h
  unfold lineF needF at *
  rcases minOver_mem (slackF bs st) (lotsT bs.length) (boundF bs mw) with e | ⟨l, hl, e⟩
  · omega
  · obtain ⟨ha, hn⟩ := mem_lotsT.mp hl
    by_cases hu : l = rangeI bs.length
    · rw [hu, slack_all h] at e; omega
    · have := hp l ha hn hu; omega
/-- few bearing channels -/
theorem line_few {bs : List Int} {mw : Int} {st : List (List Int)} (ob : okB bs) (h : ∀ x ∈ st, okRow bs.length x) (hb : outF st [] ≤ maxF bs) : lineF bs mw st = needF bs mw st := by
  refine line_le_need ob h fun l ha hn hu => ?_
  have hk : 0 < (l.length : Int) := by have := List.length_pos_iff.mpr hn; omega
  have k1 := proper_top (st := st) ob ha hu
  have hh : heightF bs st = maxF bs := by unfold heightF; omega
  have k2 : minF bs ≤ slackF bs st l := by
    unfold slackF
    rw [hh, Int.le_ediv_iff_mul_le hk, Int.mul_comm]
    omega
  unfold boundF
  omega
theorem bear_total {bs : List Int} {mw : Int} {st : List (List Int)} (V : Val bs mw st) : outF st [] ≤ bs.sum := by
  have a1 := bear_le (n := bs.length) (rangeI bs.length) st V.row
  rw [out_all V.row] at a1
  have a2 : sumOn (loadF st) (rangeI bs.length) ≤ sumOn (gI bs) (rangeI bs.length) := sumOn_le fun c hc => V.load c (mem_rangeI.mp hc).1 (mem_rangeI.mp hc).2
  have a3 : sumOn (gI bs) (rangeI bs.length) = bs.sum := sum_all bs
  omega
/-- one or two cells -/
theorem line_two {bs : List Int} {mw : Int} {st : List (List Int)} (ob : okB bs) (V : Val bs mw st) (h2 : bs.length ≤ 2) : lineF bs mw st = needF bs mw st := by
  by_cases hb : outF st [] ≤ maxF bs
  · exact line_few ob V.row hb
  · refine line_le_need ob V.row fun l ha hn hu => ?_
    have hpos : 0 < l.length := List.length_pos_iff.mpr hn
    have hle := asc_len ha
    obtain ⟨d, d0, d1, hd⟩ := proper ha hu
    have hl1 : l.length = 1 ∧ bs.length = 2 := by
      have : l.length ≠ 2 := fun e => by
        match l, e with
        | [a, b], _ =>
          have ha0 := ha.1 a (by simp)
          have hb0 := ha.1 b (by simp)
          have hab : a < b := (List.pairwise_cons.mp ha.2).1 b (by simp)
          have : d = a ∨ d = b := by omega
          rcases this with e | e <;> subst e <;> simp at hd
      have : bs.length ≠ 1 := fun e => by
        match l, hpos with
        | a :: l', _ =>
          have ha0 := ha.1 a (by simp)
          have : d = a := by omega
          subst this; simp at hd
      omega
    match l, hl1.1 with
    | [c], _ =>
      have hc := ha.1 c (by simp)
      have hcd : c ≠ d := fun e => hd (by subst e; simp)
      have k1 : gI bs d ≤ maxF (outF st [c] :: outerL bs [c]) := maxF_ge (List.mem_cons_of_mem _ (mem_outerL.mpr ⟨d, d0, d1, hd, rfl⟩))
      have k2 : sumL bs [c] = gI bs c := by unfold sumL; simp
      have k3 : bs.sum = gI bs c + gI bs d := by
        match bs, hl1.2 with
        | [p, q], _ =>
          have : (c = 0 ∧ d = 1) ∨ (c = 1 ∧ d = 0) := by simp at hc d1; omega
          rcases this with ⟨e1, e2⟩ | ⟨e1, e2⟩ <;> subst e1 <;> subst e2 <;> simp [gI] <;> omega
      have k4 := bear_total V
      have hh : heightF bs st = outF st [] := by unfold heightF; omega
      have k5 : bs.sum - heightF bs st ≤ slackF bs st [c] := by
        unfold slackF
        rw [k2]
        show _ ≤ (_ : Int) / 1
        rw [Int.ediv_one]; omega
      have k6 : (bs.sum - heightF bs st) / (bs.length : Int) ≤ bs.sum - heightF bs st := Int.ediv_le_self _ (by omega)
      omega
/-- fewer channels than the greatest and the least limit together -/
theorem line_tight {bs : List Int} {mw c : Int} {st : List (List Int)} (ob : okB bs) (V : Val bs mw st) (hm : 0 ≤ mw) (hc : c < maxF bs + minF bs) : needF bs mw st ≤ c ↔ lineF bs mw st ≤ c := by
  have h0 := need_le_line (mw := mw) ob V.row
  refine ⟨fun h => ?_, fun h => by omega⟩
  have hs : heightF bs st ≤ c := by have := need_ge_height ob hm V; omega
  have hg : maxF bs ≤ heightF bs st := by unfold heightF; omega
  unfold needF at h
  rcases minOver_mem (slackF bs st) (lotsT bs.length) (boundF bs mw) with e | ⟨l, hl, e⟩
  · unfold lineF; omega
  · obtain ⟨ha, hn⟩ := mem_lotsT.mp hl
    by_cases hu : l = rangeI bs.length
    · rw [hu, slack_all V.row] at e; unfold lineF; omega
    · exfalso
      have hk : 0 < (l.length : Int) := by have := List.length_pos_iff.mpr hn; omega
      have k1 := proper_top (st := st) ob ha hu
      have k2 : maxF bs + minF bs - heightF bs st ≤ slackF bs st l := by
        unfold slackF
        rw [Int.le_ediv_iff_mul_le hk]
        have k3 : (maxF bs + minF bs - heightF bs st) * (l.length : Int) = (l.length : Int) * minF bs - (l.length : Int) * (heightF bs st - maxF bs) := by
          rw [Int.mul_comm, ← Int.mul_sub]; congr 1; omega
        have k4 : (heightF bs st - maxF bs) ≤ (l.length : Int) * (heightF bs st - maxF bs) := by
          have := Int.mul_le_mul_of_nonneg_right (show (1 : Int) ≤ l.length by omega) (show 0 ≤ heightF bs st - maxF bs by omega)
          omega
        rw [k3]; omega
      omega
/-! ### some contents taken away -/
inductive SubR : List (List Int) → List (List Int) → Prop
  | nil : SubR [] []
  | cons {x y : List Int} {a b : List (List Int)} (h : y = x ∨ y = []) (r : SubR a b) : SubR (y :: a) (x :: b)
theorem SubR.length {a b : List (List Int)} (h : SubR a b) : a.length = b.length := by
  induction h with
  | nil => rfl
  | cons _ _ ih => rw [List.length_cons, List.length_cons, ih]
theorem SubR.snoc {a b : List (List Int)} {x y : List Int} (r : SubR a b) (h : y = x ∨ y = []) : SubR (a ++ [y]) (b ++ [x]) := by
  induction r with
  | nil => exact .cons h .nil
  | cons h' _ ih => exact .cons h' ih
theorem SubR.cnt_le {a b : List (List Int)} (h : SubR a b) {p : List Int → Bool} (hp : p [] = false) : cnt p a ≤ cnt p b := by
  induction h with
  | nil => exact Int.le_refl _
  | @cons x y a b h _ ih =>
    rw [cnt_cons, cnt_cons]
    have : b2n (p y) ≤ b2n (p x) := by
      rcases h with e | e
      · rw [e]; exact Int.le_refl _
      · rw [e, hp]; exact (b2n_le _).1
    omega
theorem SubR.mem {a b : List (List Int)} (h : SubR a b) {y : List Int} (hy : y ∈ a) : y ∈ b ∨ y = [] := by
  induction h with
  | nil => exact absurd hy (by simp)
  | cons h _ ih =>
    rcases List.mem_cons.mp hy with e | hy
    · subst e
      rcases h with e | e
      · exact .inl (by rw [e]; exact List.mem_cons_self)
      · exact .inr e
    · rcases ih hy with e | e
      · exact .inl (List.mem_cons_of_mem _ e)
      · exact .inr e
theorem Val.sub {bs : List Int} {mw : Int} {a b : List (List Int)} (V : Val bs mw b) (h : SubR a b) : Val bs mw a := by
  refine ⟨fun x hx => ?_, fun c c0 c1 => ?_, ?_⟩
  · rcases h.mem hx with e | e
    · exact V.row x e
    · rw [e]; exact .inr ⟨by simp, .nil⟩
  · have := h.cnt_le (p := hasB c) (by simp [hasB])
    have := V.load c c0 c1
    rw [loadF_cnt] at *
    omega
  · have := h.cnt_le (p := wideB) rfl
    have := V.wide
    rw [widesF_cnt] at *
    omega
@[simp] theorem dMin3_s (a b c : Int) : dMin3 (.int a) (.int b) (.int c) = .ok (.int (min (min a b) c)) := (Eq.refl _).trans (Eq.refl _)
end Um

namespace Um
open L2 PySem PySem.Spec PyProof.Rows

/-! ## The sum at a height; room -/
def lineH (bs : List Int) (mw h : Int) : Int := h + min (boundF bs mw) ((bs.sum - h) / (bs.length : Int))
theorem lineF_H (bs : List Int) (mw : Int) (st : List (List Int)) : lineF bs mw st = lineH bs mw (heightF bs st) := rfl
theorem lineH_mono {bs : List Int} {mw h h' : Int} (hb : 1 ≤ bs.length) (hh : h ≤ h') : lineH bs mw h ≤ lineH bs mw h' := by
  unfold lineH
  have hk : 0 < (bs.length : Int) := by omega
  have k1 : (bs.sum - h) / (bs.length : Int) ≤ (bs.sum - h') / (bs.length : Int) + (h' - h) := by
    have e := Int.add_mul_ediv_right (bs.sum - h') (h' - h) (show (bs.length : Int) ≠ 0 by omega)
    rw [← e]
    refine div_le_div hk ?_
    have := Int.mul_le_mul_of_nonneg_left (show (1 : Int) ≤ bs.length by omega) (show 0 ≤ h' - h by omega)
    omega
  omega
/-- outside counts that are not less: needs neither -/
theorem need_mono {bs : List Int} {mw : Int} {st st2 : List (List Int)} (h : ∀ lot, outF st lot ≤ outF st2 lot) : needF bs mw st ≤ needF bs mw st2 := by
  have hh : heightF bs st ≤ heightF bs st2 := by
    have := h []
    unfold heightF; omega
  rw [need_part, need_part]
  refine minOver_mono (by omega) fun l hl => ⟨l, hl, ?_⟩
  have hk : 0 < (l.length : Int) := by have := List.length_pos_iff.mpr (mem_lotsT.mp hl).2; omega
  have h1 := maxF_cons_le (l := outerL bs l) (h l)
  have k1 : ((l.length : Int) - 1) * heightF bs st ≤ ((l.length : Int) - 1) * heightF bs st2 := Int.mul_le_mul_of_nonneg_left hh (by omega)
  unfold partF
  exact div_le_div hk (by omega)
theorem out_nil (lot : List Int) : outF [] lot = 0 := rfl
theorem out_frees (n : Nat) (lot : List Int) : outF (List.replicate n []) lot = 0 := by
  unfold outF
  rw [List.filter_eq_nil_iff.mpr fun x hx => by rw [List.mem_replicate] at hx; rw [hx.2, out_free]; decide]
  rfl
theorem maxF_pos {bs : List Int} (ob : okB bs) : 1 ≤ maxF bs := (ob.2.2 _ (maxF_mem ob.ne)).1
theorem max_le_sum {bs : List Int} (ob : okB bs) : maxF bs ≤ bs.sum := by
  rw [← sum_all]
  obtain ⟨c, c0, c1, e⟩ := mem_gI (maxF_mem ob.ne)
  rw [← e]
  exact sumOn_ge (f := gI bs) (fun d hd => by have := gI_pos ob (mem_rangeI.mp hd).1 (mem_rangeI.mp hd).2; omega) (mem_rangeI.mpr ⟨c0, c1⟩)
/-- few bearing channels: the need is the sum at the greatest limit -/
theorem need_low {bs : List Int} {mw : Int} {st : List (List Int)} (ob : okB bs) (h : ∀ x ∈ st, okRow bs.length x) (hb : outF st [] ≤ maxF bs) : needF bs mw st = lineH bs mw (maxF bs) := by
  rw [← line_few ob h hb, lineF_H]
  congr 1
  unfold heightF; omega
theorem need_free {bs : List Int} {mw : Int} (ob : okB bs) (n : Nat) : needF bs mw (List.replicate n []) = lineH bs mw (maxF bs) :=
  need_low ob (fun x hx => by rw [List.mem_replicate] at hx; rw [hx.2]; exact .inr ⟨by simp, .nil⟩) (by rw [out_frees]; have := maxF_pos ob; omega)
/-- of the heights from the greatest limit on, the last one whose sum fits -/
structure Room (bs : List Int) (mw width r : Int) : Prop where
  none : r = -1 → ∀ h, maxF bs ≤ h → h ≤ min width bs.sum → width < lineH bs mw h
  some : r ≠ -1 → (maxF bs ≤ r ∧ r ≤ min width bs.sum) ∧ lineH bs mw r ≤ width ∧ ∀ h, r < h → h ≤ min width bs.sum → width < lineH bs mw h
theorem Room.unique {bs : List Int} {mw width r r' : Int} (ob : okB bs) (a : Room bs mw width r) (b : Room bs mw width r') : r = r' := by
  have hp := maxF_pos ob
  by_cases h1 : r = -1 <;> by_cases h2 : r' = -1
  · omega
  · obtain ⟨q1, q2, q3⟩ := b.some h2
    have := a.none h1 r' q1.1 q1.2; omega
  · obtain ⟨q1, q2, q3⟩ := a.some h1
    have := b.none h2 r q1.1 q1.2; omega
  · obtain ⟨q1, q2, q3⟩ := a.some h1
    obtain ⟨p1, p2, p3⟩ := b.some h2
    by_cases c : r < r'
    · have := q3 r' c p1.2; omega
    · by_cases c2 : r' < r
      · have := p3 r c2 q1.2; omega
      · omega
theorem lineH_ge {bs : List Int} {mw h : Int} (ob : okB bs) (hm : 0 ≤ mw) (hh : h ≤ bs.sum) : h ≤ lineH bs mw h := by
  have := boundF_nonneg ob hm
  have : 0 ≤ (bs.sum - h) / (bs.length : Int) := Int.ediv_nonneg (by omega) (by omega)
  unfold lineH; omega
theorem Room.iff {bs : List Int} {mw width r : Int} (ob : okB bs) (hm : 0 ≤ mw) (a : Room bs mw width r) : lineH bs mw (maxF bs) ≤ width ↔ 0 ≤ r := by
  have hp := maxF_pos ob
  have hs := max_le_sum ob
  have hg := lineH_ge ob hm hs
  constructor
  · intro h
    by_cases h1 : r = -1
    · have := a.none h1 (maxF bs) (Int.le_refl _) (by omega); omega
    · have := (a.some h1).1; omega
  · intro h
    obtain ⟨q1, q2, q3⟩ := a.some (by omega)
    have := lineH_mono (mw := mw) ob.1 q1.1; omega
/-! ### one local call on each of many channels -/
def singles (at_ : Int) (k : Nat) : List (List Int) := List.replicate k [at_]
/-- at each cell as many calls as given -/
def spreadR (f : Int → Nat) : Nat → List (List Int)
  | 0 => []
  | n + 1 => spreadR f n ++ singles (n : Int) (f (n : Int))
theorem spread_len (f : Int → Nat) : ∀ n, ((spreadR f n).length : Int) = sumOn (fun c => (f c : Int)) (rangeI n)
  | 0 => rfl
  | n + 1 => by
    rw [rangeI_succ, sumOn_app, ← spread_len f n]
    show (((spreadR f n ++ singles (n : Int) (f (n : Int))).length : Nat) : Int) = _
    rw [List.length_append, singles, List.length_replicate, sumOn_cons, sumOn_nil]; omega
theorem mem_spread {f : Int → Nat} : ∀ {n : Nat} {x : List Int}, x ∈ spreadR f n → ∃ c : Int, 0 ≤ c ∧ c < n ∧ x = [c]
  | n + 1, x, h => by
    rcases List.mem_append.mp h with h | h
    · obtain ⟨c, c0, c1, e⟩ := mem_spread h
      exact ⟨c, c0, by omega, e⟩
    · unfold singles at h
      rw [List.mem_replicate] at h
      exact ⟨(n : Int), by omega, by omega, h.2⟩
theorem out_single {lot : List Int} {c : Int} (h0 : 0 ≤ c) : outB lot [c] = !decide (c ∈ lot) := by
  unfold outB
  have : ([c] : List Int) ≠ [-1] := by simp; omega
  simp [this]
/-- how many of these have their call in the lot -/
theorem spread_in (f : Int → Nat) (lot : List Int) : ∀ n, cnt (fun x => !outB lot x) (spreadR f n) = sumOn (fun c => if c ∈ lot then (f c : Int) else 0) (rangeI n)
  | 0 => rfl
  | n + 1 => by
    rw [rangeI_succ, sumOn_app, ← spread_in f lot n]
    show cnt _ (spreadR f n ++ singles (n : Int) (f (n : Int))) = _
    rw [cnt_app, sumOn_cons, sumOn_nil]
    congr 1
    have : ∀ k : Nat, cnt (fun x => !outB lot x) (singles (n : Int) k) = if (n : Int) ∈ lot then (k : Int) else 0 := by
      intro k
      induction k with
      | zero => simp [singles, cnt]
      | succ k ih =>
        show cnt _ ([(n : Int)] :: singles (n : Int) k) = _
        rw [cnt_cons, ih, out_single (by omega)]
        by_cases h : (n : Int) ∈ lot
        · simp [h, b2n]; omega
        · simp [h, b2n]
    rw [this]; omega
theorem cnt_not {α : Type} (p : α → Bool) : ∀ st : List α, cnt p st + cnt (fun x => !p x) st = st.length
  | [] => rfl
  | x :: st => by
    have := cnt_not p st
    rw [cnt_cons, cnt_cons, List.length_cons]
    cases p x <;> simp [b2n] <;> omega
theorem sum_pick {f : Int → Int} {n : Nat} {lot : List Int} (ha : Asc n lot) : sumOn (fun c => if c ∈ lot then f c else 0) (rangeI n) = sumOn f lot := by
  have h1 : sumOn (fun c => if c ∈ lot then f c else 0) (rangeI n) = sumOn f ((rangeI n).filter fun c => decide (c ∈ lot)) := by
    generalize rangeI n = l
    induction l with
    | nil => rfl
    | cons c l ih =>
      rw [sumOn_cons, ih, List.filter_cons]
      by_cases h : c ∈ lot
      · simp only [h, decide_true, if_true]; rw [sumOn_cons]
      · simp [h]
  rw [h1]
  have h2 : (rangeI n).filter (fun c => decide (c ∈ lot)) = lot := by
    have nd2 : (rangeI n).Nodup := asc_all.2.imp fun {a b} h => by omega
    refine List.Perm.eq_of_pairwise (le := fun a b : Int => a < b) (fun a b _ _ h1 h2 => by omega) (asc_all.2.filter _) ha.2 ((List.perm_ext_iff_of_nodup (nd2.filter _) (ha.2.imp fun {a b} h => by omega)).mpr fun c => ?_)
    rw [List.mem_filter, mem_rangeI, decide_eq_true_eq]
    exact ⟨fun h => h.2, fun h => ⟨ha.1 c h, h⟩⟩
  rw [h2]
/-- a state of single calls, at most the limit less a number in each cell, needs at least as many channels as there are, and the number -/
theorem need_spread {bs : List Int} {mw fewer : Int} {st : List (List Int)} {f : Int → Nat} (ob : okB bs) (hf0 : 0 ≤ fewer) (hf : fewer ≤ boundF bs mw) (hsub : List.Sublist st (spreadR f bs.length)) (hfc : ∀ c : Int, 0 ≤ c → c < bs.length → (f c : Int) = gI bs c - fewer) (n : Nat) (hm : maxF bs ≤ (st.length : Int)) :
    (st.length : Int) + fewer ≤ needF bs mw (st ++ List.replicate n []) := by
  have hall : ∀ x ∈ st, ∃ c : Int, 0 ≤ c ∧ c < bs.length ∧ x = [c] := fun x hx => mem_spread (hsub.subset hx)
  have ho : ∀ lot, outF (st ++ List.replicate n []) lot = outF st lot := fun lot => by
    rw [outF_cnt, cnt_app, ← outF_cnt, ← outF_cnt, out_frees]; omega
  have hb : outF st [] = st.length := by
    have := cnt_not (outB []) st
    have h0 : cnt (fun x => !outB [] x) st = 0 := by
      unfold cnt
      rw [List.filter_eq_nil_iff.mpr fun x hx => by
        obtain ⟨c, c0, _, e⟩ := hall x hx
        subst e
        rw [out_single c0]; simp]
      rfl
    rw [outF_cnt]; omega
  have hh : heightF bs (st ++ List.replicate n []) = st.length := by
    unfold heightF
    rw [ho, hb]; omega
  unfold needF
  rw [hh]
  have key : fewer ≤ minOver (slackF bs (st ++ List.replicate n [])) (boundF bs mw) (lotsT bs.length) := by
    rcases minOver_mem (slackF bs (st ++ List.replicate n [])) (lotsT bs.length) (boundF bs mw) with e | ⟨l, hl, e⟩
    · omega
    · rw [e]
      obtain ⟨ha, hn⟩ := mem_lotsT.mp hl
      have hk : 0 < (l.length : Int) := by have := List.length_pos_iff.mpr hn; omega
      unfold slackF
      rw [hh, ho, Int.le_ediv_iff_mul_le hk]
      have k1 : outF st l ≤ maxF (outF st l :: outerL bs l) := maxF_ge List.mem_cons_self
      have k2 := cnt_not (outB l) st
      have k3 : cnt (fun x => !outB l x) st ≤ cnt (fun x => !outB l x) (spreadR f bs.length) := by
        unfold cnt
        have := (hsub.filter fun x => !outB l x).length_le
        omega
      rw [spread_in, sum_pick ha] at k3
      have k4 : sumOn (fun c => (f c : Int)) l = sumL bs l - (l.length : Int) * fewer := by
        have e1 : sumOn (fun c => (f c : Int)) l = sumOn (fun c => gI bs c + -fewer) l := sumOn_cong fun c hc => by rw [hfc c (ha.1 c hc).1 (ha.1 c hc).2]; omega
        rw [e1, sumOn_add, sumOn_const]
        have : sumL bs l = sumOn (gI bs) l := rfl
        rw [this, Int.mul_neg]; omega
      rw [← outF_cnt] at k2
      rw [Int.mul_comm]
      omega
  omega
end Um

namespace Um
open L2 PySem PySem.Spec PyProof.Rows

/-! ## Raised limits -/
def RaiseB (bs bs2 : List Int) : Prop := bs2.length = bs.length ∧ ∀ c : Int, 0 ≤ c → c < bs.length → gI bs c ≤ gI bs2 c
theorem RaiseB.maxF {bs bs2 : List Int} (h : RaiseB bs bs2) (hn : bs ≠ []) : maxF bs ≤ maxF bs2 := by
  obtain ⟨c, h0, h1, e⟩ := mem_gI (maxF_mem hn)
  have h2 := h.2 c h0 h1
  have h3 : gI bs2 c ≤ Um.maxF bs2 := maxF_ge (gI_mem h0 (by have := h.1; omega))
  omega
theorem RaiseB.minF {bs bs2 : List Int} (h : RaiseB bs bs2) (hn : bs2 ≠ []) : minF bs ≤ minF bs2 := by
  obtain ⟨c, h0, h1, e⟩ := mem_gI (minF_mem hn)
  have h1' : c < bs.length := by have := h.1; omega
  have h2 := h.2 c h0 h1'
  have h3 : Um.minF bs ≤ gI bs c := minF_le (gI_mem h0 h1')
  omega
theorem RaiseB.sumL {bs bs2 : List Int} (h : RaiseB bs bs2) {lot : List Int} (hl : Asc bs.length lot) : sumL bs lot ≤ sumL bs2 lot :=
  sumOn_le (f := gI bs) (g := gI bs2) fun c hc => h.2 c (hl.1 c hc).1 (hl.1 c hc).2
theorem RaiseB.outer {bs bs2 : List Int} (h : RaiseB bs bs2) (o : Int) (lot : List Int) : Um.maxF (o :: outerL bs lot) ≤ Um.maxF (o :: outerL bs2 lot) := by
  have hm : Um.maxF (o :: outerL bs lot) ∈ o :: outerL bs lot := maxF_mem (by simp)
  rcases List.mem_cons.mp hm with e | e
  · rw [e]; exact maxF_ge (List.mem_cons_self ..)
  · obtain ⟨c, h0, h1, hc, e2⟩ := mem_outerL.mp e
    have h2 := h.2 c h0 h1
    have h3 : gI bs2 c ≤ Um.maxF (o :: outerL bs2 lot) := maxF_ge (List.mem_cons_of_mem _ (mem_outerL.mpr ⟨c, h0, by have := h.1; omega, hc, rfl⟩))
    omega
theorem RaiseB.height {bs bs2 : List Int} (h : RaiseB bs bs2) (hn : bs ≠ []) (st : List (List Int)) : heightF bs st ≤ heightF bs2 st := by
  have := h.maxF hn
  unfold heightF; omega
theorem need_raise {bs bs2 : List Int} {mw mw2 : Int} (st : List (List Int)) (h : RaiseB bs bs2) (hm : mw ≤ mw2) (hn : bs ≠ []) : needF bs mw st ≤ needF bs2 mw2 st := by
  have hn2 : bs2 ≠ [] := fun e => hn (List.eq_nil_of_length_eq_zero (by rw [← h.1, e]; rfl))
  have h1 := h.height hn st
  have h2 := h.minF hn2
  rw [need_part, need_part]
  rw [h.1]
  refine minOver_mono (by unfold boundF; omega) fun l hl => ⟨l, hl, ?_⟩
  obtain ⟨ha, hne⟩ := mem_lotsT.mp hl
  have hpos : 0 < l.length := List.length_pos_iff.mpr hne
  have h3 := h.sumL ha
  have h4 := h.outer (outF st l) l
  unfold partF
  refine div_le_div (by omega) ?_
  have h5 : ((l.length : Int) - 1) * heightF bs st ≤ ((l.length : Int) - 1) * heightF bs2 st := Int.mul_le_mul_of_nonneg_left h1 (by omega)
  omega
theorem RaiseB.refl (bs : List Int) : RaiseB bs bs := ⟨rfl, fun _ _ _ => Int.le_refl _⟩
theorem gI_set {bs : List Int} {c v d : Int} (h0 : 0 ≤ c) (h1 : c < bs.length) (hd : 0 ≤ d) : gI (bs.set c.toNat v) d = if d = c then v else gI bs d := by
  unfold gI
  rw [List.getElem?_set]
  by_cases h : d = c
  · subst h
    rw [if_pos rfl, if_pos (by omega), if_pos rfl]; rfl
  · rw [if_neg (by omega), if_neg h]
theorem RaiseB.set {bs : List Int} {c v : Int} (h0 : 0 ≤ c) (h1 : c < bs.length) (hv : gI bs c ≤ v) : RaiseB bs (bs.set c.toNat v) := by
  refine ⟨List.length_set, fun d h2 h3 => ?_⟩
  rw [gI_set h0 h1 h2]
  split
  · rename_i e; subst e; exact hv
  · exact Int.le_refl _
theorem okB.set {bs : List Int} (ob : okB bs) {c : Nat} {v : Int} (hv : 1 ≤ v ∧ v ≤ 20) : okB (bs.set c v) := by
  refine ⟨by rw [List.length_set]; exact ob.1, by rw [List.length_set]; exact ob.2.1, fun b hb => ?_⟩
  rcases List.mem_or_eq_of_mem_set hb with h | h
  · exact ob.2.2 b h
  · subst h; exact hv
theorem house_isM (bs : List Int) (ch mw : Int) : isM "House" "changed" (houseD bs ch mw) = .ok (houseD bs ch mw) := (Eq.refl _).trans (Eq.refl _)
@[simp] theorem isN_lst (xs : List D) : dIsN (.lst xs) .non = .ok false := (Eq.refl _).trans (Eq.refl _)
@[simp] theorem isN_tup (xs : List D) : dIsN (.tup xs) .non = .ok false := (Eq.refl _).trans (Eq.refl _)
@[simp] theorem isN_tl (xs : List Int) : dIsN (tl xs) .non = .ok false := (Eq.refl _).trans (Eq.refl _)
@[simp] theorem isN_int (x : Int) : dIsN (.int x) .non = .ok false := (Eq.refl _).trans (Eq.refl _)
@[simp] theorem isN_non : dIsN .non .non = .ok true := (Eq.refl _).trans (Eq.refl _)
end Um

namespace Um
open L2 PySem PySem.Spec PyProof.Rows

/-! ## Rows of channels -/
def Chs (n : Nat) (l : List Int) : Prop := l.Nodup ∧ ∀ x ∈ l, 0 ≤ x ∧ x < n
theorem rangeI_nodup (n : Nat) : (rangeI n).Nodup := (asc_all (n := n)).2.imp fun h => by omega
theorem chs_all (n : Nat) : Chs n (rangeI n) := ⟨rangeI_nodup n, fun x h => mem_rangeI.mp h⟩
theorem Chs.perm {n : Nat} {l k : List Int} (h : Chs n l) (p : k.Perm l) : Chs n k := ⟨p.nodup_iff.mpr h.1, fun x hx => h.2 x (p.mem_iff.mp hx)⟩
theorem Chs.sub {n : Nat} {l k : List Int} (h : Chs n l) (p : k.Sublist l) : Chs n k := ⟨h.1.sublist p, fun x hx => h.2 x (p.subset hx)⟩
theorem rest_len {n : Nat} {l : List Int} (h : Chs n l) : ((rangeI n).filter fun i => !decide (i ∈ l)).length + l.length = n := by
  have e := cnt_not (fun i => decide (i ∈ l)) (rangeI n)
  rw [rangeI_len] at e
  have p : ((rangeI n).filter fun i => decide (i ∈ l)).Perm l := by
    refine (List.perm_ext_iff_of_nodup ((rangeI_nodup n).sublist (List.filter_sublist ..)) h.1).mpr fun a => ?_
    rw [List.mem_filter, mem_rangeI]
    exact ⟨fun q => of_decide_eq_true q.2, fun q => ⟨h.2 a q, decide_eq_true q⟩⟩
  have e2 := p.length_eq
  unfold cnt at e
  omega
theorem Chs.len {n : Nat} {l : List Int} (h : Chs n l) : l.length ≤ n := by have := rest_len h; omega
def IsIs (a : D) (l : List Int) : Prop := a = .lst (il l) ∨ a = tl l
theorem IsIs.l (l : List Int) : IsIs (.lst (il l)) l := .inl rfl
theorem IsIs.t (l : List Int) : IsIs (tl l) l := .inr rfl
theorem IsIs.len {a : D} {l : List Int} (h : IsIs a l) : dLen a = .ok (.int (l.length : Int)) := by rcases h with e | e <;> subst e <;> simp [dLen]
theorem IsIs.list {a : D} {l : List Int} (h : IsIs a l) : dList a = .ok (.lst (il l)) := by rcases h with e | e <;> subst e <;> rfl
theorem IsIs.notIn {a : D} {l : List Int} (h : IsIs a l) (i : Int) : dNotIn (.int i) a = .ok (!decide (i ∈ l)) := by
  rcases h with e | e <;> subst e
  · exact dNotIn_il i l
  · exact dNotIn_it i l
theorem IsIs.has {a : D} {l : List Int} (h : IsIs a l) (i : Int) : dIn (.int i) a = .ok (decide (i ∈ l)) := by
  rcases h with e | e <;> subst e
  · exact dIn_il i l
  · exact dIn_it i l
theorem IsIs.items {a : D} {l : List Int} (h : IsIs a l) : dItems a = .ok (il l) := by rcases h with e | e <;> subst e <;> rfl
def restF (st : List (List Int)) (cl : List Int) : List (List Int) := ((rangeI st.length).filter fun i => !decide (i ∈ cl)).map (gR st)
theorem restF_len {st : List (List Int)} {cl : List Int} (h : Chs st.length cl) : (restF st cl).length + cl.length = st.length := by
  unfold restF; rw [List.length_map]; exact rest_len h
theorem gR_mem {st : List (List Int)} {c : Int} (h0 : 0 ≤ c) (h1 : c < st.length) : gR st c ∈ st := (gR_row h0 h1).2
theorem restF_mem {st : List (List Int)} {cl : List Int} {x : List Int} (h : x ∈ restF st cl) : x ∈ st := by
  obtain ⟨i, hi, rfl⟩ := List.mem_map.mp h
  obtain ⟨h0, h1⟩ := mem_rangeI.mp (List.mem_filter.mp hi).1
  exact gR_mem h0 h1
theorem rest_c {a : D} {st : List (List Int)} (ha : IsSt a st) {d : D} {cl : List Int} (hd : IsIs d cl) : compC (rngD 0 1 st.length) (fun x => R.op2 dNotIn (R.ok x) (R.ok d)) (fun x => R.op2 dIx (R.ok a) (R.ok x)) = .ok (rows (restF st cl)) := by
  rw [rng_il, compC_t D.int tl (fun i => !decide (i ∈ cl)) (gR st) (fun i _ => by rw [R.op2_ok, hd.notIn]) fun i hi _ => by
    obtain ⟨h0, h1⟩ := mem_rangeI.mp hi
    rw [R.op2_ok, (ha.ix h0 h1).1]]
  rfl
@[simp] theorem dRevL_l (xs : List D) : dRevL (.lst xs) = .ok (.lst xs.reverse) := (Eq.refl _).trans (Eq.refl _)
theorem isi_house (bs : List Int) (ch mw : Int) : dIsI [Str.ofString "House"] (houseD bs ch mw) (.cl (Str.ofString "House")) = .ok (.bl true) :=
  show (if (Str.ofString "House") = (Str.ofString "House") ∧ (Str.ofString "House") ∈ [Str.ofString "House"] then R.ok (D.bl true) else R.bad) = _ from if_pos ⟨rfl, List.mem_singleton.mpr rfl⟩
theorem il_rev (a : List Int) : (il a).reverse = il a.reverse := List.map_reverse.symm
theorem il_set (a : List Int) (i : Nat) (v : Int) : (il a).set i (.int v) = il (a.set i v) := List.map_set.symm
theorem rows_take (p : List (List Int)) (n : Nat) : (rows p).take n = rows (p.take n) := List.map_take.symm
theorem rows_drop (p : List (List Int)) (n : Nat) : (rows p).drop n = rows (p.drop n) := List.map_drop.symm
end Um

namespace Um
open L2 PySem PySem.Spec PyProof.Rows

/-! ## Low states, picks -/
theorem need_two {bs : List Int} {mw : Int} (ob : okB bs) : needF bs mw [] ≤ maxF bs + minF bs := by
  have h := need_low (mw := mw) (st := []) ob (by simp) (by rw [out_nil]; have := maxF_pos ob; omega)
  rw [h]
  unfold lineH boundF
  omega
def LowS (g : Int) (st : List (List Int)) : Prop := ∀ (i : Nat) x, g ≤ (i : Int) → st[i]? = some x → x = [] ∨ x = [-1]
theorem low_bear {g : Int} {st : List (List Int)} (h : LowS g st) (hg : 0 ≤ g) : outF st [] ≤ g := by
  rw [outF_cnt]
  have e : cnt (outB []) st = cnt (outB []) (st.take g.toNat) + cnt (outB []) (st.drop g.toNat) := by rw [← cnt_app, List.take_append_drop]
  have h1 : cnt (outB []) (st.drop g.toNat) ≤ 0 := by
    have : cnt (outB []) (st.drop g.toNat) = cnt (fun _ : List Int => false) (st.drop g.toNat) := cnt_cong fun x hx => by
      obtain ⟨i, hi⟩ := List.getElem?_of_mem hx
      rw [List.getElem?_drop] at hi
      rcases h _ x (by omega) hi with e | e <;> subst e
      · exact out_free _
      · exact out_wide _
    rw [this]
    unfold cnt; simp
  have h2 := cnt_le (outB []) (st.take g.toNat)
  rw [List.length_take] at h2
  omega
theorem low_need {bs : List Int} {mw : Int} {st : List (List Int)} (ob : okB bs) (hr : ∀ x ∈ st, okRow bs.length x) (h : LowS (maxF bs) st) : needF bs mw st = needF bs mw [] := by
  have hp := maxF_pos ob
  rw [need_low ob hr (low_bear h (by omega)), need_low (st := []) ob (by simp) (by rw [out_nil]; omega)]
theorem LowS.set {g : Int} {st : List (List Int)} {i : Nat} {y : List Int} (h : LowS g st) (hy : g ≤ (i : Int) → y = [] ∨ y = [-1]) : LowS g (st.set i y) := fun j x hj hx => by
  rw [List.getElem?_set] at hx
  by_cases e : i = j
  · subst e
    rw [if_pos rfl] at hx
    split at hx
    · cases hx; exact hy hj
    · cases hx
  · rw [if_neg e] at hx; exact h j x hj hx
theorem wide_need {bs : List Int} {mw : Int} {st : List (List Int)} (ob : okB bs) (V : Val bs mw st) (ha : allowB bs mw st (-1) = true) : cnt busyB st + 1 ≤ needF bs mw st := by
  have hw : ∀ c : Int, 0 ≤ c → c < bs.length → loadF st c < gI bs c := fun c h0 h1 => by
    unfold allowB at ha
    rw [if_neg (by omega)] at ha
    have := (Bool.and_eq_true _ _).mp ha
    have h2 := this.1
    apply Classical.byContradiction
    intro hn
    have h3 : ((rangeI bs.length).any fun c => decide (gI bs c ≤ loadF st c)) = true := List.any_eq_true.mpr ⟨c, mem_rangeI.mpr ⟨h0, h1⟩, decide_eq_true (by omega)⟩
    rw [h3] at h2
    cases h2
  have hm : widesF st < mw := by
    unfold allowB at ha
    rw [if_neg (by omega)] at ha
    exact of_decide_eq_true ((Bool.and_eq_true _ _).mp ha).2
  have V2 : Val bs mw (st ++ [[-1]]) := by
    refine ⟨fun x hx => ?_, fun c h0 h1 => ?_, ?_⟩
    · rcases List.mem_append.mp hx with h | h
      · exact V.row x h
      · exact .inl (List.mem_singleton.mp h)
    · have := hw c h0 h1
      rw [loadF_cnt, cnt_app, ← loadF_cnt]
      have : cnt (hasB c) [[-1]] ≤ 1 := cnt_le _ _
      omega
    · rw [widesF_cnt, cnt_app, ← widesF_cnt]
      have : cnt wideB [[-1]] ≤ 1 := cnt_le _ _
      omega
  have h1 := need_ge_busy ob V2
  have h2 : needF bs mw (st ++ [[-1]]) = needF bs mw st := need_cong fun lot => by
    rw [outF_cnt, cnt_app, ← outF_cnt, cnt_cons, out_wide, cnt_nil]
    show _ + (0 + 0) = _
    omega
  rw [h2, cnt_app, cnt_cons, cnt_nil] at h1
  have : b2n (busyB [-1]) = 1 := rfl
  omega
theorem free_of {st : List (List Int)} (h : cnt busyB st < st.length) : ∃ i : Int, 0 ≤ i ∧ i < st.length ∧ gR st i = [] := by
  have e := cnt_not busyB st
  have h1 : 0 < cnt (fun x => !busyB x) st := by omega
  unfold cnt at h1
  obtain ⟨x, hx⟩ := List.exists_mem_of_length_pos (by omega : 0 < (st.filter fun x => !busyB x).length)
  obtain ⟨hm, hb⟩ := List.mem_filter.mp hx
  obtain ⟨i, hi⟩ := List.getElem?_of_mem hm
  have hl := (List.getElem?_eq_some_iff.mp hi).1
  refine ⟨(i : Int), by omega, by omega, ?_⟩
  unfold gR
  rw [Int.toNat_natCast, hi]
  have hb' : (!busyB x) = true := hb
  unfold busyB at hb'
  simpa using hb'
theorem local_room {bs : List Int} {mw g : Int} {st : List (List Int)} {w : Int} (hw : 0 ≤ w) (ha : allowB bs mw st w = true) (hb : gI bs w ≤ g) (hg : g ≤ st.length) : ∃ i : Int, 0 ≤ i ∧ i < g ∧ fitB (gR st i) w = true := by
  have hl : loadF st w < gI bs w := by
    unfold allowB at ha
    rw [if_pos hw] at ha
    exact of_decide_eq_true ha
  apply Classical.byContradiction
  intro hn
  have h1 : cnt (hasB w) (st.take g.toNat) = cnt (fun _ : List Int => true) (st.take g.toNat) := cnt_cong fun x hx => by
    obtain ⟨i, hi⟩ := List.getElem?_of_mem hx
    have hi2 := (List.getElem?_eq_some_iff.mp hi).1
    rw [List.length_take] at hi2
    rw [List.getElem?_take] at hi
    rw [if_pos (by omega)] at hi
    have e : gR st (i : Int) = x := by unfold gR; rw [Int.toNat_natCast, hi]; rfl
    have hf : fitB x w = false := by
      cases h : fitB x w with
      | false => rfl
      | true => exact (hn ⟨(i : Int), by omega, by omega, by rw [e]; exact h⟩).elim
    unfold fitB at hf
    rw [if_neg (by omega)] at hf
    unfold hasB
    cases h1 : decide (x = [-1]) with
    | true => rfl
    | false =>
      rw [h1] at hf
      cases h2 : decide (w ∈ x) with
      | true => rfl
      | false => rw [h2] at hf; cases hf
  have h2 : cnt (fun _ : List Int => true) (st.take g.toNat) = ((st.take g.toNat).length : Int) := by unfold cnt; rw [List.filter_eq_self.mpr fun _ _ => rfl]
  have h3 : cnt (hasB w) (st.take g.toNat) ≤ loadF st w := by
    rw [loadF_cnt]
    have : cnt (hasB w) st = cnt (hasB w) (st.take g.toNat) + cnt (hasB w) (st.drop g.toNat) := by rw [← cnt_app, List.take_append_drop]
    have := cnt_nonneg (hasB w) (st.drop g.toNat)
    omega
  rw [List.length_take] at h2
  omega
def firstOr (l : List Int) : Int := l.head?.getD (-1)
def lastOr (l : List Int) : Int := l.getLast?.getD (-1)
theorem first_le {l : List Int} (h : l.Pairwise (· < ·)) {i : Int} (hi : i ∈ l) : firstOr l ∈ l ∧ firstOr l ≤ i := by
  cases l with
  | nil => cases hi
  | cons a l =>
    refine ⟨List.mem_cons_self .., ?_⟩
    show a ≤ i
    rcases List.mem_cons.mp hi with e | e
    · omega
    · have := (List.pairwise_cons.mp h).1 i e; omega
theorem last_mem {l : List Int} (h : l ≠ []) : lastOr l ∈ l := by
  unfold lastOr
  rw [List.getLast?_eq_some_getLast h]
  exact List.getLast_mem h
theorem dIx_last {l : List Int} (h : l ≠ []) : dIx (.lst (il l)) (.int (-1)) = .ok (.int (lastOr l)) := by
  have e : atI (il l) (-1) = some (.int (lastOr l)) := by
    have hl := List.dropLast_concat_getLast h
    have h2 : il l = il l.dropLast ++ [D.int (l.getLast h)] := by
      conv => lhs; rw [← hl]
      simp [il]
    rw [h2, atI_last]
    congr 2
    unfold lastOr
    rw [List.getLast?_eq_some_getLast h]; rfl
  unfold dIx; simp only [e]
def onlyF (w : Int) (x : List Int) : List Int := x.filter fun a => decide (a = -1) || decide (a = w)
theorem fit_only {n : Nat} {w : Int} (hw : 0 ≤ w) {x : List Int} (h : okRow n x) : fitB (onlyF w x) w = fitB x w := by
  unfold fitB
  have hn : ¬ w = -1 := by omega
  rw [if_neg hn, if_neg hn]
  have hm : w ∈ onlyF w x ↔ w ∈ x := by
    unfold onlyF
    rw [List.mem_filter]
    simp
  rcases h with e | h
  · subst e
    have : onlyF w [-1] = [-1] := by simp [onlyF]
    rw [this]
  · have h1 : ¬ x = [-1] := fun e => by
      have := h.1 (-1) (by rw [e]; simp)
      omega
    have h2 : ¬ onlyF w x = [-1] := fun e => by
      have : (-1 : Int) ∈ onlyF w x := by rw [e]; simp
      have := h.1 (-1) (List.mem_filter.mp this).1
      omega
    simp only [h1, h2, hm]
def lowB (st : List (List Int)) : Bool := st.all fun x => decide (x = []) || decide (x = [-1])
theorem lowB_drop {g : Int} {st : List (List Int)} (hg : 0 ≤ g) (h : LowS g st) : lowB (st.drop g.toNat) = true := by
  unfold lowB
  refine List.all_eq_true.mpr fun x hx => ?_
  obtain ⟨i, hi⟩ := List.getElem?_of_mem hx
  rw [List.getElem?_drop] at hi
  rcases h _ x (by omega) hi with e | e <;> subst e <;> rfl
theorem dEq_str {a b : Str} (ha : PyData.strOk a = true) (hb : PyData.strOk b = true) : dEq (.str a) (.str b) = .ok (a == b) := by
  unfold dEq
  simp only [toPy]
  rw [if_pos ⟨by simp [SeqAt.shaped, PyData.canLay0, PyData.depth, ha], by simp [SeqAt.shaped, PyData.canLay0, PyData.depth, hb]⟩]
  simp [PyData.eqv]
theorem go_go : dEq (.str (Str.ofString "go")) (.str (Str.ofString "go")) = .ok true := by rw [dEq_str (by decide +kernel) (by decide +kernel)]; exact congrArg R.ok (by decide +kernel)
theorem come_go : dEq (.str (Str.ofString "come")) (.str (Str.ofString "go")) = .ok false := by rw [dEq_str (by decide +kernel) (by decide +kernel)]; exact congrArg R.ok (by decide +kernel)
theorem SubR.self : ∀ st : List (List Int), SubR st st
  | [] => .nil
  | x :: st => .cons (.inl rfl) (SubR.self st)
theorem SubR.set_nil : ∀ (st : List (List Int)) (i : Nat), SubR (st.set i []) st
  | [], _ => .nil
  | x :: st, 0 => .cons (.inr rfl) (SubR.self st)
  | x :: st, i + 1 => .cons (.inl rfl) (SubR.set_nil st i)
theorem forC_Q {S α : Type} (P : R α → Prop) (I : Nat → S → Prop) (J : S → Prop) {ds : List D} {s : S} {body : D → S → (S → R α) → (S → R α) → R α} {after : S → R α} (h0 : I 0 s)
    (hb : ∀ i d s nx bk, ds[i]? = some d → I i s → (∀ s', I (i + 1) s' → P (nx s')) → (∀ s', J s' → P (bk s')) → P (body d s nx bk)) (hJ : ∀ s, I ds.length s → J s) (ha : ∀ s, J s → P (after s)) : P (forC ds s body after) := by
  induction ds generalizing s I with
  | nil => exact ha s (hJ s h0)
  | cons d ds ih =>
    exact hb 0 d s _ _ rfl h0 (fun s' h1 => ih (fun i => I (i + 1)) h1 (fun i d s nx bk hd hi h2 h3 => hb (i + 1) d s nx bk (by simpa using hd) hi h2 h3) fun s h => hJ s h) ha
end Um

namespace Um
open L2 PySem PySem.Spec PyProof.Rows

/-! ## A safe state never ends: an allowed call can be granted -/
theorem cnt_lt {α : Type} {p q : α → Bool} : ∀ {st : List α}, cnt p st < cnt q st → ∃ (i : Nat) (x : α), st[i]? = some x ∧ q x = true ∧ p x = false
  | [], h => by simp [cnt_nil] at h
  | x :: st, h => by
    rw [cnt_cons, cnt_cons] at h
    by_cases hx : q x = true ∧ p x = false
    · exact ⟨0, x, rfl, hx⟩
    · have : cnt p st < cnt q st := by
        have h1 := b2n_le (p x); have h2 := b2n_le (q x)
        cases hq : q x <;> cases hp : p x <;> rw [hq, hp] at h hx <;> simp [b2n] at h hx <;> omega
      obtain ⟨i, y, h1, h2⟩ := cnt_lt this
      exact ⟨i + 1, y, by simpa using h1, h2⟩
theorem fit_of_out {n : Nat} {lot x : List Int} {w : Int} (h : outB lot x = true) (hw : 0 ≤ w) (hx : decide (w ∈ x) = false) : fitB x w = true := by
  unfold fitB
  rw [if_neg (by omega), hx]
  unfold outB at h
  rw [((Bool.and_eq_true _ _).mp h).1]; rfl
theorem out_any {lot x : List Int} (h : outB lot x = true) : outB [] x = true := by
  unfold outB at h ⊢
  obtain ⟨h1, h2⟩ := (Bool.and_eq_true _ _).mp h
  obtain ⟨c, hc, _⟩ := List.any_eq_true.mp h2
  rw [h1]
  exact List.any_eq_true.mpr ⟨c, hc, by simp⟩
/-- a call on a bearing channel: what stays -/
theorem out_keep {n : Nat} {st : List (List Int)} {i : Nat} {x : List Int} {w : Int} {lot : List Int} (hx : st[i]? = some x) (hr : okRow n x) (hf : fitB x w = true) (hw : 0 ≤ w ∧ w < n) (h : outB lot x = true ∨ w ∈ lot) : outF (st.set i (sortI (x ++ [w]))) lot = outF st lot := by
  rcases fit_cases hr hf with ⟨e, _⟩ | ⟨_, ha, hwx⟩
  · omega
  · rw [out_step hx hr hf (by omega), outB_add lot ha hwx hw]
    rcases h with h | h
    · rw [h]; simp [b2n]
    · rw [decide_eq_true h]; cases outB lot x <;> simp [b2n]
theorem need_le_lot {bs : List Int} {mw : Int} {st : List (List Int)} {l : List Int} (h : l ∈ lotsT bs.length) : needF bs mw st ≤ partF bs st l := by
  rw [need_part]; exact (minOver_le _ _ _).2 l h
theorem need_le_bound {bs : List Int} {mw : Int} {st : List (List Int)} : needF bs mw st ≤ heightF bs st + boundF bs mw := by
  rw [need_part]; exact (minOver_le _ _ _).1
theorem need_at {bs : List Int} {mw : Int} {st : List (List Int)} : needF bs mw st = heightF bs st + boundF bs mw ∨ ∃ l ∈ lotsT bs.length, needF bs mw st = partF bs st l := by
  rw [need_part]; exact minOver_mem _ _ _
theorem maxF_same {o o' : Int} {l : List Int} {v : Int} (hv : v ∈ l) (h1 : o ≤ v) (h2 : o' ≤ v) : maxF (o :: l) = maxF (o' :: l) := by
  have key : ∀ a b : Int, a ≤ v → maxF (a :: l) ≤ maxF (b :: l) := fun a b ha => by
    have hm : maxF (a :: l) ∈ a :: l := maxF_mem (by simp)
    rcases List.mem_cons.mp hm with e | e
    · rw [e]
      have : v ≤ maxF (b :: l) := maxF_ge (List.mem_cons_of_mem _ hv)
      omega
    · exact maxF_ge (List.mem_cons_of_mem _ e)
  have := key o o' h1
  have := key o' o h2
  omega
theorem grant_local {bs : List Int} {mw : Int} {st : List (List Int)} {w : Int} (ob : okB bs) (hm : 0 ≤ mw) (V : Val bs mw st) (hw : 0 ≤ w ∧ w < bs.length) (ha : allowB bs mw st w = true) (hn : needF bs mw st ≤ st.length) :
    ∃ (i : Nat) (x : List Int), st[i]? = some x ∧ fitB x w = true ∧ needF bs mw (st.set i (sortI (x ++ [w]))) ≤ needF bs mw st := by
  have hg := need_ge_height ob hm V
  have hgw : gI bs w ≤ maxF bs := maxF_ge (gI_mem hw.1 hw.2)
  have hl : loadF st w < gI bs w := by
    unfold allowB at ha
    rw [if_pos hw.1] at ha
    exact of_decide_eq_true ha
  have hls := load_split V.row hw.1
  have hwd : 0 ≤ widesF st := by rw [widesF_cnt]; exact cnt_nonneg _ _
  by_cases hB : outF st [] < maxF bs
  · -- few bear
    have hh : maxF bs ≤ heightF bs st := by unfold heightF; omega
    obtain ⟨j, h0, h1, hf⟩ := local_room hw.1 ha hgw (by omega)
    have hj : st[j.toNat]? = some (gR st j) := by
      unfold gR
      rw [List.getElem?_eq_getElem (by omega : j.toNat < st.length)]; rfl
    refine ⟨j.toNat, _, hj, hf, ?_⟩
    have hr := V.row _ (List.mem_of_getElem? hj)
    have hs := out_local_step hj hr hf hw []
    have V2 := V.add hj hf ha (by omega)
    rw [need_low ob V2.row (by omega), need_low ob V.row (by omega)]
    exact Int.le_refl _
  · have hh : heightF bs st = outF st [] := by unfold heightF; omega
    -- a bearing channel without w
    have hlt : locF st w < outF st [] := by omega
    obtain ⟨i, x, hx, hq, hp⟩ : ∃ (i : Nat) (x : List Int), st[i]? = some x ∧ outB [] x = true ∧ decide (w ∈ x) = false := by
      rw [outF_cnt] at hlt; exact cnt_lt hlt
    have hr := V.row _ (List.mem_of_getElem? hx)
    have hf : fitB x w = true := fit_of_out (n := bs.length) hq hw.1 hp
    have k0 := out_keep hx hr hf hw (.inl hq)
    have hh2 : heightF bs (st.set i (sortI (x ++ [w]))) = heightF bs st := by unfold heightF; rw [k0]
    rcases need_at (bs := bs) (mw := mw) (st := st) with e | ⟨L, hL, e⟩
    · refine ⟨i, x, hx, hf, ?_⟩
      rw [e, ← hh2]; exact need_le_bound
    · by_cases hwL : w ∈ L
      · refine ⟨i, x, hx, hf, ?_⟩
        have k1 := out_keep hx hr hf hw (lot := L) (.inr hwL)
        rw [e]
        refine Int.le_trans (need_le_lot hL) ?_
        unfold partF; rw [hh2, k1]; exact Int.le_refl _
      · by_cases hc : locF st w < outF st L
        · obtain ⟨i, x, hx, hq, hp⟩ : ∃ (i : Nat) (x : List Int), st[i]? = some x ∧ outB L x = true ∧ decide (w ∈ x) = false := by
            rw [outF_cnt] at hc; exact cnt_lt hc
          have hr := V.row _ (List.mem_of_getElem? hx)
          have hf : fitB x w = true := fit_of_out (n := bs.length) hq hw.1 hp
          have k0 := out_keep hx hr hf hw (.inl (out_any hq))
          have k1 := out_keep hx hr hf hw (.inl hq)
          have hh2 : heightF bs (st.set i (sortI (x ++ [w]))) = heightF bs st := by unfold heightF; rw [k0]
          refine ⟨i, x, hx, hf, ?_⟩
          rw [e]
          refine Int.le_trans (need_le_lot hL) ?_
          unfold partF; rw [hh2, k1]; exact Int.le_refl _
        · refine ⟨i, x, hx, hf, ?_⟩
          rw [e]
          refine Int.le_trans (need_le_lot hL) ?_
          have hs := out_local_step hx hr hf hw L
          have hv : gI bs w ∈ outerL bs L := mem_outerL.mpr ⟨w, hw.1, hw.2, hwL, rfl⟩
          have hmx := maxF_same (o := outF (st.set i (sortI (x ++ [w]))) L) (o' := outF st L) hv (by omega) (by omega)
          unfold partF; rw [hh2, hmx]; exact Int.le_refl _
theorem grant_any {bs : List Int} {mw : Int} {st : List (List Int)} {w : Int} (ob : okB bs) (hm : 0 ≤ mw) (V : Val bs mw st) (hw : -1 ≤ w ∧ w < bs.length) (ha : allowB bs mw st w = true) (hn : needF bs mw st ≤ st.length) :
    ∃ (i : Nat) (x : List Int), st[i]? = some x ∧ fitB x w = true ∧ needF bs mw (st.set i (sortI (x ++ [w]))) ≤ needF bs mw st := by
  by_cases h : 0 ≤ w
  · exact grant_local ob hm V ⟨h, hw.2⟩ ha hn
  · have hw1 : w = -1 := by omega
    subst hw1
    have h1 := wide_need ob V ha
    obtain ⟨j, h0, hj, he⟩ := free_of (st := st) (by omega)
    have hx : st[j.toNat]? = some (gR st j) := by
      unfold gR
      rw [List.getElem?_eq_getElem (by omega : j.toNat < st.length)]; rfl
    have hf : fitB (gR st j) (-1) = true := by rw [he]; rfl
    exact ⟨j.toNat, _, hx, hf, Int.le_of_eq (need_wide_step hx (V.row _ (List.mem_of_getElem? hx)) hf).symm⟩
/-- one call less -/
theorem need_remove {bs : List Int} {mw : Int} {st : List (List Int)} {i : Nat} {x : List Int} {w : Int} (hx : st[i]? = some x) (hr : okRow bs.length x) : needF bs mw (st.set i (x.filter fun c => !decide (c = w))) ≤ needF bs mw st := by
  refine need_mono fun lot => ?_
  rw [outF_cnt, outF_cnt, cnt_set _ hx]
  have h1 : outB lot (x.filter fun c => !decide (c = w)) = true → outB lot x = true := fun h => by
    unfold outB at h ⊢
    obtain ⟨h2, h3⟩ := (Bool.and_eq_true _ _).mp h
    obtain ⟨c, hc, hcl⟩ := List.any_eq_true.mp h3
    have hcx := (List.mem_filter.mp hc).1
    have h4 : (x.any fun c => !decide (c ∈ lot)) = true := List.any_eq_true.mpr ⟨c, hcx, hcl⟩
    rw [h4, Bool.and_true]
    rcases hr with e | e
    · subst e
      have : c = -1 := by simpa using hcx
      subst this
      exfalso
      have hne := (List.mem_filter.mp hc).2
      have e2 : ([-1] : List Int).filter (fun c => !decide (c = w)) = [-1] := by
        rw [List.filter_cons, if_pos hne]; rfl
      rw [e2] at h2
      simp at h2
    · have := asc_nn e
      simp [this]
  have h2 := b2n_le (outB lot (x.filter fun c => !decide (c = w)))
  cases h3 : outB lot (x.filter fun c => !decide (c = w)) with
  | false => have := b2n_le (outB lot x); show _ - _ + (0 : Int) ≤ _; omega
  | true => rw [h1 h3]; show _ - (1 : Int) + 1 ≤ _; omega
theorem any_cong {α : Type} {p q : α → Bool} : ∀ {l : List α}, (∀ x ∈ l, p x = q x) → l.any p = l.any q
  | [], _ => rfl
  | x :: l, h => by
    rw [List.any_cons, List.any_cons, h x (List.mem_cons_self ..), any_cong fun y hy => h y (List.mem_cons_of_mem _ hy)]
end Um

namespace Um
open L2 PySem PySem.Spec PyProof.Rows

/-! ## States call by call -/
def callsF : Int → List (List Int) → List (List Int)
  | _, [] => []
  | k, x :: st => x.map (fun w => [k, w]) ++ callsF (k + 1) st
theorem callsF_len {m : Nat} : ∀ (st : List (List Int)) (k : Int), (∀ x ∈ st, x.length ≤ m) → (callsF k st).length ≤ m * st.length
  | [], _, _ => Nat.le_refl _
  | x :: st, k, h => by
    have ih := callsF_len (m := m) st (k + 1) fun y hy => h y (List.mem_cons_of_mem _ hy)
    have := h x List.mem_cons_self
    show (x.map (fun w => [k, w]) ++ callsF (k + 1) st).length ≤ _
    rw [List.length_append, List.length_map, List.length_cons, Nat.mul_add]; omega
theorem mem_callsF : ∀ {st : List (List Int)} {k : Int} {c : List Int}, c ∈ callsF k st → ∃ (i : Nat) (x : List Int) (w : Int), st[i]? = some x ∧ w ∈ x ∧ c = [k + (i : Int), w]
  | x :: st, k, c, h => by
    rcases List.mem_append.mp h with h | h
    · obtain ⟨w, hw, rfl⟩ := List.mem_map.mp h
      exact ⟨0, x, w, rfl, hw, by simp⟩
    · obtain ⟨i, y, w, h1, h2, rfl⟩ := mem_callsF h
      exact ⟨i + 1, y, w, by simpa using h1, h2, by congr 1; omega⟩
theorem callsF_app : ∀ (a b : List (List Int)) (k : Int), callsF k (a ++ b) = callsF k a ++ callsF (k + (a.length : Int)) b
  | [], b, k => by simp [callsF]
  | x :: a, b, k => by
    show x.map (fun w => [k, w]) ++ callsF (k + 1) (a ++ b) = (x.map (fun w => [k, w]) ++ callsF (k + 1) a) ++ _
    rw [callsF_app a b (k + 1), List.append_assoc]
    congr 3
    rw [List.length_cons]; omega
theorem mem_callsF_of : ∀ {st : List (List Int)} {k : Int} {i : Nat} {x : List Int} {w : Int}, st[i]? = some x → w ∈ x → ([k + (i : Int), w] : List Int) ∈ callsF k st
  | y :: st, k, 0, x, w, h, hw => by
    cases h
    exact List.mem_append_left _ (List.mem_map.mpr ⟨w, hw, by simp⟩)
  | y :: st, k, i + 1, x, w, h, hw => by
    have := mem_callsF_of (k := k + 1) (st := st) (i := i) (by simpa using h) hw
    refine List.mem_append_right _ ?_
    have e : k + 1 + (i : Int) = k + ((i + 1 : Nat) : Int) := by omega
    rwa [e] at this
theorem okRow.nodup {n : Nat} {x : List Int} (h : okRow n x) : x.Nodup := by
  rcases h with e | h
  · subst e; simp
  · exact h.2.imp fun h => by omega
theorem callsF_nodup {n : Nat} : ∀ {st : List (List Int)} {k : Int}, (∀ x ∈ st, okRow n x) → (callsF k st).Nodup
  | [], _, _ => List.nodup_nil
  | x :: st, k, h => by
    show (x.map (fun w => [k, w]) ++ callsF (k + 1) st).Nodup
    rw [List.nodup_append]
    refine ⟨?_, callsF_nodup fun y hy => h y (List.mem_cons_of_mem _ hy), fun a ha b hb e => ?_⟩
    · refine List.Pairwise.map _ (fun a b hab e => hab ?_) (h x (List.mem_cons_self ..)).nodup
      exact (List.cons.inj (List.cons.inj e).2).1
    · subst e
      obtain ⟨w, _, rfl⟩ := List.mem_map.mp ha
      obtain ⟨i, y, w2, _, _, e⟩ := mem_callsF hb
      have := (List.cons.inj e).1
      omega
def subS (st : List (List Int)) (done : List (List Int)) : List (List Int) := st.mapIdx fun i x => x.filter fun w => decide (([(i : Int), w] : List Int) ∈ done)
theorem subS_get (st : List (List Int)) (done : List (List Int)) (i : Nat) : (subS st done)[i]? = st[i]?.map fun x => x.filter fun w => decide (([(i : Int), w] : List Int) ∈ done) := List.getElem?_mapIdx ..
theorem subS_len (st : List (List Int)) (done : List (List Int)) : (subS st done).length = st.length := List.length_mapIdx ..
theorem subS_nil (st : List (List Int)) : subS st [] = List.replicate st.length [] := by
  refine List.ext_getElem? fun i => ?_
  rw [subS_get, List.getElem?_replicate]
  by_cases h : i < st.length
  · rw [if_pos h, List.getElem?_eq_getElem h]
    simp
  · rw [if_neg h, List.getElem?_eq_none (by omega)]; rfl
theorem subS_all {st : List (List Int)} {done : List (List Int)} (h : ∀ c ∈ callsF 0 st, c ∈ done) : subS st done = st := by
  refine List.ext_getElem? fun i => ?_
  rw [subS_get]
  cases hx : st[i]? with
  | none => rfl
  | some x =>
    show some _ = some x
    congr 1
    refine List.filter_eq_self.mpr fun w hw => decide_eq_true ?_
    have := h _ (mem_callsF_of (k := 0) hx hw)
    rwa [Int.zero_add] at this
theorem subS_mem {st : List (List Int)} {done : List (List Int)} {y : List Int} (h : y ∈ subS st done) : ∃ (i : Nat) (x : List Int), st[i]? = some x ∧ y = x.filter fun w => decide (([(i : Int), w] : List Int) ∈ done) := by
  obtain ⟨i, hi⟩ := List.getElem?_of_mem h
  rw [subS_get] at hi
  obtain ⟨x, hx, e⟩ := Option.map_eq_some_iff.mp hi
  exact ⟨i, x, hx, e.symm⟩
theorem row_filter {n : Nat} {x : List Int} (q : Int → Bool) (h : okRow n x) : okRow n (x.filter q) := by
  rcases h with e | h
  · subst e
    rw [List.filter_cons]
    split
    · exact .inl rfl
    · exact .inr ⟨by simp, by simp⟩
  · exact .inr ⟨fun c hc => h.1 c (List.mem_filter.mp hc).1, h.2.sublist (List.filter_sublist ..)⟩
theorem filter_wide {n : Nat} {x : List Int} {q : Int → Bool} (h : okRow n x) (e : x.filter q = [-1]) : x = [-1] := by
  rcases h with h | h
  · exact h
  · have : (-1 : Int) ∈ x.filter q := by rw [e]; simp
    have := h.1 (-1) (List.mem_filter.mp this).1
    omega
theorem hasB_filter {n : Nat} {x : List Int} {q : Int → Bool} {c : Int} (h : okRow n x) (e : hasB c (x.filter q) = true) : hasB c x = true := by
  unfold hasB at e ⊢
  rcases (Bool.or_eq_true _ _).mp e with e | e
  · rw [decide_eq_true (filter_wide h (of_decide_eq_true e))]; rfl
  · rw [decide_eq_true (List.mem_filter.mp (of_decide_eq_true e)).1, Bool.or_true]
theorem outB_filter {n : Nat} {x : List Int} {q : Int → Bool} {lot : List Int} (hr : okRow n x) (h : outB lot (x.filter q) = true) : outB lot x = true := by
  unfold outB at h ⊢
  obtain ⟨h2, h3⟩ := (Bool.and_eq_true _ _).mp h
  obtain ⟨c, hc, hcl⟩ := List.any_eq_true.mp h3
  have hcx := (List.mem_filter.mp hc).1
  have h4 : (x.any fun c => !decide (c ∈ lot)) = true := List.any_eq_true.mpr ⟨c, hcx, hcl⟩
  rw [h4, Bool.and_true]
  rcases hr with e | e
  · subst e
    have : c = -1 := by simpa using hcx
    subst this
    exfalso
    have hne := (List.mem_filter.mp hc).2
    have e2 : ([-1] : List Int).filter q = [-1] := by
      rw [List.filter_cons, if_pos hne]; rfl
    rw [e2] at h2
    simp at h2
  · have := asc_nn e
    simp [this]
theorem cnt_mapIdx_le {p : List Int → Bool} : ∀ {st : List (List Int)} {f : Nat → List Int → List Int}, (∀ i x, x ∈ st → p (f i x) = true → p x = true) → cnt p (st.mapIdx f) ≤ cnt p st
  | [], f, _ => Int.le_refl _
  | x :: st, f, h => by
    rw [List.mapIdx_cons, cnt_cons, cnt_cons]
    have ih := cnt_mapIdx_le (p := p) (st := st) (f := fun i => f (i + 1)) fun i y hy => h (i + 1) y (List.mem_cons_of_mem _ hy)
    have h0 := h 0 x (List.mem_cons_self ..)
    have h1 := b2n_le (p x)
    cases hp : p (f 0 x) with
    | false => show (0 : Int) + _ ≤ _; omega
    | true => rw [h0 hp]; show (1 : Int) + _ ≤ 1 + _; omega
theorem Val.subS {bs : List Int} {mw : Int} {st : List (List Int)} (V : Val bs mw st) (done : List (List Int)) : Val bs mw (subS st done) := by
  refine ⟨fun y hy => ?_, fun c h0 h1 => ?_, ?_⟩
  · obtain ⟨i, x, hx, rfl⟩ := subS_mem hy
    exact row_filter _ (V.row x (List.mem_of_getElem? hx))
  · refine Int.le_trans ?_ (V.load c h0 h1)
    exact cnt_mapIdx_le fun i x hx h => hasB_filter (V.row x hx) h
  · refine Int.le_trans ?_ V.wide
    exact cnt_mapIdx_le fun i x hx h => decide_eq_true (filter_wide (V.row x hx) (of_decide_eq_true h))
theorem need_subS {bs : List Int} {mw : Int} {st : List (List Int)} (hr : ∀ x ∈ st, okRow bs.length x) (done : List (List Int)) : needF bs mw (subS st done) ≤ needF bs mw st :=
  need_mono fun lot => cnt_mapIdx_le fun i x hx h => outB_filter (hr x hx) h
/-- the next call -/
theorem subS_step {n : Nat} {st : List (List Int)} {done : List (List Int)} {i : Nat} {x : List Int} {w : Int} (hr : ∀ x ∈ st, okRow n x) (hx : st[i]? = some x) (hw : w ∈ x) (hn : ([(i : Int), w] : List Int) ∉ done) :
    ∃ y : List Int, (subS st done)[i]? = some y ∧ fitB y w = true ∧ (subS st done).set i (sortI (y ++ [w])) = subS st (done ++ [[(i : Int), w]]) := by
  have hrx := hr x (List.mem_of_getElem? hx)
  have hy : (subS st done)[i]? = some (x.filter fun w => decide (([(i : Int), w] : List Int) ∈ done)) := by rw [subS_get, hx]; rfl
  have hz : okRow n (x.filter fun v => decide (([(i : Int), v] : List Int) ∈ done ++ [[(i : Int), w]])) := row_filter _ hrx
  have hwz : w ∈ x.filter fun v => decide (([(i : Int), v] : List Int) ∈ done ++ [[(i : Int), w]]) := List.mem_filter.mpr ⟨hw, decide_eq_true (by simp)⟩
  obtain ⟨e1, e2, _⟩ := put_back hz hwz
  have e3 : (x.filter fun v => decide (([(i : Int), v] : List Int) ∈ done ++ [[(i : Int), w]])).filter (fun c => !decide (c = w)) = x.filter fun w => decide (([(i : Int), w] : List Int) ∈ done) := by
    rw [List.filter_filter]
    refine List.filter_congr fun v hv => ?_
    by_cases e : v = w
    · subst e
      rw [decide_eq_true rfl, decide_eq_false hn]; rfl
    · have h2 : ([(i : Int), v] : List Int) ∈ done ++ [[(i : Int), w]] ↔ ([(i : Int), v] : List Int) ∈ done := by
        rw [List.mem_append, List.mem_singleton]
        exact ⟨fun h => h.elim id fun h => absurd (List.cons.inj (List.cons.inj h).2).1 e, .inl⟩
      rw [decide_eq_false e]
      simp [h2]
  rw [e3] at e1 e2
  refine ⟨_, hy, e2, ?_⟩
  rw [e1]
  refine List.ext_getElem? fun j => ?_
  rw [subS_get, List.getElem?_set, subS_get]
  by_cases hij : i = j
  · subst hij
    have hil := (List.getElem?_eq_some_iff.mp hx).1
    rw [if_pos rfl, subS_len, if_pos hil, hx]; rfl
  · rw [if_neg hij]
    cases hxj : st[j]? with
    | none => rfl
    | some z =>
      show some _ = some _
      congr 1
      refine List.filter_congr fun v hv => decide_eq_decide.mpr ?_
      rw [List.mem_append, List.mem_singleton]
      exact ⟨.inl, fun h => h.elim id fun h => absurd (List.cons.inj h).1 (by omega)⟩
/-- what stands was allowed -/
theorem allow_of {bs : List Int} {mw : Int} {st : List (List Int)} {i : Nat} {x : List Int} {w : Int} (hr : okRow bs.length x) (hx : st[i]? = some x) (hf : fitB x w = true) (hw : -1 ≤ w ∧ w < bs.length) (V : Val bs mw (st.set i (sortI (x ++ [w])))) : allowB bs mw st w = true := by
  rcases fit_cases hr hf with ⟨rfl, rfl⟩ | ⟨hw1, ha, hwx⟩
  · unfold allowB
    rw [if_neg (by omega)]
    have hwd := V.wide
    rw [widesF_cnt, cnt_set _ hx, sort_wide, ← widesF_cnt] at hwd
    have e1 : b2n (wideB []) = 0 := rfl
    have e2 : b2n (wideB [-1]) = 1 := rfl
    rw [decide_eq_true (by omega : widesF st < mw), Bool.and_true, Bool.not_eq_true']
    refine List.any_eq_false.mpr fun c hc => ?_
    obtain ⟨h0, h1⟩ := mem_rangeI.mp hc
    have hl := V.load c h0 h1
    rw [loadF_cnt, cnt_set _ hx, sort_wide, ← loadF_cnt] at hl
    have e3 : b2n (hasB c []) = 0 := rfl
    have e4 : b2n (hasB c [-1]) = 1 := by unfold hasB; rfl
    simp; omega
  · unfold allowB
    have h0 : 0 ≤ w := by omega
    rw [if_pos h0]
    have hl := V.load w h0 hw.2
    rw [loadF_cnt, cnt_set _ hx, hasB_add ha hwx ⟨h0, hw.2⟩, ← loadF_cnt] at hl
    have e1 : hasB w x = false := by
      unfold hasB
      rw [decide_eq_false (asc_nn ha), decide_eq_false hwx]; rfl
    rw [e1] at hl
    have e2 : b2n (false || decide (w = w)) = 1 := by simp [b2n]
    have e3 : b2n false = 0 := rfl
    exact decide_eq_true (by omega)
end Um

namespace Um
open L2 PySem PySem.Spec PyProof.Rows

/-! ## Searches downwards -/
def srch (p : Int → Bool) (d : Int) : Nat → Int → Int
  | 0, _ => d
  | n + 1, v => if p v = true then v else srch p d n (v - 1)
theorem srch_eq {p : Int → Bool} {d t : Int} (ht : p t = true) : ∀ {n : Nat} {v : Int}, (∀ u, t < u → u ≤ v → p u = false) → t ≤ v → v - t < n → srch p d n v = t
  | 0, v, _, h1, h2 => by omega
  | n + 1, v, h, h1, h2 => by
    show (if p v = true then v else srch p d n (v - 1)) = t
    by_cases e : v = t
    · subst e; rw [if_pos ht]
    · rw [if_neg (by rw [h v (by omega) (Int.le_refl _)]; simp)]
      exact srch_eq ht (fun u h3 h4 => h u h3 (by omega)) (by omega) (by omega)
theorem srch_none {p : Int → Bool} {d : Int} : ∀ {n : Nat} {v : Int}, (∀ u, v - n < u → u ≤ v → p u = false) → srch p d n v = d
  | 0, v, _ => rfl
  | n + 1, v, h => by
    show (if p v = true then v else srch p d n (v - 1)) = d
    rw [if_neg (by rw [h v (by omega) (Int.le_refl _)]; simp)]
    exact srch_none fun u h1 h2 => h u (by omega) (by omega)
theorem srch_cong {p q : Int → Bool} {d : Int} : ∀ {n : Nat} {v : Int}, (∀ u, v - n < u → u ≤ v → p u = q u) → srch p d n v = srch q d n v
  | 0, v, _ => rfl
  | n + 1, v, h => by
    show (if p v = true then v else srch p d n (v - 1)) = (if q v = true then v else srch q d n (v - 1))
    rw [h v (by omega) (Int.le_refl _), srch_cong fun u h1 h2 => h u (by omega) (by omega)]
theorem srch_forC {S : Type} {p : Int → Bool} {d : Int} {body : D → S → (S → R D) → (S → R D) → R D} {after : S → R D} (J : S → Prop) (hJ : ∀ s, J s → after s = .ok (.int d)) : ∀ {n : Nat} {v : Int} {s : S}, J s →
    (∀ u s nx bk, v - n < u → u ≤ v → J s → ∃ s', J s' ∧ body (.int u) s nx bk = if p u = true then .ok (.int u) else nx s') → forC (rngD v (-1) n) s body after = .ok (.int (srch p d n v))
  | 0, v, s, hs, _ => hJ s hs
  | n + 1, v, s, hs, h => by
    rw [rngD_succ]
    obtain ⟨s', h1, h2⟩ := h v s (fun s => forC (rngD (v + -1) (-1) n) s body after) after (by omega) (Int.le_refl _) hs
    show body (.int v) s (fun s => forC (rngD (v + -1) (-1) n) s body after) after = .ok (.int (if p v = true then v else srch p d n (v - 1)))
    rw [h2]
    by_cases e : p v = true
    · rw [if_pos e, if_pos e]
    · rw [if_neg e, if_neg e]
      exact srch_forC J hJ h1 fun u s nx bk h3 h4 h5 => h u s nx bk (by omega) (by omega) h5
/-- the need without the wide limit's part -/
def coreF (bs : List Int) (st : List (List Int)) : Int := minOver (slackF bs st) (minF bs) (lotsT bs.length)
theorem minOver_min {α : Type} (f : α → Int) : ∀ (l : List α) (a b : Int), minOver f (min a b) l = min a (minOver f b l)
  | [], a, b => rfl
  | x :: l, a, b => by
    show minOver f (min (min a b) (f x)) l = min a (minOver f (min b (f x)) l)
    rw [Int.min_assoc]; exact minOver_min f l a (min b (f x))
theorem need_core (bs : List Int) (mw : Int) (st : List (List Int)) : needF bs mw st = heightF bs st + min mw (coreF bs st) := by
  unfold needF coreF boundF
  rw [minOver_min]
theorem core_nonneg {bs : List Int} {mw : Int} {st : List (List Int)} (ob : okB bs) (V : Val bs mw st) : 0 ≤ coreF bs st := by
  unfold coreF
  rcases minOver_mem (slackF bs st) (lotsT bs.length) (minF bs) with e | ⟨l, hl, e⟩
  · rw [e]
    have := (ob.2.2 _ (minF_mem ob.ne)).1
    omega
  · rw [e]; exact slack_nonneg ob V (mem_lotsT.mp hl).1
/-- the greatest wide limit -/
def wideMost (bs : List Int) (w : Int) (st : List (List Int)) : Int := if w - heightF bs st < 0 then -1 else if heightF bs st + min 20 (coreF bs st) ≤ w then 20 else w - heightF bs st
theorem wide_most {bs : List Int} {mw w : Int} {st : List (List Int)} (ob : okB bs) (V : Val bs mw st) : srch (fun v => decide (needF bs v st ≤ w)) (-1) 21 20 = wideMost bs w st := by
  have hc := core_nonneg ob V
  unfold wideMost
  by_cases h1 : w - heightF bs st < 0
  · rw [if_pos h1]
    refine srch_none fun u h2 h3 => decide_eq_false ?_
    rw [need_core]; omega
  · rw [if_neg h1]
    by_cases h2 : heightF bs st + min 20 (coreF bs st) ≤ w
    · rw [if_pos h2]
      exact srch_eq (decide_eq_true (by rw [need_core]; exact h2)) (fun u h3 h4 => by omega) (by omega) (by omega)
    · rw [if_neg h2]
      refine srch_eq (decide_eq_true ?_) (fun u h3 h4 => decide_eq_false ?_) (by omega) (by omega)
      · rw [need_core]; omega
      · rw [need_core]; omega
def limMost (bs : List Int) (mw w : Int) (st : List (List Int)) (at_ : Int) : Int := srch (fun v => decide (needF (bs.set at_.toNat v) mw st ≤ w)) 0 (20 - (max 1 (loadF st at_) - 1)).toNat 20
/-- wide channels made free -/
def dryF (st : List (List Int)) : List (List Int) := st.map fun x => if x = [-1] then [] else x
theorem out_dry (st : List (List Int)) (lot : List Int) : outF (dryF st) lot = outF st lot := by
  induction st with
  | nil => rfl
  | cons x st ih =>
    rw [outF_cnt, outF_cnt] at ih ⊢
    show cnt _ ((if x = [-1] then [] else x) :: dryF st) = _
    rw [cnt_cons, cnt_cons, ih]
    by_cases e : x = [-1]
    · subst e; rw [if_pos rfl, out_free, out_wide]
    · rw [if_neg e]
theorem wide_dry (bs : List Int) (w : Int) (st : List (List Int)) : wideMost bs w (dryF st) = wideMost bs w st := by
  have h1 : heightF bs (dryF st) = heightF bs st := by unfold heightF; rw [out_dry]
  have h2 : coreF bs (dryF st) = coreF bs st := by
    unfold coreF
    refine minOver_congf _ fun l _ => ?_
    unfold slackF; rw [out_dry, h1]
  unfold wideMost; rw [h1, h2]
theorem sub_dry : ∀ st : List (List Int), SubR (dryF st) st
  | [] => .nil
  | x :: st => by
    refine SubR.cons ?_ (sub_dry st)
    show (if x = [-1] then [] else x) = x ∨ (if x = [-1] then [] else x) = []
    by_cases e : x = [-1]
    · rw [if_pos e]; exact .inr rfl
    · rw [if_neg e]; exact .inl rfl
end Um

namespace Um
open L2 PySem PySem.Spec PyProof.Rows
/-! ### mirrors -/
def m_law_cell (a0 : D) (a1 : D) : R D :=
  (R.bind (R.op2 dLt (R.ok a1) (R.bind (R.cons (R.ok a0) (R.ok [])) (fn1 dLen))) fun b => if b = true then (R.bind (R.op2 dIx (R.ok a0) (R.ok a1)) R.ok) else (R.bind (R.ok (D.int 0)) R.ok))
def m_law_draw (a0 : D) (a1 : D) (a2 : D) : R D :=
  (joinC (fun (k2 : Unit → R D) => R.bind (R.op2 dGe (R.ok a0) (R.op2 dPow (R.ok (D.int 10)) (R.ok (D.int 18)))) fun b => if b = true then (R.bind (R.bind (R.cons (R.ok a0) (R.ok [])) (fn1 dInt)) fun d3 => (R.bind (R.bind (R.cons (R.ok a1) (R.ok [])) dRng1) fun ds => forC ds (d3 : D) (fun (x5 : D) (s4 : D) (nx6 bk7 : D → R D) => (R.bind (R.op2 dFdiv (R.ok s4) (R.ok (D.int 64))) fun d9 => (nx6 d9))) (fun (s4 : D) => (R.bind (R.op2 dGt (R.ok s4) (R.ok (D.int 0))) fun b => if b = true then (R.bind (R.op2 dMod (R.op2 dMod (R.bind (R.cons (R.ok s4) (R.ok [])) (fn1 dInt)) (R.ok (D.int 64))) (R.ok a2)) R.ok) else (k2 ()))))) else (k2 ())) (fun (s1 : Unit) => (R.bind (R.op2 dMod (R.bind (R.cons (R.op2 dAdd (R.op2 dAdd (R.ok a0) (R.op2 dMul (R.ok (D.int 7919)) (R.ok a1))) (R.ok (D.int 13))) (R.ok [])) (fn1 dInt)) (R.ok (D.int 2147483647))) fun d10 => (R.bind (R.op2 dMod (R.bind (R.cons (R.op2 dMul (R.ok d10) (R.op2 dAdd (R.ok d10) (R.ok (D.int 48271)))) (R.ok [])) (fn1 dInt)) (R.ok (D.int 2147483629))) fun d11 => (R.bind (R.op2 dMod (R.bind (R.cons (R.op2 dAdd (R.op2 dMul (R.ok d11) (R.op2 dAdd (R.ok d11) (R.ok (D.int 69621)))) (R.op2 dMul (R.ok (D.int 31)) (R.ok a1))) (R.ok [])) (fn1 dInt)) (R.ok (D.int 2147483647))) fun d12 => (R.bind (R.op2 dMod (R.bind (R.cons (R.op2 dFdiv (R.ok d12) (R.ok (D.int 9))) (R.ok [])) (fn1 dInt)) (R.ok a2)) R.ok))))))
def m_law_row (a0 : D) (a1 : D) : R D :=
  (R.bind (R.bind (R.bind (R.cons (R.ok a1) (R.ok [])) dRng1) fun ds => (compC ds yes (fun x1 => (R.op2 dSub (R.bind (R.cons (R.ok a0) (R.cons (R.op2 dAdd (R.ok (D.int 2)) (R.ok x1)) (R.cons (R.ok (D.int 40)) (R.ok [])))) (fn3 m_law_draw)) (R.ok (D.int 9))))).bind finC) R.ok)
def m_law_bounds (a0 : D) (a1 : D) : R D :=
  (R.bind (R.bind (R.cons (R.ok a0) (R.cons (R.ok (D.int 0)) (R.cons (R.ok (D.int 4)) (R.ok [])))) (fn3 m_law_draw)) fun d1 => (R.bind (R.op2 dEq (R.ok d1) (R.ok (D.int 3))) fun b => if b = true then (R.bind (R.bind (R.cons (R.ok a0) (R.cons (R.bind (R.cons (R.ok a1) (R.ok [])) (fn1 dLen)) (R.ok []))) (fn2 m_law_row)) R.ok) else (R.bind (R.bind (R.bind (R.cons (R.bind (R.cons (R.ok a1) (R.ok [])) (fn1 dLen)) (R.ok [])) dRng1) fun ds => (compC ds yes (fun x3 => (R.op2 dAdd (R.op2 dIx (R.ok a1) (R.ok x3)) (R.op2 dMul (R.bind (R.cons (R.ok a0) (R.cons (R.op2 dAdd (R.ok (D.int 2)) (R.ok x3)) (R.cons (R.ok (D.int 4)) (R.ok [])))) (fn3 m_law_draw)) (R.bind (R.cons (R.bool (R.op2 dGt (R.ok d1) (R.ok (D.int 0)))) (R.ok [])) (fn1 dInt)))))).bind finC) fun d2 => (joinC (fun (k5 : D → R D) => R.bind (R.and (R.op2 dEq (R.ok d1) (R.ok (D.int 2))) (R.op2 dGt (R.bind (R.cons (R.ok a1) (R.ok [])) (fn1 dLen)) (R.ok (D.int 0)))) fun b => if b = true then (R.bind (R.op2 dMod (R.bind (R.cons (R.bind (R.cons (R.ok a0) (R.cons (R.ok (D.int 1)) (R.cons (R.ok (D.int 64)) (R.ok [])))) (fn3 m_law_draw)) (R.ok [])) (fn1 dInt)) (R.bind (R.cons (R.ok a1) (R.ok [])) (fn1 dLen))) fun d6 => (R.bind (lstOf d2) fun xs => R.bind (R.op2 dSub (R.op2 dIx (R.ok a1) (R.ok d6)) (R.ok (D.int 1))) fun dv => R.bind (R.ok d6) fun dj => R.bind (dSet xs dj dv) fun d7 => (k5 d7))) else (k5 d2)) (fun (s4 : D) => (R.ok s4))))))
def m_Loads___init__ (a1 : D) : R D :=
  (R.bind (R.bind (R.cons (R.ok a1) (R.ok [])) (fn1 dTuple)) fun dv => R.bind (dPut "Loads" "counts" dv (D.ins "Loads" [] [])) fun d1 => (R.ok d1))
def m_law_int (a0 : D) : R D :=
  (R.bind (R.andV (R.bind (R.cons (R.ok a0) (R.cons (R.ok (D.ty "int")) (R.ok []))) (fn2 (dIsI [Str.ofString "Loads"]))) (R.bind (R.bind (R.cons (R.ok a0) (R.cons (R.ok (D.ty "bool")) (R.ok []))) (fn2 (dIsI [Str.ofString "Loads"]))) dNot)) R.ok)
def m_law_ints (a0 : D) (a1 : D) : R D :=
  (R.bind (R.or (R.op2 dNe (R.bind (R.cons (R.ok a0) (R.cons (R.ok (D.ty "list")) (R.ok []))) (fn2 (dIsI [Str.ofString "Loads"]))) (R.bind (R.cons (R.ok a1) (R.cons (R.ok (D.ty "list")) (R.ok []))) (fn2 (dIsI [Str.ofString "Loads"])))) (R.op2 dNe (R.bind (R.cons (R.ok a0) (R.cons (R.ok (D.ty "tuple")) (R.ok []))) (fn2 (dIsI [Str.ofString "Loads"]))) (R.bind (R.cons (R.ok a1) (R.cons (R.ok (D.ty "tuple")) (R.ok []))) (fn2 (dIsI [Str.ofString "Loads"]))))) fun b => if b = true then (R.bind (R.ok (D.bl false)) R.ok) else (R.bind (R.op2 dNe (R.bind (R.cons (R.ok a0) (R.ok [])) (fn1 dLen)) (R.bind (R.cons (R.ok a1) (R.ok [])) (fn1 dLen))) fun b => if b = true then (R.bind (R.ok (D.bl false)) R.ok) else (R.bind (R.bind (R.cons (R.bind (R.cons (R.ok a1) (R.ok [])) (fn1 dLen)) (R.ok [])) dRng1) fun ds => forC ds (() : Unit) (fun (x2 : D) (s1 : Unit) (nx3 bk4 : Unit → R D) => (R.bind (R.or (R.bind (R.bind (R.bind (R.cons (R.op2 dIx (R.ok a0) (R.ok x2)) (R.ok [])) (fn1 m_law_int)) dTruth) bNot) (R.op2 dNe (R.op2 dIx (R.ok a0) (R.ok x2)) (R.op2 dIx (R.ok a1) (R.ok x2)))) fun b => if b = true then (R.bind (R.ok (D.bl false)) R.ok) else (nx3 ()))) (fun (s1 : Unit) => (R.bind (R.ok (D.bl true)) R.ok)))))
def m_Loads___getitem__ (a0 : D) (a1 : D) : R D :=
  (R.bind (R.op2 dIx (R.bind (R.ok a0) (dFld "Loads" "counts")) (R.ok a1)) R.ok)
def m_law_is_loads (a0 : D) (a1 : D) : R D :=
  (R.bind (R.or (R.bind (R.bind (R.bind (R.cons (R.ok a0) (R.cons (R.ok (D.cl (Str.ofString "Loads"))) (R.ok []))) (fn2 (dIsI [Str.ofString "Loads"]))) dTruth) bNot) (R.or (R.bind (R.bind (R.bind (R.cons (R.bind (R.ok a0) (dFld "Loads" "counts")) (R.cons (R.bind (R.cons (R.ok a1) (R.ok [])) (fn1 dTuple)) (R.ok []))) (fn2 m_law_ints)) dTruth) bNot) (R.op2 dNe (R.bind (R.cons (R.ok a0) (R.ok [])) (fn1 (dLenOwnT "Loads" "counts"))) (R.bind (R.cons (R.ok a1) (R.ok [])) (fn1 dLen))))) fun b => if b = true then (R.bind (R.ok (D.bl false)) R.ok) else (R.bind (R.bind (R.bind (R.bind (R.cons (R.bind (R.bind (R.cons (R.bind (R.cons (R.ok a1) (R.ok [])) (fn1 dLen)) (R.ok [])) dRng1) fun ds => (compC ds yes (fun x1 => (R.op2 (dOwnIx "Loads" m_Loads___getitem__) (R.ok a0) (R.ok x1)))).bind finC) (R.cons (R.ok a1) (R.ok []))) (fn2 m_law_ints)) dTruth) bNot) fun b => if b = true then (R.bind (R.ok (D.bl false)) R.ok) else (R.bind (R.andV (R.bind (R.cons (R.bind (R.bind (R.ok a0) (ownT "Loads" "counts")) fun ds => (compC ds yes (fun x2 => (R.ok x2))).bind finC) (R.cons (R.ok a1) (R.ok []))) (fn2 m_law_ints)) (R.bind (R.cons (R.bind (R.cons (R.ok a0) (R.ok [])) (fn1 (dListOwnT "Loads" "counts"))) (R.cons (R.ok a1) (R.ok []))) (fn2 m_law_ints))) R.ok)))
def m_Loads___add__ (a0 : D) (a1 : D) : R D :=
  (R.bind (R.bind (R.cons (R.bind (R.bind (R.cons (R.bind (R.cons (R.bind (R.ok a0) (dFld "Loads" "counts")) (R.ok [])) (fn1 dLen)) (R.ok [])) dRng1) fun ds => (compC ds yes (fun x1 => (R.op2 dAdd (R.op2 dIx (R.bind (R.ok a0) (dFld "Loads" "counts")) (R.ok x1)) (R.op2 dIx (R.bind (R.ok a1) (dFld "Loads" "counts")) (R.ok x1))))).bind finC) (R.ok [])) fun ds => R.bind (R.ok []) fun zs => noEr (fn1 m_Loads___init__ ((fun us zs => us ++ zs) ds zs))) R.ok)
def m_Loads___sub__ (a0 : D) (a1 : D) : R D :=
  (R.bind (R.bind (R.cons (R.bind (R.bind (R.cons (R.bind (R.cons (R.bind (R.ok a0) (dFld "Loads" "counts")) (R.ok [])) (fn1 dLen)) (R.ok [])) dRng1) fun ds => (compC ds yes (fun x1 => (R.op2 dSub (R.op2 dIx (R.bind (R.ok a0) (dFld "Loads" "counts")) (R.ok x1)) (R.op2 dIx (R.bind (R.ok a1) (dFld "Loads" "counts")) (R.ok x1))))).bind finC) (R.ok [])) fun ds => R.bind (R.ok []) fun zs => noEr (fn1 m_Loads___init__ ((fun us zs => us ++ zs) ds zs))) R.ok)
def m_law_bool (a0 : D) (a1 : D) : R D :=
  (R.bind (R.andV (R.bind (R.cons (R.ok a0) (R.cons (R.ok (D.ty "bool")) (R.ok []))) (fn2 (dIsI [Str.ofString "Loads"]))) (R.bool (R.op2 dEq (R.ok a0) (R.ok a1)))) R.ok)
def m_Loads_within (a0 : D) (a1 : D) : R D :=
  (R.bind (R.bind (R.cons (R.bind (R.cons (R.bind (R.ok a0) (dFld "Loads" "counts")) (R.ok [])) (fn1 dLen)) (R.ok [])) dRng1) fun ds => forC ds (() : Unit) (fun (x2 : D) (s1 : Unit) (nx3 bk4 : Unit → R D) => (R.bind (R.op2 dGt (R.op2 dIx (R.bind (R.ok a0) (dFld "Loads" "counts")) (R.ok x2)) (R.op2 dIx (R.ok a1) (R.ok x2))) fun b => if b = true then (R.bind (R.ok (D.bl false)) R.ok) else (nx3 ()))) (fun (s1 : Unit) => (R.bind (R.ok (D.bl true)) R.ok)))
def m_law_inside (a0 : D) (a1 : D) (a2 : D) : R D :=
  (R.bind (R.bind (R.cons (R.ok a1) (R.ok [])) (fn1 dList)) fun d1 => (R.bind (R.or (R.bind (R.bind (R.bind (R.cons (R.bind (R.ok a0) fun d0 => R.bind (isM "Loads" "within" d0) fun d => R.bind (R.cons (R.ok d1) (R.ok [])) fun ds => R.bind (R.ok []) fun zs => (fn2 m_Loads_within ((fun us (_ : List D) => us) (d :: ds) zs))) (R.cons (R.ok a2) (R.ok []))) (fn2 m_law_bool)) dTruth) bNot) (R.bind (R.bind (R.bind (R.cons (R.bind (R.ok a0) fun d0 => R.bind (isM "Loads" "within" d0) fun d => R.bind (R.cons (R.bind (R.cons (R.ok a1) (R.ok [])) (fn1 dTuple)) (R.ok [])) fun ds => R.bind (R.ok []) fun zs => (fn2 m_Loads_within ((fun us (_ : List D) => us) (d :: ds) zs))) (R.cons (R.ok a2) (R.ok []))) (fn2 m_law_bool)) dTruth) bNot)) fun b => if b = true then (R.bind (R.ok (D.bl false)) R.ok) else (R.bind (R.bind (R.cons (R.ok d1) (R.cons (R.ok a1) (R.ok []))) (fn2 m_law_ints)) R.ok)))
def m_law_over (a0 : D) (a1 : D) : R D :=
  (R.bind (R.bind (R.bind (R.cons (R.bind (R.cons (R.ok a0) (R.ok [])) (fn1 dLen)) (R.ok [])) dRng1) fun ds => (compC ds yes (fun x1 => (R.bind (R.cons (R.op2 dIx (R.ok a0) (R.ok x1)) (R.cons (R.op2 dIx (R.ok a1) (R.ok x1)) (R.ok []))) (fn2 dMax2)))).bind finC) R.ok)
def m_call_loads (a0 : D) (a1 : D) : R D :=
  (R.bind (R.op2 dEq (R.ok a1) (R.bind (R.ok (D.int 1)) dNeg)) fun b => if b = true then (R.bind (R.bind (R.cons (R.bind (R.bind (R.cons (R.ok a0) (R.ok [])) dRng1) fun ds => (compC ds yes (fun x1 => (R.ok (D.int 1)))).bind finC) (R.ok [])) fun ds => R.bind (R.ok []) fun zs => noEr (fn1 m_Loads___init__ ((fun us zs => us ++ zs) ds zs))) R.ok) else (R.bind (R.bind (R.cons (R.bind (R.bind (R.cons (R.ok a0) (R.ok [])) dRng1) fun ds => (compC ds yes (fun x2 => (R.bind (R.cons (R.bool (R.op2 dEq (R.ok x2) (R.ok a1))) (R.ok [])) (fn1 dInt)))).bind finC) (R.ok [])) fun ds => R.bind (R.ok []) fun zs => noEr (fn1 m_Loads___init__ ((fun us zs => us ++ zs) ds zs))) R.ok))
def m_law_call_rows (a0 : D) : R D :=
  (R.bind (R.bind (R.cons (R.bind (R.ok (D.int 1)) dNeg) (R.cons (R.ok a0) (R.ok []))) dRng2) fun ds => forC ds (() : Unit) (fun (x2 : D) (s1 : Unit) (nx3 bk4 : Unit → R D) => (R.bind (R.bind (R.bind (R.cons (R.ok a0) (R.ok [])) dRng1) fun ds => (compC ds yes (fun x7 => (R.bind (R.cons (R.orV (R.bool (R.op2 dEq (R.ok x2) (R.bind (R.ok (D.int 1)) dNeg))) (R.bool (R.op2 dEq (R.ok x2) (R.ok x7)))) (R.ok [])) (fn1 dInt)))).bind finC) fun d6 => (R.bind (R.bind (R.bind (R.bind (R.cons (R.bind (R.cons (R.ok a0) (R.cons (R.ok x2) (R.ok []))) (fn2 m_call_loads)) (R.cons (R.ok d6) (R.ok []))) (fn2 m_law_is_loads)) dTruth) bNot) fun b => if b = true then (R.bind (R.ok (D.bl false)) R.ok) else (nx3 ())))) (fun (s1 : Unit) => (R.bind (R.ok (D.bl true)) R.ok)))
def m_law (a0 : D) : R D :=
  (R.bind (R.bind (R.cons (R.ok a0) (R.cons (R.ok (D.int 0)) (R.ok []))) (fn2 m_law_cell)) fun d1 => (R.bind (R.bind (R.cons (R.ok d1) (R.cons (R.ok (D.int 0)) (R.cons (R.ok (D.int 7)) (R.ok [])))) (fn3 m_law_draw)) fun d2 => (joinC (fun (k4 : D → R D) => R.bind (R.op2 dEq (R.bind (R.cons (R.ok d1) (R.cons (R.ok (D.int 1)) (R.cons (R.ok (D.int 8)) (R.ok [])))) (fn3 m_law_draw)) (R.ok (D.int 0))) fun b => if b = true then (R.bind (R.bind (R.cons (R.ok d1) (R.cons (R.ok (D.int 0)) (R.cons (R.ok (D.int 25)) (R.ok [])))) (fn3 m_law_draw)) fun d5 => (k4 d5)) else (k4 d2)) (fun (s3 : D) => (R.bind (R.bind (R.cons (R.ok d1) (R.cons (R.ok s3) (R.ok []))) (fn2 m_law_row)) fun d6 => (R.bind (R.bind (R.cons (R.bind (R.cons (R.ok a0) (R.cons (R.ok (D.int 1)) (R.ok []))) (fn2 m_law_cell)) (R.cons (R.ok s3) (R.ok []))) (fn2 m_law_row)) fun d7 => (R.bind (R.bind (R.cons (R.bind (R.cons (R.ok a0) (R.cons (R.ok (D.int 2)) (R.ok []))) (fn2 m_law_cell)) (R.cons (R.ok d6) (R.ok []))) (fn2 m_law_bounds)) fun d8 => (R.bind (R.bind (R.cons (R.ok d6) (R.ok [])) (fn1 dList)) fun d9 => (R.bind (R.bind (R.cons (R.ok d9) (R.ok [])) fun ds => R.bind (R.ok []) fun zs => noEr (fn1 m_Loads___init__ ((fun us zs => us ++ zs) ds zs))) fun d10 => (R.bind (R.bind (R.cons (R.bind (R.cons (R.ok d7) (R.ok [])) (fn1 dTuple)) (R.ok [])) fun ds => R.bind (R.ok []) fun zs => noEr (fn1 m_Loads___init__ ((fun us zs => us ++ zs) ds zs))) fun d11 => (R.bind (R.or (R.bind (R.bind (R.bind (R.cons (R.ok d9) (R.cons (R.ok d6) (R.ok []))) (fn2 m_law_ints)) dTruth) bNot) (R.or (R.bind (R.bind (R.bind (R.cons (R.ok d10) (R.cons (R.ok d6) (R.ok []))) (fn2 m_law_is_loads)) dTruth) bNot) (R.bind (R.bind (R.bind (R.cons (R.ok d11) (R.cons (R.ok d7) (R.ok []))) (fn2 m_law_is_loads)) dTruth) bNot))) fun b => if b = true then (R.bind (R.ok (D.bl false)) R.ok) else (R.bind (lstOf d9) fun xs => R.bind (R.ok (D.int 31)) fun dv => R.bind (dApp xs dv) fun d12 => (R.bind (lstOf d12) fun xs => R.bind (R.ok (D.int 31)) fun dv => R.bind (R.ok (D.int 0)) fun dj => R.bind (dSet xs dj dv) fun d13 => (R.bind (R.bind (R.bind (R.cons (R.ok s3) (R.ok [])) dRng1) fun ds => (compC ds yes (fun x15 => (R.op2 dAdd (R.op2 dIx (R.ok d6) (R.ok x15)) (R.op2 dIx (R.ok d7) (R.ok x15))))).bind finC) fun d14 => (R.bind (R.or (R.bind (R.bind (R.bind (R.cons (R.op2 (dOwn2 "Loads" m_Loads___add__ dAdd) (R.ok d10) (R.ok d11)) (R.cons (R.ok d14) (R.ok []))) (fn2 m_law_is_loads)) dTruth) bNot) (R.bind (R.bind (R.bind (R.cons (R.op2 (dOwn2 "Loads" m_Loads___add__ dAdd) (R.ok d11) (R.ok d10)) (R.cons (R.ok d14) (R.ok []))) (fn2 m_law_is_loads)) dTruth) bNot)) fun b => if b = true then (R.bind (R.ok (D.bl false)) R.ok) else (R.bind (R.bind (R.bind (R.bind (R.cons (R.op2 (dOwn2 "Loads" m_Loads___sub__ dSub) (R.ok d10) (R.ok d11)) (R.cons (R.bind (R.bind (R.cons (R.ok s3) (R.ok [])) dRng1) fun ds => (compC ds yes (fun x16 => (R.op2 dSub (R.op2 dIx (R.ok d6) (R.ok x16)) (R.op2 dIx (R.ok d7) (R.ok x16))))).bind finC) (R.ok []))) (fn2 m_law_is_loads)) dTruth) bNot) fun b => if b = true then (R.bind (R.ok (D.bl false)) R.ok) else (R.bind (R.or (R.bind (R.bind (R.bind (R.cons (R.op2 (dOwn2 "Loads" m_Loads___sub__ dSub) (R.op2 (dOwn2 "Loads" m_Loads___add__ dAdd) (R.ok d10) (R.ok d11)) (R.ok d10)) (R.cons (R.ok d7) (R.ok []))) (fn2 m_law_is_loads)) dTruth) bNot) (R.bind (R.bind (R.bind (R.cons (R.op2 (dOwn2 "Loads" m_Loads___sub__ dSub) (R.ok d10) (R.ok d10)) (R.cons (R.bind (R.bind (R.cons (R.ok s3) (R.ok [])) dRng1) fun ds => (compC ds yes (fun x17 => (R.ok (D.int 0)))).bind finC) (R.ok []))) (fn2 m_law_is_loads)) dTruth) bNot)) fun b => if b = true then (R.bind (R.ok (D.bl false)) R.ok) else (R.bind (R.bool (R.op2 dEq (R.bind (R.cons (R.bind (R.bind (R.cons (R.ok s3) (R.ok [])) dRng1) fun ds => (compC ds (fun x19 => (R.op2 dGt (R.op2 dIx (R.ok d6) (R.ok x19)) (R.op2 dIx (R.ok d8) (R.ok x19)))) (fun x19 => (R.ok (D.int 1)))).bind finC) (R.ok [])) (fn1 dLen)) (R.ok (D.int 0)))) fun d18 => (R.bind (R.or (R.bind (R.bind (R.bind (R.cons (R.ok d10) (R.cons (R.ok d8) (R.cons (R.ok d18) (R.ok [])))) (fn3 m_law_inside)) dTruth) bNot) (R.bind (R.bind (R.bind (R.cons (R.ok d10) (R.cons (R.bind (R.cons (R.ok d6) (R.cons (R.ok d8) (R.ok []))) (fn2 m_law_over)) (R.cons (R.ok (D.bl true)) (R.ok [])))) (fn3 m_law_inside)) dTruth) bNot)) fun b => if b = true then (R.bind (R.ok (D.bl false)) R.ok) else (R.bind (R.bind (R.bind (R.bind (R.cons (R.ok d10) (R.cons (R.ok d8) (R.cons (R.ok d18) (R.ok [])))) (fn3 m_law_inside)) dTruth) bNot) fun b => if b = true then (R.bind (R.ok (D.bl false)) R.ok) else (R.bind (R.bind (R.bind (R.bind (R.cons (R.op2 (dOwn2 "Loads" m_Loads___add__ dAdd) (R.ok d10) (R.ok d11)) (R.cons (R.bind (R.bind (R.cons (R.ok s3) (R.ok [])) dRng1) fun ds => (compC ds yes (fun x20 => (R.op2 dAdd (R.op2 dIx (R.ok d8) (R.ok x20)) (R.op2 dIx (R.ok d7) (R.ok x20))))).bind finC) (R.cons (R.ok d18) (R.ok [])))) (fn3 m_law_inside)) dTruth) bNot) fun b => if b = true then (R.bind (R.ok (D.bl false)) R.ok) else (R.bind (R.bind (R.bind (R.bind (R.cons (R.op2 dAdd (R.ok (D.int 1)) (R.bind (R.cons (R.bind (R.cons (R.ok a0) (R.cons (R.ok (D.int 3)) (R.ok []))) (fn2 m_law_cell)) (R.cons (R.ok (D.int 0)) (R.cons (R.ok (D.int 5)) (R.ok [])))) (fn3 m_law_draw))) (R.ok [])) (fn1 m_law_call_rows)) dTruth) bNot) fun b => if b = true then (R.bind (R.ok (D.bl false)) R.ok) else (R.bind (R.andV (R.bind (R.cons (R.ok d10) (R.cons (R.ok d6) (R.ok []))) (fn2 m_law_is_loads)) (R.bind (R.cons (R.ok d11) (R.cons (R.ok d7) (R.ok []))) (fn2 m_law_is_loads))) R.ok)))))))))))))))))))))))
/-! ### the text -/
def topS (i : Nat) : Stmt := PySem.Challenge.pw_unmovedways_k02_loads_objects.main.body.getD i (.Pass ⟨0, 0, 0, 0⟩)
abbrev s_law_cell : Stmt := topS 4
theorem sc_law_cell : FnScope ["script", "k"] ["script", "k"] (defScope s_law_cell) := ⟨rfl, rfl, rfl, by decide +kernel, rfl, by decide +kernel, by decide +kernel⟩
abbrev s_law_draw : Stmt := topS 5
theorem sc_law_draw : FnScope ["cell", "k", "size", "rest", "step", "mixed"] ["cell", "k", "size"] (defScope s_law_draw) := ⟨rfl, rfl, rfl, by decide +kernel, rfl, by decide +kernel, by decide +kernel⟩
abbrev s_law_row : Stmt := topS 8
theorem sc_law_row : FnScope ["cell", "many", "at"] ["cell", "many"] (defScope s_law_row) := ⟨rfl, rfl, rfl, by decide +kernel, rfl, by decide +kernel, by decide +kernel⟩
abbrev s_law_bounds : Stmt := topS 9
theorem sc_law_bounds : FnScope ["cell", "row", "form", "bounds", "place", "at"] ["cell", "row"] (defScope s_law_bounds) := ⟨rfl, rfl, rfl, by decide +kernel, rfl, by decide +kernel, by decide +kernel⟩
abbrev s_Loads___init__ : Stmt := inClass (topS 1) 0
theorem sc_Loads___init__ : FnScope ["self", "counts"] ["self", "counts"] (defScope s_Loads___init__) := ⟨rfl, rfl, rfl, by decide +kernel, rfl, by decide +kernel, by decide +kernel⟩
abbrev s_law_int : Stmt := topS 6
theorem sc_law_int : FnScope ["value"] ["value"] (defScope s_law_int) := ⟨rfl, rfl, rfl, by decide +kernel, rfl, by decide +kernel, by decide +kernel⟩
abbrev s_law_ints : Stmt := topS 7
theorem sc_law_ints : FnScope ["value", "due", "at"] ["value", "due"] (defScope s_law_ints) := ⟨rfl, rfl, rfl, by decide +kernel, rfl, by decide +kernel, by decide +kernel⟩
abbrev s_Loads___len__ : Stmt := inClass (topS 1) 4
theorem sc_Loads___len__ : FnScope ["self"] ["self"] (defScope s_Loads___len__) := ⟨rfl, rfl, rfl, by decide +kernel, rfl, by decide +kernel, by decide +kernel⟩
abbrev s_Loads___iter__ : Stmt := inClass (topS 1) 5
theorem sc_Loads___iter__ : FnScope ["self"] ["self"] (defScope s_Loads___iter__) := ⟨rfl, rfl, rfl, by decide +kernel, rfl, by decide +kernel, by decide +kernel⟩
abbrev s_Loads___getitem__ : Stmt := inClass (topS 1) 3
theorem sc_Loads___getitem__ : FnScope ["self", "at"] ["self", "at"] (defScope s_Loads___getitem__) := ⟨rfl, rfl, rfl, by decide +kernel, rfl, by decide +kernel, by decide +kernel⟩
abbrev s_law_is_loads : Stmt := topS 10
theorem sc_law_is_loads : FnScope ["value", "due", "at", "number"] ["value", "due"] (defScope s_law_is_loads) := ⟨rfl, rfl, rfl, by decide +kernel, rfl, by decide +kernel, by decide +kernel⟩
abbrev s_Loads___add__ : Stmt := inClass (topS 1) 1
theorem sc_Loads___add__ : FnScope ["self", "other", "at"] ["self", "other"] (defScope s_Loads___add__) := ⟨rfl, rfl, rfl, by decide +kernel, rfl, by decide +kernel, by decide +kernel⟩
abbrev s_Loads___sub__ : Stmt := inClass (topS 1) 2
theorem sc_Loads___sub__ : FnScope ["self", "other", "at"] ["self", "other"] (defScope s_Loads___sub__) := ⟨rfl, rfl, rfl, by decide +kernel, rfl, by decide +kernel, by decide +kernel⟩
abbrev s_law_bool : Stmt := topS 11
theorem sc_law_bool : FnScope ["value", "due"] ["value", "due"] (defScope s_law_bool) := ⟨rfl, rfl, rfl, by decide +kernel, rfl, by decide +kernel, by decide +kernel⟩
abbrev s_Loads_within : Stmt := inClass (topS 1) 6
theorem sc_Loads_within : FnScope ["self", "limits", "at"] ["self", "limits"] (defScope s_Loads_within) := ⟨rfl, rfl, rfl, by decide +kernel, rfl, by decide +kernel, by decide +kernel⟩
abbrev s_law_inside : Stmt := topS 12
theorem sc_law_inside : FnScope ["value", "bounds", "due", "handed"] ["value", "bounds", "due"] (defScope s_law_inside) := ⟨rfl, rfl, rfl, by decide +kernel, rfl, by decide +kernel, by decide +kernel⟩
abbrev s_law_over : Stmt := topS 13
theorem sc_law_over : FnScope ["row", "bounds", "at"] ["row", "bounds"] (defScope s_law_over) := ⟨rfl, rfl, rfl, by decide +kernel, rfl, by decide +kernel, by decide +kernel⟩
abbrev s_call_loads : Stmt := topS 2
theorem sc_call_loads : FnScope ["cells", "where", "_", "cell"] ["cells", "where"] (defScope s_call_loads) := ⟨rfl, rfl, rfl, by decide +kernel, rfl, by decide +kernel, by decide +kernel⟩
abbrev s_law_call_rows : Stmt := topS 14
theorem sc_law_call_rows : FnScope ["cells", "where", "due", "cell"] ["cells"] (defScope s_law_call_rows) := ⟨rfl, rfl, rfl, by decide +kernel, rfl, by decide +kernel, by decide +kernel⟩
abbrev s_law : Stmt := topS 15
theorem sc_law : FnScope ["script", "cell", "many", "first", "second", "bounds", "handed", "left", "right", "total", "due", "at"] ["script"] (defScope s_law) := ⟨rfl, rfl, rfl, by decide +kernel, rfl, by decide +kernel, by decide +kernel⟩
structure Bl (K : PySem.W.Frag) (ca : Ca) (mg : Str → Option Value) : Prop where
  b_bool : mg "bool" = none
  b_int : mg "int" = none
  b_isinstance : mg "isinstance" = none
  b_iter : mg "iter" = none
  b_len : mg "len" = none
  b_list : mg "list" = none
  b_max : mg "max" = none
  b_range : mg "range" = none
  b_tuple : mg "tuple" = none
  tm : ca tmK = 0
  cl_Loads : Cls K (ca "Loads")
  n_Loads_counts : NoAttr K (ca "Loads") "counts"
  g_Loads : mg "Loads" = some (.ref (ca "Loads"))
  ins : ∀ c ∈ [Str.ofString "Loads"], InsK K (ca c)
section
variable {P : Program} {w : World} {K : PySem.W.Frag} {mg : Str → Option Value} {base : Heap} {ca : Ca}
theorem ok_law_cell (B : Bl K ca mg) {a : Addr} {fd : FuncData} (F : Fun K "_law_cell" "_law_cell" s_law_cell a fd) (gm : mg "_law_cell" = some (.ref a)) (b : Binds K fd ["script", "k"] []) :
    Def P w K mg base ca "_law_cell" 1 [.r, .r] (.v) (fn2 m_law_cell) :=
  def_ok (k := 0) F sc_law_cell rfl (by decide) gm b (fun cdv A outer s H Q E F0 ds hl hr G => by
    have tk : L2N.Takes (cxOf (L2N.CX P w) P w K mg base ["script", "k"] "_law_cell" (defScope s_law_cell) a cdv A outer s H E) (fun c d _ H' => E c d H') := L2N.takes_of rfl rfl rfl rfl
    have hu := hr.units
    have hu65 := room65 hr
    have hIK := B.ins
    match ds, hl with
    | [a0, a1], _ =>
      conv => arg 6; whnf
      change SSs _ _ _ _ [some (Sl.b a0), some (Sl.b a1)] _ (m_law_cell a0 a1)
      unfold m_law_cell
      refine ss_if1 G.h ?_ ?_ ?_
      · exact (st_cmp ob_lt (se_b (i := 1)) (se_v2r (se_callB cv_len (sa_r (se_b (i := 0)) sa_nil) B.b_len)))
      · refine ss_ret G.h ?_
        exact (se_ix (se_b (i := 0)) (se_b (i := 1)))
      refine ss_ret G.h ?_
      exact se_int)
theorem ok_law_draw (B : Bl K ca mg) {a : Addr} {fd : FuncData} (F : Fun K "_law_draw" "_law_draw" s_law_draw a fd) (gm : mg "_law_draw" = some (.ref a)) (b : Binds K fd ["cell", "k", "size"] []) :
    Def P w K mg base ca "_law_draw" 1 [.r, .r, .r] (.v) (fn3 m_law_draw) :=
  def_ok (k := 0) F sc_law_draw rfl (by decide) gm b (fun cdv A outer s H Q E F0 ds hl hr G => by
    have tk : L2N.Takes (cxOf (L2N.CX P w) P w K mg base ["cell", "k", "size", "rest", "step", "mixed"] "_law_draw" (defScope s_law_draw) a cdv A outer s H E) (fun c d _ H' => E c d H') := L2N.takes_of rfl rfl rfl rfl
    have hu := hr.units
    have hu65 := room65 hr
    have hIK := B.ins
    match ds, hl with
    | [a0, a1, a2], _ =>
      conv => arg 6; whnf
      change SSs _ _ _ _ [some (Sl.b a0), some (Sl.b a1), some (Sl.b a2), none, none, none] _ (m_law_draw a0 a1 a2)
      unfold m_law_draw
      refine ss_if G.h (S := Unit) (fun (s1 : Unit) => [some (Sl.b a0), some (Sl.b a1), some (Sl.b a2), none, none, none]) ?_ ?_ ?_ ?_
      · exact (st_cmp ob_ge (se_b (i := 0)) (se_v2r (se_op ov_pow (se_v2r se_int) (se_v2r se_int))))
      · refine ss_set G.h ?_ (i := 3) (hk := ?_)
        · exact (se_callT cv_int (sa_r (se_b (i := 0)) sa_nil) B.b_int)
        intro d3
        refine ss_for G (S := D) (j := 4) (fun (s4 : D) => [some (Sl.b a0), some (Sl.b a1), some (Sl.b a2), some (Sl.d s4), none, none]) d3 ?_ ?_ ?_ ?_
        · exact (si_r1 (sa_r (se_b (i := 1)) sa_nil) B.b_range)
        · intro F1 G8 x5 s4 nx6 bk7
          refine ss_set G8.h ?_ (i := 3) (hk := ?_)
          · exact (se_op ov_fdiv (se_v2r (se_d (i := 3))) (se_v2r se_int))
          intro d9
          exact ss_nil ⟨d9, (EnLe.s (EnLe.s (EnLe.s (EnLe.s (EnLe.n (EnLe.n EnLe.nil)))))), rfl⟩
        · exact (EnLe.s (EnLe.s (EnLe.s (EnLe.s (EnLe.n (EnLe.n EnLe.nil))))))
        intro s4
        refine ss_if2 G.h ?_ ?_ ?_
        · exact (st_cmp ob_gt (se_v2r (se_d (i := 3))) (se_v2r se_int))
        · refine ss_ret G.h ?_
          exact (se_op ov_mod (se_v2r (se_op ov_mod (se_v2r (se_callT cv_int (sa_r (se_v2r (se_d (i := 3))) sa_nil) B.b_int)) (se_v2r se_int))) (se_b (i := 2)))
        · exact ss_nil ⟨(), (EnLe.s (EnLe.s (EnLe.s (EnLe.n (EnLe.n (EnLe.n EnLe.nil)))))), rfl⟩
      · exact ss_nil ⟨(), (EnLe.s (EnLe.s (EnLe.s (EnLe.n (EnLe.n (EnLe.n EnLe.nil)))))), rfl⟩
      intro s1
      refine ss_set G.h ?_ (i := 5) (hk := ?_)
      · exact (se_op ov_mod (se_v2r (se_callT cv_int (sa_r (se_v2r (se_op ov_add (se_v2r (se_op ov_add (se_b (i := 0)) (se_v2r (se_op ov_mul (se_v2r se_int) (se_b (i := 1)))))) (se_v2r se_int))) sa_nil) B.b_int)) (se_v2r se_int))
      intro d10
      refine ss_set G.h ?_ (i := 5) (hk := ?_)
      · exact (se_op ov_mod (se_v2r (se_callT cv_int (sa_r (se_v2r (se_op ov_mul (se_v2r (se_d (i := 5))) (se_v2r (se_op ov_add (se_v2r (se_d (i := 5))) (se_v2r se_int))))) sa_nil) B.b_int)) (se_v2r se_int))
      intro d11
      refine ss_set G.h ?_ (i := 5) (hk := ?_)
      · exact (se_op ov_mod (se_v2r (se_callT cv_int (sa_r (se_v2r (se_op ov_add (se_v2r (se_op ov_mul (se_v2r (se_d (i := 5))) (se_v2r (se_op ov_add (se_v2r (se_d (i := 5))) (se_v2r se_int))))) (se_v2r (se_op ov_mul (se_v2r se_int) (se_b (i := 1)))))) sa_nil) B.b_int)) (se_v2r se_int))
      intro d12
      refine ss_ret G.h ?_
      exact (se_op ov_mod (se_v2r (se_callT cv_int (sa_r (se_v2r (se_op ov_fdiv (se_v2r (se_d (i := 5))) (se_v2r se_int))) sa_nil) B.b_int)) (se_b (i := 2))))
theorem ok_law_row (B : Bl K ca mg) (D_law_draw : Def P w K mg base ca "_law_draw" 1 [.r, .r, .r] (.v) (fn3 m_law_draw)) {a : Addr} {fd : FuncData} (F : Fun K "_law_row" "_law_row" s_law_row a fd) (gm : mg "_law_row" = some (.ref a)) (b : Binds K fd ["cell", "many"] []) :
    Def P w K mg base ca "_law_row" 2 [.r, .r] (.o) (fn2 m_law_row) :=
  def_ok (k := 1) F sc_law_row rfl (by decide) gm b (fun cdv A outer s H Q E F0 ds hl hr G => by
    have tk : L2N.Takes (cxOf (L2N.CX P w) P w K mg base ["cell", "many", "at"] "_law_row" (defScope s_law_row) a cdv A outer s H E) (fun c d _ H' => E c d H') := L2N.takes_of rfl rfl rfl rfl
    have hu := hr.units
    have hu65 := room65 hr
    have hIK := B.ins
    match ds, hl with
    | [a0, a1], _ =>
      conv => arg 6; whnf
      change SSs _ _ _ _ [some (Sl.b a0), some (Sl.b a1), none] _ (m_law_row a0 a1)
      unfold m_law_row
      refine ss_ret G.h ?_
      exact (se_comp (j := 2) G.nd G.calm (blkOk_by rfl) (si_r1 (sa_r (se_b (i := 1)) sa_nil) B.b_range) (fun x1 _ _ _ _ _ => by exact sts_nil) (fun x1 _ _ _ _ _ => by exact (se_op ov_sub (se_v2r (se_call D_law_draw hr takesN0 (sa_r (se_b (i := 0)) (sa_r (se_v2r (se_op ov_add (se_v2r se_int) (se_v2r (se_d (i := 2))))) (sa_r (se_v2r se_int) sa_nil))))) (se_v2r se_int)))))
theorem ok_law_bounds (B : Bl K ca mg) (D_law_draw : Def P w K mg base ca "_law_draw" 1 [.r, .r, .r] (.v) (fn3 m_law_draw)) (D_law_row : Def P w K mg base ca "_law_row" 2 [.r, .r] (.o) (fn2 m_law_row)) {a : Addr} {fd : FuncData} (F : Fun K "_law_bounds" "_law_bounds" s_law_bounds a fd) (gm : mg "_law_bounds" = some (.ref a)) (b : Binds K fd ["cell", "row"] []) :
    Def P w K mg base ca "_law_bounds" 3 [.r, .r] (.o) (fn2 m_law_bounds) :=
  def_ok (k := 2) F sc_law_bounds rfl (by decide) gm b (fun cdv A outer s H Q E F0 ds hl hr G => by
    have tk : L2N.Takes (cxOf (L2N.CX P w) P w K mg base ["cell", "row", "form", "bounds", "place", "at"] "_law_bounds" (defScope s_law_bounds) a cdv A outer s H E) (fun c d _ H' => E c d H') := L2N.takes_of rfl rfl rfl rfl
    have hu := hr.units
    have hu65 := room65 hr
    have hIK := B.ins
    match ds, hl with
    | [a0, a1], _ =>
      conv => arg 6; whnf
      change SSs _ _ _ _ [some (Sl.b a0), some (Sl.b a1), none, none, none, none] _ (m_law_bounds a0 a1)
      unfold m_law_bounds
      refine ss_set G.h ?_ (i := 2) (hk := ?_)
      · exact (se_call D_law_draw hr tk (sa_r (se_b (i := 0)) (sa_r (se_v2r se_int) (sa_r (se_v2r se_int) sa_nil))))
      intro d1
      refine ss_if1 G.h ?_ ?_ ?_
      · exact (st_cmp (ob_eq hu) (se_v2r (se_d (i := 2))) (se_v2r se_int))
      · refine ss_ret G.h ?_
        exact (se_call D_law_row hr tk (sa_r (se_b (i := 0)) (sa_r (se_v2r (se_callB cv_len (sa_r (se_b (i := 1)) sa_nil) B.b_len)) sa_nil)))
      refine ss_setLcO G (i := 3) (j := 5) (blkOk_by rfl) ?_ ?_ ?_ ?_
      · exact (si_r1 (sa_r (se_v2r (se_callB cv_len (sa_r (se_b (i := 1)) sa_nil) B.b_len)) sa_nil) B.b_range)
      · exact (fun x3 _ _ _ _ _ => by exact sts_nil)
      · exact (fun x3 _ _ _ _ _ => by exact (se_op ov_add (se_v2r (se_ix (se_b (i := 1)) (se_v2r (se_d (i := 5))))) (se_v2r (se_op ov_mul (se_v2r (se_call D_law_draw hr takesN0 (sa_r (se_b (i := 0)) (sa_r (se_v2r (se_op ov_add (se_v2r se_int) (se_v2r (se_d (i := 5))))) (sa_r (se_v2r se_int) sa_nil))))) (se_v2r (se_callT cv_int (sa_r (se_v2r (se_cmp ob_gt (se_v2r (se_d (i := 2))) (se_v2r se_int))) sa_nil) B.b_int))))))
      intro d2
      refine ss_if G.h (S := D) (fun (s4 : D) => [some (Sl.b a0), some (Sl.b a1), some (Sl.d d1), some (Sl.o s4), none, none]) ?_ ?_ ?_ ?_
      · exact (st_bool (sw_and (st_cmp (ob_eq hu) (se_v2r (se_d (i := 2))) (se_v2r se_int)) (sw_and1 (st_cmp ob_gt (se_v2r (se_callB cv_len (sa_r (se_b (i := 1)) sa_nil) B.b_len)) (se_v2r se_int)))))
      · refine ss_set G.h ?_ (i := 4) (hk := ?_)
        · exact (se_op ov_mod (se_v2r (se_callT cv_int (sa_r (se_v2r (se_call D_law_draw hr tk (sa_r (se_b (i := 0)) (sa_r (se_v2r se_int) (sa_r (se_v2r se_int) sa_nil))))) sa_nil) B.b_int)) (se_v2r (se_callB cv_len (sa_r (se_b (i := 1)) sa_nil) B.b_len)))
        intro d6
        refine ss_setIx G.h ?_ ?_ (i := 3) (hk := ?_)
        · exact (se_op ov_sub (se_v2r (se_ix (se_b (i := 1)) (se_v2r (se_d (i := 4))))) (se_v2r se_int))
        · exact (se_v2r (se_d (i := 4)))
        intro d7
        exact ss_nil ⟨d7, (EnLe.s (EnLe.s (EnLe.s (EnLe.s (EnLe.n (EnLe.n EnLe.nil)))))), rfl⟩
      · exact ss_nil ⟨d2, (EnLe.s (EnLe.s (EnLe.s (EnLe.s (EnLe.n (EnLe.n EnLe.nil)))))), rfl⟩
      intro s4
      exact ss_retO G.h (i := 3))
theorem ok_Loads___init__ (B : Bl K ca mg) {a : Addr} {fd : FuncData} {dvs : List V} {kws : List (Str × V)} (F : FunD K "__init__" "Loads.__init__" (defArgs s_Loads___init__) (defBody s_Loads___init__) (defScope s_Loads___init__) dvs kws a fd) :
    FnOk P w K mg base (L2N.CX P w) 1 a fd ["self", "counts"] (spI K ca "Loads" [.r] (fn1 m_Loads___init__)) :=
  def_okI (k := 0) F sc_Loads___init__ rfl (by decide) (fun cdv A outer s H Hs Q E F0 p ds hl hr G => by
    have tk : L2N.Takes (cxOf (L2N.CX P w) P w K mg base ["self", "counts"] "Loads.__init__" (defScope s_Loads___init__) a cdv A outer s H E) (fun c d _ H' => E c d H') := L2N.takes_of rfl rfl rfl rfl
    have hu := hr.units
    have hu65 := room65 hr
    have hIK := B.ins
    match ds, hl with
    | [a1], _ =>
      conv => arg 6; whnf
      change SSs _ _ _ _ [some (Sl.o (D.ins "Loads" [] [])), some (Sl.b a1)] _ (m_Loads___init__ a1)
      unfold m_Loads___init__
      refine ss_fld G.h ?_ B.cl_Loads B.n_Loads_counts (i := 0) (hk := ?_)
      · exact (se_callT cv_tuple (sa_r (se_b (i := 1)) sa_nil) B.b_tuple)
      intro d1
      exact ss_nil ⟨_, rfl, rfl⟩)
theorem ok_law_int (B : Bl K ca mg) {a : Addr} {fd : FuncData} (F : Fun K "_law_int" "_law_int" s_law_int a fd) (gm : mg "_law_int" = some (.ref a)) (b : Binds K fd ["value"] []) :
    Def P w K mg base ca "_law_int" 1 [.r] (.v) (fn1 m_law_int) :=
  def_ok (k := 0) F sc_law_int rfl (by decide) gm b (fun cdv A outer s H Q E F0 ds hl hr G => by
    have tk : L2N.Takes (cxOf (L2N.CX P w) P w K mg base ["value"] "_law_int" (defScope s_law_int) a cdv A outer s H E) (fun c d _ H' => E c d H') := L2N.takes_of rfl rfl rfl rfl
    have hu := hr.units
    have hu65 := room65 hr
    have hIK := B.ins
    match ds, hl with
    | [a0], _ =>
      conv => arg 6; whnf
      change SSs _ _ _ _ [some (Sl.b a0)] _ (m_law_int a0)
      unfold m_law_int
      refine ss_ret G.h ?_
      exact (se_and (se_v2r (se_callB (cv_isi [Str.ofString "Loads"] hIK) (sa_r (se_b (i := 0)) (sa_v (se_ty B.b_int) sa_nil)) B.b_isinstance)) (se_one (se_notD (se_v2r (se_callB (cv_isi [Str.ofString "Loads"] hIK) (sa_r (se_b (i := 0)) (sa_v (se_ty B.b_bool) sa_nil)) B.b_isinstance))))))
theorem ok_law_ints (B : Bl K ca mg) (D_law_int : Def P w K mg base ca "_law_int" 1 [.r] (.v) (fn1 m_law_int)) {a : Addr} {fd : FuncData} (F : Fun K "_law_ints" "_law_ints" s_law_ints a fd) (gm : mg "_law_ints" = some (.ref a)) (b : Binds K fd ["value", "due"] []) :
    Def P w K mg base ca "_law_ints" 2 [.r, .r] (.v) (fn2 m_law_ints) :=
  def_ok (k := 1) F sc_law_ints rfl (by decide) gm b (fun cdv A outer s H Q E F0 ds hl hr G => by
    have tk : L2N.Takes (cxOf (L2N.CX P w) P w K mg base ["value", "due", "at"] "_law_ints" (defScope s_law_ints) a cdv A outer s H E) (fun c d _ H' => E c d H') := L2N.takes_of rfl rfl rfl rfl
    have hu := hr.units
    have hu65 := room65 hr
    have hIK := B.ins
    match ds, hl with
    | [a0, a1], _ =>
      conv => arg 6; whnf
      change SSs _ _ _ _ [some (Sl.b a0), some (Sl.b a1), none] _ (m_law_ints a0 a1)
      unfold m_law_ints
      refine ss_if1 G.h ?_ ?_ ?_
      · exact (st_bool (sw_or (st_cmp (ob_ne hu) (se_v2r (se_callB (cv_isi [Str.ofString "Loads"] hIK) (sa_r (se_b (i := 0)) (sa_v (se_ty B.b_list) sa_nil)) B.b_isinstance)) (se_v2r (se_callB (cv_isi [Str.ofString "Loads"] hIK) (sa_r (se_b (i := 1)) (sa_v (se_ty B.b_list) sa_nil)) B.b_isinstance))) (sw_or1 (st_cmp (ob_ne hu) (se_v2r (se_callB (cv_isi [Str.ofString "Loads"] hIK) (sa_r (se_b (i := 0)) (sa_v (se_ty B.b_tuple) sa_nil)) B.b_isinstance)) (se_v2r (se_callB (cv_isi [Str.ofString "Loads"] hIK) (sa_r (se_b (i := 1)) (sa_v (se_ty B.b_tuple) sa_nil)) B.b_isinstance))))))
      · refine ss_ret G.h ?_
        exact se_bl
      refine ss_if1 G.h ?_ ?_ ?_
      · exact (st_cmp (ob_ne hu) (se_v2r (se_callB cv_len (sa_r (se_b (i := 0)) sa_nil) B.b_len)) (se_v2r (se_callB cv_len (sa_r (se_b (i := 1)) sa_nil) B.b_len)))
      · refine ss_ret G.h ?_
        exact se_bl
      refine ss_for G (S := Unit) (j := 2) (fun (s1 : Unit) => [some (Sl.b a0), some (Sl.b a1), none]) () ?_ ?_ ?_ ?_
      · exact (si_r1 (sa_r (se_v2r (se_callB cv_len (sa_r (se_b (i := 1)) sa_nil) B.b_len)) sa_nil) B.b_range)
      · intro F1 G5 x2 s1 nx3 bk4
        refine ss_if2 G5.h ?_ ?_ ?_
        · exact (st_bool (sw_or (st_notD (st_val (se_v2r (se_call D_law_int hr tk (sa_r (se_v2r (se_ix (se_b (i := 0)) (se_v2r (se_d (i := 2))))) sa_nil))))) (sw_or1 (st_cmp (ob_ne hu) (se_v2r (se_ix (se_b (i := 0)) (se_v2r (se_d (i := 2))))) (se_v2r (se_ix (se_b (i := 1)) (se_v2r (se_d (i := 2)))))))))
        · refine ss_ret G5.h ?_
          exact se_bl
        · exact ss_nil ⟨(), (EnLe.s (EnLe.s (EnLe.n EnLe.nil))), rfl⟩
      · exact (EnLe.s (EnLe.s (EnLe.n EnLe.nil)))
      intro s1
      refine ss_ret G.h ?_
      exact se_bl)
theorem ok_Loads___getitem__ (B : Bl K ca mg) {a : Addr} {fd : FuncData} (F : Fun K "__getitem__" "Loads.__getitem__" s_Loads___getitem__ a fd) :
    FnOk P w K mg base (L2N.CX P w) 1 a fd ["self", "at"] (spOf K ca [.r, .r] (.v) (fn2 m_Loads___getitem__)) :=
  def_okF (k := 0) F sc_Loads___getitem__ rfl (by decide) (fun cdv A outer s H Q E F0 ds hl hr G => by
    have tk : L2N.Takes (cxOf (L2N.CX P w) P w K mg base ["self", "at"] "Loads.__getitem__" (defScope s_Loads___getitem__) a cdv A outer s H E) (fun c d _ H' => E c d H') := L2N.takes_of rfl rfl rfl rfl
    have hu := hr.units
    have hu65 := room65 hr
    have hIK := B.ins
    match ds, hl with
    | [a0, a1], _ =>
      conv => arg 6; whnf
      change SSs _ _ _ _ [some (Sl.b a0), some (Sl.b a1)] _ (m_Loads___getitem__ a0 a1)
      unfold m_Loads___getitem__
      refine ss_ret G.h ?_
      exact (se_ix (se_v2r (se_fld (se_b (i := 0)) B.cl_Loads B.n_Loads_counts)) (se_b (i := 1))))
theorem ok_law_is_loads (B : Bl K ca mg) (LT_Loads : LenT P w K mg base (ca "Loads") "counts") (D_law_ints : Def P w K mg base ca "_law_ints" 2 [.r, .r] (.v) (fn2 m_law_ints)) (O_Loads___getitem__ : ODef P w K mg base ca "Loads" "__getitem__" 1 [.r, .r] (.v) (fn2 m_Loads___getitem__)) {a : Addr} {fd : FuncData} (F : Fun K "_law_is_loads" "_law_is_loads" s_law_is_loads a fd) (gm : mg "_law_is_loads" = some (.ref a)) (b : Binds K fd ["value", "due"] []) :
    Def P w K mg base ca "_law_is_loads" 5 [.r, .r] (.v) (fn2 m_law_is_loads) :=
  def_ok (k := 4) F sc_law_is_loads rfl (by decide) gm b (fun cdv A outer s H Q E F0 ds hl hr G => by
    have tk : L2N.Takes (cxOf (L2N.CX P w) P w K mg base ["value", "due", "at", "number"] "_law_is_loads" (defScope s_law_is_loads) a cdv A outer s H E) (fun c d _ H' => E c d H') := L2N.takes_of rfl rfl rfl rfl
    have hu := hr.units
    have hu65 := room65 hr
    have hIK := B.ins
    match ds, hl with
    | [a0, a1], _ =>
      conv => arg 6; whnf
      change SSs _ _ _ _ [some (Sl.b a0), some (Sl.b a1), none, none] _ (m_law_is_loads a0 a1)
      unfold m_law_is_loads
      refine ss_if1 G.h ?_ ?_ ?_
      · exact (st_bool (sw_or (st_notD (st_val (se_v2r (se_callB (cv_isi [Str.ofString "Loads"] hIK) (sa_r (se_b (i := 0)) (sa_v (se_cls B.g_Loads) sa_nil)) B.b_isinstance)))) (sw_or (st_notD (st_val (se_v2r (se_call D_law_ints hr tk (sa_r (se_v2r (se_fld (se_b (i := 0)) B.cl_Loads B.n_Loads_counts)) (sa_r (se_v2r (se_callT cv_tuple (sa_r (se_b (i := 1)) sa_nil) B.b_tuple)) sa_nil)))))) (sw_or1 (st_cmp (ob_ne hu) (se_v2r (se_lenOwnT LT_Loads (hr.mono (by decide)) (sa_r (se_b (i := 0)) sa_nil) B.b_len)) (se_v2r (se_callB cv_len (sa_r (se_b (i := 1)) sa_nil) B.b_len)))))))
      · refine ss_ret G.h ?_
        exact se_bl
      refine ss_if1 G.h ?_ ?_ ?_
      · exact (st_notD (st_val (se_v2r (se_call D_law_ints hr tk (sa_r (se_o2r (se_comp (j := 2) G.nd G.calm (blkOk_by rfl) (si_r1 (sa_r (se_v2r (se_callB cv_len (sa_r (se_b (i := 1)) sa_nil) B.b_len)) sa_nil) B.b_range) (fun x1 _ _ _ _ _ => by exact sts_nil) (fun x1 _ _ _ _ _ => by exact (se_ixOwn O_Loads___getitem__ hr (se_b (i := 0)) (se_v2r (se_d (i := 2))))))) (sa_r (se_b (i := 1)) sa_nil))))))
      · refine ss_ret G.h ?_
        exact se_bl
      refine ss_ret G.h ?_
      exact (se_and (se_v2r (se_call D_law_ints hr tk (sa_r (se_o2r (se_comp (j := 3) G.nd G.calm (blkOk_by rfl) (si_ownT LT_Loads (hr.mono (by decide)) (se_b (i := 0))) (fun x2 _ _ _ _ _ => by exact sts_nil) (fun x2 _ _ _ _ _ => by exact (se_d (i := 3))))) (sa_r (se_b (i := 1)) sa_nil)))) (se_one (se_call D_law_ints hr tk (sa_r (se_o2r (se_listOwnT G.calm LT_Loads (hr.mono (by decide)) (sa_r (se_b (i := 0)) sa_nil) B.b_list)) (sa_r (se_b (i := 1)) sa_nil))))))
theorem ok_Loads___add__ (B : Bl K ca mg) (W0_Loads : IWay P w K mg base ca "Loads" 1 [.r] (fn1 m_Loads___init__) 1 [] [.r] [] (fun us zs => us ++ zs)) {a : Addr} {fd : FuncData} (F : Fun K "__add__" "Loads.__add__" s_Loads___add__ a fd) :
    FnOk P w K mg base (L2N.CX P w) 3 a fd ["self", "other"] (spOf K ca [.r, .r] (.v) (fn2 m_Loads___add__)) :=
  def_okF (k := 2) F sc_Loads___add__ rfl (by decide) (fun cdv A outer s H Q E F0 ds hl hr G => by
    have tk : L2N.Takes (cxOf (L2N.CX P w) P w K mg base ["self", "other", "at"] "Loads.__add__" (defScope s_Loads___add__) a cdv A outer s H E) (fun c d _ H' => E c d H') := L2N.takes_of rfl rfl rfl rfl
    have hu := hr.units
    have hu65 := room65 hr
    have hIK := B.ins
    match ds, hl with
    | [a0, a1], _ =>
      conv => arg 6; whnf
      change SSs _ _ _ _ [some (Sl.b a0), some (Sl.b a1), none] _ (m_Loads___add__ a0 a1)
      unfold m_Loads___add__
      refine ss_ret G.h ?_
      exact (se_o2v (se_make W0_Loads hr (sa_r (se_o2r (se_comp (j := 2) G.nd G.calm (blkOk_by rfl) (si_r1 (sa_r (se_v2r (se_callB cv_len (sa_r (se_v2r (se_fld (se_b (i := 0)) B.cl_Loads B.n_Loads_counts)) sa_nil) B.b_len)) sa_nil) B.b_range) (fun x1 _ _ _ _ _ => by exact sts_nil) (fun x1 _ _ _ _ _ => by exact (se_op ov_add (se_v2r (se_ix (se_v2r (se_fld (se_b (i := 0)) B.cl_Loads B.n_Loads_counts)) (se_v2r (se_d (i := 2))))) (se_v2r (se_ix (se_v2r (se_fld (se_b (i := 1)) B.cl_Loads B.n_Loads_counts)) (se_v2r (se_d (i := 2))))))))) sa_nil) sk_nil)))
theorem ok_Loads___sub__ (B : Bl K ca mg) (W0_Loads : IWay P w K mg base ca "Loads" 1 [.r] (fn1 m_Loads___init__) 1 [] [.r] [] (fun us zs => us ++ zs)) {a : Addr} {fd : FuncData} (F : Fun K "__sub__" "Loads.__sub__" s_Loads___sub__ a fd) :
    FnOk P w K mg base (L2N.CX P w) 3 a fd ["self", "other"] (spOf K ca [.r, .r] (.v) (fn2 m_Loads___sub__)) :=
  def_okF (k := 2) F sc_Loads___sub__ rfl (by decide) (fun cdv A outer s H Q E F0 ds hl hr G => by
    have tk : L2N.Takes (cxOf (L2N.CX P w) P w K mg base ["self", "other", "at"] "Loads.__sub__" (defScope s_Loads___sub__) a cdv A outer s H E) (fun c d _ H' => E c d H') := L2N.takes_of rfl rfl rfl rfl
    have hu := hr.units
    have hu65 := room65 hr
    have hIK := B.ins
    match ds, hl with
    | [a0, a1], _ =>
      conv => arg 6; whnf
      change SSs _ _ _ _ [some (Sl.b a0), some (Sl.b a1), none] _ (m_Loads___sub__ a0 a1)
      unfold m_Loads___sub__
      refine ss_ret G.h ?_
      exact (se_o2v (se_make W0_Loads hr (sa_r (se_o2r (se_comp (j := 2) G.nd G.calm (blkOk_by rfl) (si_r1 (sa_r (se_v2r (se_callB cv_len (sa_r (se_v2r (se_fld (se_b (i := 0)) B.cl_Loads B.n_Loads_counts)) sa_nil) B.b_len)) sa_nil) B.b_range) (fun x1 _ _ _ _ _ => by exact sts_nil) (fun x1 _ _ _ _ _ => by exact (se_op ov_sub (se_v2r (se_ix (se_v2r (se_fld (se_b (i := 0)) B.cl_Loads B.n_Loads_counts)) (se_v2r (se_d (i := 2))))) (se_v2r (se_ix (se_v2r (se_fld (se_b (i := 1)) B.cl_Loads B.n_Loads_counts)) (se_v2r (se_d (i := 2))))))))) sa_nil) sk_nil)))
theorem ok_law_bool (B : Bl K ca mg) {a : Addr} {fd : FuncData} (F : Fun K "_law_bool" "_law_bool" s_law_bool a fd) (gm : mg "_law_bool" = some (.ref a)) (b : Binds K fd ["value", "due"] []) :
    Def P w K mg base ca "_law_bool" 1 [.r, .r] (.v) (fn2 m_law_bool) :=
  def_ok (k := 0) F sc_law_bool rfl (by decide) gm b (fun cdv A outer s H Q E F0 ds hl hr G => by
    have tk : L2N.Takes (cxOf (L2N.CX P w) P w K mg base ["value", "due"] "_law_bool" (defScope s_law_bool) a cdv A outer s H E) (fun c d _ H' => E c d H') := L2N.takes_of rfl rfl rfl rfl
    have hu := hr.units
    have hu65 := room65 hr
    have hIK := B.ins
    match ds, hl with
    | [a0, a1], _ =>
      conv => arg 6; whnf
      change SSs _ _ _ _ [some (Sl.b a0), some (Sl.b a1)] _ (m_law_bool a0 a1)
      unfold m_law_bool
      refine ss_ret G.h ?_
      exact (se_and (se_v2r (se_callB (cv_isi [Str.ofString "Loads"] hIK) (sa_r (se_b (i := 0)) (sa_v (se_ty B.b_bool) sa_nil)) B.b_isinstance)) (se_one (se_cmp (ob_eq hu) (se_b (i := 0)) (se_b (i := 1))))))
theorem ok_Loads_within (B : Bl K ca mg) {a : Addr} {fd : FuncData} (F : Fun K "within" "Loads.within" s_Loads_within a fd) :
    FnOk P w K mg base (L2N.CX P w) 1 a fd ["self", "limits"] (spOf K ca [.r, .r] (.v) (fn2 m_Loads_within)) :=
  def_okF (k := 0) F sc_Loads_within rfl (by decide) (fun cdv A outer s H Q E F0 ds hl hr G => by
    have tk : L2N.Takes (cxOf (L2N.CX P w) P w K mg base ["self", "limits", "at"] "Loads.within" (defScope s_Loads_within) a cdv A outer s H E) (fun c d _ H' => E c d H') := L2N.takes_of rfl rfl rfl rfl
    have hu := hr.units
    have hu65 := room65 hr
    have hIK := B.ins
    match ds, hl with
    | [a0, a1], _ =>
      conv => arg 6; whnf
      change SSs _ _ _ _ [some (Sl.b a0), some (Sl.b a1), none] _ (m_Loads_within a0 a1)
      unfold m_Loads_within
      refine ss_for G (S := Unit) (j := 2) (fun (s1 : Unit) => [some (Sl.b a0), some (Sl.b a1), none]) () ?_ ?_ ?_ ?_
      · exact (si_r1 (sa_r (se_v2r (se_callB cv_len (sa_r (se_v2r (se_fld (se_b (i := 0)) B.cl_Loads B.n_Loads_counts)) sa_nil) B.b_len)) sa_nil) B.b_range)
      · intro F1 G5 x2 s1 nx3 bk4
        refine ss_if2 G5.h ?_ ?_ ?_
        · exact (st_cmp ob_gt (se_v2r (se_ix (se_v2r (se_fld (se_b (i := 0)) B.cl_Loads B.n_Loads_counts)) (se_v2r (se_d (i := 2))))) (se_v2r (se_ix (se_b (i := 1)) (se_v2r (se_d (i := 2))))))
        · refine ss_ret G5.h ?_
          exact se_bl
        · exact ss_nil ⟨(), (EnLe.s (EnLe.s (EnLe.n EnLe.nil))), rfl⟩
      · exact (EnLe.s (EnLe.s (EnLe.n EnLe.nil)))
      intro s1
      refine ss_ret G.h ?_
      exact se_bl)
theorem ok_law_inside (B : Bl K ca mg) (M0_Loads_within : MWay P w K mg base ca "Loads" "within" 1 [.r, .r] (.v) (fn2 m_Loads_within) 2 [] [.r, .r] [] (fun us (_ : List D) => us)) (D_law_bool : Def P w K mg base ca "_law_bool" 1 [.r, .r] (.v) (fn2 m_law_bool)) (D_law_ints : Def P w K mg base ca "_law_ints" 2 [.r, .r] (.v) (fn2 m_law_ints)) {a : Addr} {fd : FuncData} (F : Fun K "_law_inside" "_law_inside" s_law_inside a fd) (gm : mg "_law_inside" = some (.ref a)) (b : Binds K fd ["value", "bounds", "due"] []) :
    Def P w K mg base ca "_law_inside" 3 [.r, .r, .r] (.v) (fn3 m_law_inside) :=
  def_ok (k := 2) F sc_law_inside rfl (by decide) gm b (fun cdv A outer s H Q E F0 ds hl hr G => by
    have tk : L2N.Takes (cxOf (L2N.CX P w) P w K mg base ["value", "bounds", "due", "handed"] "_law_inside" (defScope s_law_inside) a cdv A outer s H E) (fun c d _ H' => E c d H') := L2N.takes_of rfl rfl rfl rfl
    have hu := hr.units
    have hu65 := room65 hr
    have hIK := B.ins
    match ds, hl with
    | [a0, a1, a2], _ =>
      conv => arg 6; whnf
      change SSs _ _ _ _ [some (Sl.b a0), some (Sl.b a1), some (Sl.b a2), none] _ (m_law_inside a0 a1 a2)
      unfold m_law_inside
      refine ss_set G.h ?_ (i := 3) (hk := ?_)
      · exact (se_o2v (se_callT cv_list (sa_r (se_b (i := 1)) sa_nil) B.b_list))
      intro d1
      refine ss_if1 G.h ?_ ?_ ?_
      · exact (st_bool (sw_or (st_notD (st_val (se_v2r (se_call D_law_bool hr tk (sa_r (se_v2r (se_methK (f := fn2 m_Loads_within) (aD := (fun us (_ : List D) => us)) M0_Loads_within hr tk (se_b (i := 0)) (sa_r (se_v2r (se_d (i := 3))) sa_nil) sk_nil)) (sa_r (se_b (i := 2)) sa_nil)))))) (sw_or1 (st_notD (st_val (se_v2r (se_call D_law_bool hr tk (sa_r (se_v2r (se_methK (f := fn2 m_Loads_within) (aD := (fun us (_ : List D) => us)) M0_Loads_within hr tk (se_b (i := 0)) (sa_r (se_v2r (se_callT cv_tuple (sa_r (se_b (i := 1)) sa_nil) B.b_tuple)) sa_nil) sk_nil)) (sa_r (se_b (i := 2)) sa_nil)))))))))
      · refine ss_ret G.h ?_
        exact se_bl
      refine ss_ret G.h ?_
      exact (se_call D_law_ints hr tk (sa_r (se_v2r (se_d (i := 3))) (sa_r (se_b (i := 1)) sa_nil))))
theorem ok_law_over (B : Bl K ca mg) {a : Addr} {fd : FuncData} (F : Fun K "_law_over" "_law_over" s_law_over a fd) (gm : mg "_law_over" = some (.ref a)) (b : Binds K fd ["row", "bounds"] []) :
    Def P w K mg base ca "_law_over" 1 [.r, .r] (.o) (fn2 m_law_over) :=
  def_ok (k := 0) F sc_law_over rfl (by decide) gm b (fun cdv A outer s H Q E F0 ds hl hr G => by
    have tk : L2N.Takes (cxOf (L2N.CX P w) P w K mg base ["row", "bounds", "at"] "_law_over" (defScope s_law_over) a cdv A outer s H E) (fun c d _ H' => E c d H') := L2N.takes_of rfl rfl rfl rfl
    have hu := hr.units
    have hu65 := room65 hr
    have hIK := B.ins
    match ds, hl with
    | [a0, a1], _ =>
      conv => arg 6; whnf
      change SSs _ _ _ _ [some (Sl.b a0), some (Sl.b a1), none] _ (m_law_over a0 a1)
      unfold m_law_over
      refine ss_ret G.h ?_
      exact (se_comp (j := 2) G.nd G.calm (blkOk_by rfl) (si_r1 (sa_r (se_v2r (se_callB cv_len (sa_r (se_b (i := 0)) sa_nil) B.b_len)) sa_nil) B.b_range) (fun x1 _ _ _ _ _ => by exact sts_nil) (fun x1 _ _ _ _ _ => by exact (se_callB (cv_max2 G.calm) (sa_r (se_v2r (se_ix (se_b (i := 0)) (se_v2r (se_d (i := 2))))) (sa_r (se_v2r (se_ix (se_b (i := 1)) (se_v2r (se_d (i := 2))))) sa_nil)) B.b_max))))
theorem ok_call_loads (B : Bl K ca mg) (W0_Loads : IWay P w K mg base ca "Loads" 1 [.r] (fn1 m_Loads___init__) 1 [] [.r] [] (fun us zs => us ++ zs)) {a : Addr} {fd : FuncData} (F : Fun K "call_loads" "call_loads" s_call_loads a fd) (gm : mg "call_loads" = some (.ref a)) (b : Binds K fd ["cells", "where"] []) :
    Def P w K mg base ca "call_loads" 3 [.r, .r] (.v) (fn2 m_call_loads) :=
  def_ok (k := 2) F sc_call_loads rfl (by decide) gm b (fun cdv A outer s H Q E F0 ds hl hr G => by
    have tk : L2N.Takes (cxOf (L2N.CX P w) P w K mg base ["cells", "where", "_", "cell"] "call_loads" (defScope s_call_loads) a cdv A outer s H E) (fun c d _ H' => E c d H') := L2N.takes_of rfl rfl rfl rfl
    have hu := hr.units
    have hu65 := room65 hr
    have hIK := B.ins
    match ds, hl with
    | [a0, a1], _ =>
      conv => arg 6; whnf
      change SSs _ _ _ _ [some (Sl.b a0), some (Sl.b a1), none, none] _ (m_call_loads a0 a1)
      unfold m_call_loads
      refine ss_if1 G.h ?_ ?_ ?_
      · exact (st_cmp (ob_eq hu) (se_b (i := 1)) (se_v2r (se_neg (se_v2r se_int))))
      · refine ss_ret G.h ?_
        exact (se_o2v (se_make W0_Loads hr (sa_r (se_o2r (se_comp (j := 2) G.nd G.calm (blkOk_by rfl) (si_r1 (sa_r (se_b (i := 0)) sa_nil) B.b_range) (fun x1 _ _ _ _ _ => by exact sts_nil) (fun x1 _ _ _ _ _ => by exact se_int))) sa_nil) sk_nil))
      refine ss_ret G.h ?_
      exact (se_o2v (se_make W0_Loads hr (sa_r (se_o2r (se_comp (j := 3) G.nd G.calm (blkOk_by rfl) (si_r1 (sa_r (se_b (i := 0)) sa_nil) B.b_range) (fun x2 _ _ _ _ _ => by exact sts_nil) (fun x2 _ _ _ _ _ => by exact (se_callT cv_int (sa_r (se_v2r (se_cmp (ob_eq hu) (se_v2r (se_d (i := 3))) (se_b (i := 1)))) sa_nil) B.b_int)))) sa_nil) sk_nil)))
theorem ok_law_call_rows (B : Bl K ca mg) (D_call_loads : Def P w K mg base ca "call_loads" 3 [.r, .r] (.v) (fn2 m_call_loads)) (D_law_is_loads : Def P w K mg base ca "_law_is_loads" 5 [.r, .r] (.v) (fn2 m_law_is_loads)) {a : Addr} {fd : FuncData} (F : Fun K "_law_call_rows" "_law_call_rows" s_law_call_rows a fd) (gm : mg "_law_call_rows" = some (.ref a)) (b : Binds K fd ["cells"] []) :
    Def P w K mg base ca "_law_call_rows" 6 [.r] (.v) (fn1 m_law_call_rows) :=
  def_ok (k := 5) F sc_law_call_rows rfl (by decide) gm b (fun cdv A outer s H Q E F0 ds hl hr G => by
    have tk : L2N.Takes (cxOf (L2N.CX P w) P w K mg base ["cells", "where", "due", "cell"] "_law_call_rows" (defScope s_law_call_rows) a cdv A outer s H E) (fun c d _ H' => E c d H') := L2N.takes_of rfl rfl rfl rfl
    have hu := hr.units
    have hu65 := room65 hr
    have hIK := B.ins
    match ds, hl with
    | [a0], _ =>
      conv => arg 6; whnf
      change SSs _ _ _ _ [some (Sl.b a0), none, none, none] _ (m_law_call_rows a0)
      unfold m_law_call_rows
      refine ss_for G (S := Unit) (j := 1) (fun (s1 : Unit) => [some (Sl.b a0), none, none, none]) () ?_ ?_ ?_ ?_
      · exact (si_r2 (sa_r (se_v2r (se_neg (se_v2r se_int))) (sa_r (se_b (i := 0)) sa_nil)) B.b_range)
      · intro F1 G5 x2 s1 nx3 bk4
        refine ss_setLcO G5 (i := 2) (j := 3) (blkOk_by rfl) ?_ ?_ ?_ ?_
        · exact (si_r1 (sa_r (se_b (i := 0)) sa_nil) B.b_range)
        · exact (fun x7 _ _ _ _ _ => by exact sts_nil)
        · exact (fun x7 _ _ _ _ _ => by exact (se_callT cv_int (sa_r (se_v2r (se_or (se_v2r (se_cmp (ob_eq hu) (se_v2r (se_d (i := 1))) (se_v2r (se_neg (se_v2r se_int))))) (se_one (se_cmp (ob_eq hu) (se_v2r (se_d (i := 1))) (se_v2r (se_d (i := 3))))))) sa_nil) B.b_int))
        intro d6
        refine ss_freeze (i := 2) (h := ?_)
        refine ss_if2 G5.h ?_ ?_ ?_
        · exact (st_notD (st_val (se_v2r (se_call D_law_is_loads hr tk (sa_r (se_v2r (se_call D_call_loads hr tk (sa_r (se_b (i := 0)) (sa_r (se_v2r (se_d (i := 1))) sa_nil)))) (sa_r (se_v2r (se_d (i := 2))) sa_nil))))))
        · refine ss_ret G5.h ?_
          exact se_bl
        · exact ss_nil ⟨(), (EnLe.s (EnLe.n (EnLe.n (EnLe.n EnLe.nil)))), rfl⟩
      · exact (EnLe.s (EnLe.n (EnLe.n (EnLe.n EnLe.nil))))
      intro s1
      refine ss_ret G.h ?_
      exact se_bl)
theorem ok_law (B : Bl K ca mg) (D_law_cell : Def P w K mg base ca "_law_cell" 1 [.r, .r] (.v) (fn2 m_law_cell)) (D_law_draw : Def P w K mg base ca "_law_draw" 1 [.r, .r, .r] (.v) (fn3 m_law_draw)) (D_law_row : Def P w K mg base ca "_law_row" 2 [.r, .r] (.o) (fn2 m_law_row)) (D_law_bounds : Def P w K mg base ca "_law_bounds" 3 [.r, .r] (.o) (fn2 m_law_bounds)) (W0_Loads : IWay P w K mg base ca "Loads" 1 [.r] (fn1 m_Loads___init__) 1 [] [.r] [] (fun us zs => us ++ zs)) (D_law_is_loads : Def P w K mg base ca "_law_is_loads" 5 [.r, .r] (.v) (fn2 m_law_is_loads)) (D_law_ints : Def P w K mg base ca "_law_ints" 2 [.r, .r] (.v) (fn2 m_law_ints)) (O_Loads___add__ : ODef P w K mg base ca "Loads" "__add__" 3 [.r, .r] (.v) (fn2 m_Loads___add__)) (O_Loads___sub__ : ODef P w K mg base ca "Loads" "__sub__" 3 [.r, .r] (.v) (fn2 m_Loads___sub__)) (D_law_over : Def P w K mg base ca "_law_over" 1 [.r, .r] (.o) (fn2 m_law_over)) (D_law_inside : Def P w K mg base ca "_law_inside" 3 [.r, .r, .r] (.v) (fn3 m_law_inside)) (D_law_call_rows : Def P w K mg base ca "_law_call_rows" 6 [.r] (.v) (fn1 m_law_call_rows)) {a : Addr} {fd : FuncData} (F : Fun K "law" "law" s_law a fd) :
    FnOk P w K mg base (L2N.CX P w) 7 a fd ["script"] (spOf K ca [.r] (.v) (fn1 m_law)) :=
  def_okF (k := 6) F sc_law rfl (by decide) (fun cdv A outer s H Q E F0 ds hl hr G => by
    have tk : L2N.Takes (cxOf (L2N.CX P w) P w K mg base ["script", "cell", "many", "first", "second", "bounds", "handed", "left", "right", "total", "due", "at"] "law" (defScope s_law) a cdv A outer s H E) (fun c d _ H' => E c d H') := L2N.takes_of rfl rfl rfl rfl
    have hu := hr.units
    have hu65 := room65 hr
    have hIK := B.ins
    match ds, hl with
    | [a0], _ =>
      conv => arg 6; whnf
      change SSs _ _ _ _ [some (Sl.b a0), none, none, none, none, none, none, none, none, none, none, none] _ (m_law a0)
      unfold m_law
      refine ss_set G.h ?_ (i := 1) (hk := ?_)
      · exact (se_call D_law_cell hr tk (sa_r (se_b (i := 0)) (sa_r (se_v2r se_int) sa_nil)))
      intro d1
      refine ss_set G.h ?_ (i := 2) (hk := ?_)
      · exact (se_call D_law_draw hr tk (sa_r (se_v2r (se_d (i := 1))) (sa_r (se_v2r se_int) (sa_r (se_v2r se_int) sa_nil))))
      intro d2
      refine ss_if G.h (S := D) (fun (s3 : D) => [some (Sl.b a0), some (Sl.d d1), some (Sl.d s3), none, none, none, none, none, none, none, none, none]) ?_ ?_ ?_ ?_
      · exact (st_cmp (ob_eq hu) (se_v2r (se_call D_law_draw hr tk (sa_r (se_v2r (se_d (i := 1))) (sa_r (se_v2r se_int) (sa_r (se_v2r se_int) sa_nil))))) (se_v2r se_int))
      · refine ss_set G.h ?_ (i := 2) (hk := ?_)
        · exact (se_call D_law_draw hr tk (sa_r (se_v2r (se_d (i := 1))) (sa_r (se_v2r se_int) (sa_r (se_v2r se_int) sa_nil))))
        intro d5
        exact ss_nil ⟨d5, (EnLe.s (EnLe.s (EnLe.s (EnLe.n (EnLe.n (EnLe.n (EnLe.n (EnLe.n (EnLe.n (EnLe.n (EnLe.n (EnLe.n EnLe.nil)))))))))))), rfl⟩
      · exact ss_nil ⟨d2, (EnLe.s (EnLe.s (EnLe.s (EnLe.n (EnLe.n (EnLe.n (EnLe.n (EnLe.n (EnLe.n (EnLe.n (EnLe.n (EnLe.n EnLe.nil)))))))))))), rfl⟩
      intro s3
      refine ss_set G.h ?_ (i := 3) (hk := ?_)
      · exact (se_o2v (se_call D_law_row hr tk (sa_r (se_v2r (se_d (i := 1))) (sa_r (se_v2r (se_d (i := 2))) sa_nil))))
      intro d6
      refine ss_set G.h ?_ (i := 4) (hk := ?_)
      · exact (se_o2v (se_call D_law_row hr tk (sa_r (se_v2r (se_call D_law_cell hr tk (sa_r (se_b (i := 0)) (sa_r (se_v2r se_int) sa_nil)))) (sa_r (se_v2r (se_d (i := 2))) sa_nil))))
      intro d7
      refine ss_set G.h ?_ (i := 5) (hk := ?_)
      · exact (se_o2v (se_call D_law_bounds hr tk (sa_r (se_v2r (se_call D_law_cell hr tk (sa_r (se_b (i := 0)) (sa_r (se_v2r se_int) sa_nil)))) (sa_r (se_v2r (se_d (i := 3))) sa_nil))))
      intro d8
      refine ss_setO G.h ?_ (i := 6) (hk := ?_)
      · exact (se_callT cv_list (sa_r (se_v2r (se_d (i := 3))) sa_nil) B.b_list)
      intro d9
      refine ss_set G.h ?_ (i := 7) (hk := ?_)
      · exact (se_o2v (se_make W0_Loads hr (sa_r (se_ow (i := 6)) sa_nil) sk_nil))
      intro d10
      refine ss_set G.h ?_ (i := 8) (hk := ?_)
      · exact (se_o2v (se_make W0_Loads hr (sa_r (se_v2r (se_callT cv_tuple (sa_r (se_v2r (se_d (i := 4))) sa_nil) B.b_tuple)) sa_nil) sk_nil))
      intro d11
      refine ss_if1 G.h ?_ ?_ ?_
      · exact (st_bool (sw_or (st_notD (st_val (se_v2r (se_call D_law_ints hr tk (sa_r (se_ow (i := 6)) (sa_r (se_v2r (se_d (i := 3))) sa_nil)))))) (sw_or (st_notD (st_val (se_v2r (se_call D_law_is_loads hr tk (sa_r (se_v2r (se_d (i := 7))) (sa_r (se_v2r (se_d (i := 3))) sa_nil)))))) (sw_or1 (st_notD (st_val (se_v2r (se_call D_law_is_loads hr tk (sa_r (se_v2r (se_d (i := 8))) (sa_r (se_v2r (se_d (i := 4))) sa_nil))))))))))
      · refine ss_ret G.h ?_
        exact se_bl
      refine ss_app G.h ?_ (i := 6) (hk := ?_)
      · exact se_int
      intro d12
      refine ss_setIx G.h ?_ ?_ (i := 6) (hk := ?_)
      · exact se_int
      · exact (se_v2r se_int)
      intro d13
      refine ss_setLcO G (i := 9) (j := 11) (blkOk_by rfl) ?_ ?_ ?_ ?_
      · exact (si_r1 (sa_r (se_v2r (se_d (i := 2))) sa_nil) B.b_range)
      · exact (fun x15 _ _ _ _ _ => by exact sts_nil)
      · exact (fun x15 _ _ _ _ _ => by exact (se_op ov_add (se_v2r (se_ix (se_v2r (se_d (i := 3))) (se_v2r (se_d (i := 11))))) (se_v2r (se_ix (se_v2r (se_d (i := 4))) (se_v2r (se_d (i := 11)))))))
      intro d14
      refine ss_freeze (i := 9) (h := ?_)
      refine ss_if1 G.h ?_ ?_ ?_
      · exact (st_bool (sw_or (st_notD (st_val (se_v2r (se_call D_law_is_loads hr tk (sa_r (se_v2r (se_opS (ov_own O_Loads___add__ hr ov_add) (se_v2r (se_d (i := 7))) (se_v2r (se_d (i := 8))))) (sa_r (se_v2r (se_d (i := 9))) sa_nil)))))) (sw_or1 (st_notD (st_val (se_v2r (se_call D_law_is_loads hr tk (sa_r (se_v2r (se_opS (ov_own O_Loads___add__ hr ov_add) (se_v2r (se_d (i := 8))) (se_v2r (se_d (i := 7))))) (sa_r (se_v2r (se_d (i := 9))) sa_nil)))))))))
      · refine ss_ret G.h ?_
        exact se_bl
      refine ss_if1 G.h ?_ ?_ ?_
      · exact (st_notD (st_val (se_v2r (se_call D_law_is_loads hr tk (sa_r (se_v2r (se_opS (ov_own O_Loads___sub__ hr ov_sub) (se_v2r (se_d (i := 7))) (se_v2r (se_d (i := 8))))) (sa_r (se_o2r (se_comp (j := 11) G.nd G.calm (blkOk_by rfl) (si_r1 (sa_r (se_v2r (se_d (i := 2))) sa_nil) B.b_range) (fun x16 _ _ _ _ _ => by exact sts_nil) (fun x16 _ _ _ _ _ => by exact (se_op ov_sub (se_v2r (se_ix (se_v2r (se_d (i := 3))) (se_v2r (se_d (i := 11))))) (se_v2r (se_ix (se_v2r (se_d (i := 4))) (se_v2r (se_d (i := 11))))))))) sa_nil))))))
      · refine ss_ret G.h ?_
        exact se_bl
      refine ss_if1 G.h ?_ ?_ ?_
      · exact (st_bool (sw_or (st_notD (st_val (se_v2r (se_call D_law_is_loads hr tk (sa_r (se_v2r (se_opS (ov_own O_Loads___sub__ hr ov_sub) (se_v2r (se_opS (ov_own O_Loads___add__ hr ov_add) (se_v2r (se_d (i := 7))) (se_v2r (se_d (i := 8))))) (se_v2r (se_d (i := 7))))) (sa_r (se_v2r (se_d (i := 4))) sa_nil)))))) (sw_or1 (st_notD (st_val (se_v2r (se_call D_law_is_loads hr tk (sa_r (se_v2r (se_opS (ov_own O_Loads___sub__ hr ov_sub) (se_v2r (se_d (i := 7))) (se_v2r (se_d (i := 7))))) (sa_r (se_o2r (se_comp (j := 11) G.nd G.calm (blkOk_by rfl) (si_r1 (sa_r (se_v2r (se_d (i := 2))) sa_nil) B.b_range) (fun x17 _ _ _ _ _ => by exact sts_nil) (fun x17 _ _ _ _ _ => by exact se_int))) sa_nil)))))))))
      · refine ss_ret G.h ?_
        exact se_bl
      refine ss_set G.h ?_ (i := 10) (hk := ?_)
      · exact (se_cmp (ob_eq hu) (se_v2r (se_callB cv_len (sa_r (se_o2r (se_comp (j := 11) G.nd G.calm (blkOk_by rfl) (si_r1 (sa_r (se_v2r (se_d (i := 2))) sa_nil) B.b_range) (fun x19 _ _ _ _ _ => by exact sts_one (st_cmp ob_gt (se_v2r (se_ix (se_v2r (se_d (i := 3))) (se_v2r (se_d (i := 11))))) (se_v2r (se_ix (se_v2r (se_d (i := 5))) (se_v2r (se_d (i := 11))))))) (fun x19 _ _ _ _ _ => by exact se_int))) sa_nil) B.b_len)) (se_v2r se_int))
      intro d18
      refine ss_if1 G.h ?_ ?_ ?_
      · exact (st_bool (sw_or (st_notD (st_val (se_v2r (se_call D_law_inside hr tk (sa_r (se_v2r (se_d (i := 7))) (sa_r (se_v2r (se_d (i := 5))) (sa_r (se_v2r (se_d (i := 10))) sa_nil))))))) (sw_or1 (st_notD (st_val (se_v2r (se_call D_law_inside hr tk (sa_r (se_v2r (se_d (i := 7))) (sa_r (se_o2r (se_call D_law_over hr tk (sa_r (se_v2r (se_d (i := 3))) (sa_r (se_v2r (se_d (i := 5))) sa_nil)))) (sa_r (se_v2r se_bl) sa_nil))))))))))
      · refine ss_ret G.h ?_
        exact se_bl
      refine ss_if1 G.h ?_ ?_ ?_
      · exact (st_notD (st_val (se_v2r (se_call D_law_inside hr tk (sa_r (se_v2r (se_d (i := 7))) (sa_r (se_v2r (se_d (i := 5))) (sa_r (se_v2r (se_d (i := 10))) sa_nil)))))))
      · refine ss_ret G.h ?_
        exact se_bl
      refine ss_if1 G.h ?_ ?_ ?_
      · exact (st_notD (st_val (se_v2r (se_call D_law_inside hr tk (sa_r (se_v2r (se_opS (ov_own O_Loads___add__ hr ov_add) (se_v2r (se_d (i := 7))) (se_v2r (se_d (i := 8))))) (sa_r (se_o2r (se_comp (j := 11) G.nd G.calm (blkOk_by rfl) (si_r1 (sa_r (se_v2r (se_d (i := 2))) sa_nil) B.b_range) (fun x20 _ _ _ _ _ => by exact sts_nil) (fun x20 _ _ _ _ _ => by exact (se_op ov_add (se_v2r (se_ix (se_v2r (se_d (i := 5))) (se_v2r (se_d (i := 11))))) (se_v2r (se_ix (se_v2r (se_d (i := 4))) (se_v2r (se_d (i := 11))))))))) (sa_r (se_v2r (se_d (i := 10))) sa_nil)))))))
      · refine ss_ret G.h ?_
        exact se_bl
      refine ss_if1 G.h ?_ ?_ ?_
      · exact (st_notD (st_val (se_v2r (se_call D_law_call_rows hr tk (sa_r (se_v2r (se_op ov_add (se_v2r se_int) (se_v2r (se_call D_law_draw hr tk (sa_r (se_v2r (se_call D_law_cell hr tk (sa_r (se_b (i := 0)) (sa_r (se_v2r se_int) sa_nil)))) (sa_r (se_v2r se_int) (sa_r (se_v2r se_int) sa_nil))))))) sa_nil)))))
      · refine ss_ret G.h ?_
        exact se_bl
      refine ss_ret G.h ?_
      exact (se_and (se_v2r (se_call D_law_is_loads hr tk (sa_r (se_v2r (se_d (i := 7))) (sa_r (se_v2r (se_d (i := 3))) sa_nil)))) (se_one (se_call D_law_is_loads hr tk (sa_r (se_v2r (se_d (i := 8))) (sa_r (se_v2r (se_d (i := 4))) sa_nil))))))
end

end Um

namespace Um
open L2 PySem PySem.Spec PyProof.Rows

section
theorem all_mk {l : PySem.W.OpenLaw} {w : World} {K : PySem.W.Frag} {h : Heap} {mg : Str → Option Value} {fa f1 f2 f3 f4 f5 f6 f7 f8 f9 f10 f11 f12 f13 f14 f15 f16 f17 f18 f19 f20 C1 : Addr} (X : K.In h) (G : h.Ns mainGlobals mg) (hfa : mg "law" = some (.ref fa))
    {od1 an1 od2 an2 od3 an3 od4 an4 od5 an5 od6 an6 od7 an7 od8 an8 od9 an9 od10 an10 od11 an11 od12 an12 od13 an13 od14 an14 od15 an15 od16 an16 od17 an17 od18 an18 od19 an19 od20 an20 : Option Addr} {sl1 sl2 sl3 sl4 sl5 sl6 sl7 sl8 sl9 sl10 sl11 sl12 sl13 sl14 sl15 sl16 sl17 sl18 sl19 sl20 : Array (Option Value)} {oc1 dc1 pm1 cd1 ct1 kV1 oc2 dc2 pm2 cd2 ct2 kV2 oc3 dc3 pm3 cd3 ct3 kV3 oc4 dc4 pm4 cd4 ct4 kV4 oc5 dc5 pm5 cd5 ct5 kV5 oc6 dc6 pm6 cd6 ct6 kV6 oc7 dc7 pm7 cd7 ct7 kV7 oc8 dc8 pm8 cd8 ct8 kV8 oc9 dc9 pm9 cd9 ct9 kV9 oc10 dc10 pm10 cd10 ct10 kV10 oc11 dc11 pm11 cd11 ct11 kV11 oc12 dc12 pm12 cd12 ct12 kV12 oc13 dc13 pm13 cd13 ct13 kV13 oc14 dc14 pm14 cd14 ct14 kV14 oc15 dc15 pm15 cd15 ct15 kV15 oc16 dc16 pm16 cd16 ct16 kV16 oc17 dc17 pm17 cd17 ct17 kV17 oc18 dc18 pm18 cd18 ct18 kV18 oc19 dc19 pm19 cd19 ct19 kV19 oc20 dc20 pm20 cd20 ct20 kV20 : Value}
    (xC1 : PySem.W.nsIn K mainGlobals "Loads" = some (some (.ref C1)))
    (pgC1 : PySem.W.plainGet K C1 Str.empty = true)
    (hdC1 : PySem.W.hasDictIn K C1 = true)
    (poC1 : PySem.W.plainOver K C1 = true)
    (saC1 : PySem.W.findIn K (.ref C1) "__setattr__" = some (some (.builtin "object.__setattr__")))
    (mkC1 : PySem.W.makesIn K C1 = true)
    (kcC1 : PySem.W.keepIn K (.ref C1) = true)
    (nfC1_counts : PySem.W.findIn K (.ref C1) "counts" = some none)
    (ifcC1 : PySem.W.findIn K (.ref C1) "__class__" = some (some (.builtin "object.__class__")))
    (ispC1 : PySem.W.specialIn K (.builtin "object.__class__") "__get__" = some (some (.builtin "getset_descriptor.__get__")))
    (itkC1 : PySem.W.takesIn K (.builtin "object.__class__") = some true)
    (imrC1 : PySem.W.mroIn K C1 (.type "object") = some true)
    (a1 : PySem.W.nsIn K mainGlobals "_law_cell" = some (some (.ref f1)))
    (l1 : K.lookup f1 = some ⟨oc1, od1, .func (PySem.W.fnOf "_law_cell" "_law_cell" (defArgs s_law_cell) (defBody s_law_cell) (defScope s_law_cell) .none kV1 dc1 pm1 an1 cd1 ct1), sl1⟩)
    (c1 : PySem.W.codeIn K cd1 "_law_cell" = true)
    (k1 : PySem.W.keepIn K (.ref f1) = true)
    (a2 : PySem.W.nsIn K mainGlobals "_law_draw" = some (some (.ref f2)))
    (l2 : K.lookup f2 = some ⟨oc2, od2, .func (PySem.W.fnOf "_law_draw" "_law_draw" (defArgs s_law_draw) (defBody s_law_draw) (defScope s_law_draw) .none kV2 dc2 pm2 an2 cd2 ct2), sl2⟩)
    (c2 : PySem.W.codeIn K cd2 "_law_draw" = true)
    (k2 : PySem.W.keepIn K (.ref f2) = true)
    (a3 : PySem.W.nsIn K mainGlobals "_law_row" = some (some (.ref f3)))
    (l3 : K.lookup f3 = some ⟨oc3, od3, .func (PySem.W.fnOf "_law_row" "_law_row" (defArgs s_law_row) (defBody s_law_row) (defScope s_law_row) .none kV3 dc3 pm3 an3 cd3 ct3), sl3⟩)
    (c3 : PySem.W.codeIn K cd3 "_law_row" = true)
    (k3 : PySem.W.keepIn K (.ref f3) = true)
    (a4 : PySem.W.nsIn K mainGlobals "_law_bounds" = some (some (.ref f4)))
    (l4 : K.lookup f4 = some ⟨oc4, od4, .func (PySem.W.fnOf "_law_bounds" "_law_bounds" (defArgs s_law_bounds) (defBody s_law_bounds) (defScope s_law_bounds) .none kV4 dc4 pm4 an4 cd4 ct4), sl4⟩)
    (c4 : PySem.W.codeIn K cd4 "_law_bounds" = true)
    (k4 : PySem.W.keepIn K (.ref f4) = true)
    (a5 : PySem.W.findIn K (.ref C1) "__init__" = some (some (.ref f5)))
    (i5 : PySem.W.isFn K (.ref f5) = true)
    (l5 : K.lookup f5 = some ⟨oc5, od5, .func (PySem.W.fnOf "__init__" "Loads.__init__" (defArgs s_Loads___init__) (defBody s_Loads___init__) (defScope s_Loads___init__) .none kV5 dc5 pm5 an5 cd5 ct5), sl5⟩)
    (c5 : PySem.W.codeIn K cd5 "Loads.__init__" = true)
    (k5 : PySem.W.keepIn K (.ref f5) = true)
    (a6 : PySem.W.nsIn K mainGlobals "_law_int" = some (some (.ref f6)))
    (l6 : K.lookup f6 = some ⟨oc6, od6, .func (PySem.W.fnOf "_law_int" "_law_int" (defArgs s_law_int) (defBody s_law_int) (defScope s_law_int) .none kV6 dc6 pm6 an6 cd6 ct6), sl6⟩)
    (c6 : PySem.W.codeIn K cd6 "_law_int" = true)
    (k6 : PySem.W.keepIn K (.ref f6) = true)
    (a7 : PySem.W.nsIn K mainGlobals "_law_ints" = some (some (.ref f7)))
    (l7 : K.lookup f7 = some ⟨oc7, od7, .func (PySem.W.fnOf "_law_ints" "_law_ints" (defArgs s_law_ints) (defBody s_law_ints) (defScope s_law_ints) .none kV7 dc7 pm7 an7 cd7 ct7), sl7⟩)
    (c7 : PySem.W.codeIn K cd7 "_law_ints" = true)
    (k7 : PySem.W.keepIn K (.ref f7) = true)
    (a8 : PySem.W.findIn K (.ref C1) "__len__" = some (some (.ref f8)))
    (i8 : PySem.W.isFn K (.ref f8) = true)
    (sfC1 : PySem.W.selfFirst K C1 = true)
    (n8 : PySem.W.fnIn K f8 = true)
    (l8 : K.lookup f8 = some ⟨oc8, od8, .func (PySem.W.fnOf "__len__" "Loads.__len__" (defArgs s_Loads___len__) (defBody s_Loads___len__) (defScope s_Loads___len__) .none kV8 dc8 pm8 an8 cd8 ct8), sl8⟩)
    (c8 : PySem.W.codeIn K cd8 "Loads.__len__" = true)
    (k8 : PySem.W.keepIn K (.ref f8) = true)
    (a9 : PySem.W.findIn K (.ref C1) "__iter__" = some (some (.ref f9)))
    (i9 : PySem.W.isFn K (.ref f9) = true)
    (n9 : PySem.W.fnIn K f9 = true)
    (l9 : K.lookup f9 = some ⟨oc9, od9, .func (PySem.W.fnOf "__iter__" "Loads.__iter__" (defArgs s_Loads___iter__) (defBody s_Loads___iter__) (defScope s_Loads___iter__) .none kV9 dc9 pm9 an9 cd9 ct9), sl9⟩)
    (c9 : PySem.W.codeIn K cd9 "Loads.__iter__" = true)
    (k9 : PySem.W.keepIn K (.ref f9) = true)
    (a10 : PySem.W.findIn K (.ref C1) "__getitem__" = some (some (.ref f10)))
    (i10 : PySem.W.isFn K (.ref f10) = true)
    (n10 : PySem.W.fnIn K f10 = true)
    (l10 : K.lookup f10 = some ⟨oc10, od10, .func (PySem.W.fnOf "__getitem__" "Loads.__getitem__" (defArgs s_Loads___getitem__) (defBody s_Loads___getitem__) (defScope s_Loads___getitem__) .none kV10 dc10 pm10 an10 cd10 ct10), sl10⟩)
    (c10 : PySem.W.codeIn K cd10 "Loads.__getitem__" = true)
    (k10 : PySem.W.keepIn K (.ref f10) = true)
    (a11 : PySem.W.nsIn K mainGlobals "_law_is_loads" = some (some (.ref f11)))
    (l11 : K.lookup f11 = some ⟨oc11, od11, .func (PySem.W.fnOf "_law_is_loads" "_law_is_loads" (defArgs s_law_is_loads) (defBody s_law_is_loads) (defScope s_law_is_loads) .none kV11 dc11 pm11 an11 cd11 ct11), sl11⟩)
    (c11 : PySem.W.codeIn K cd11 "_law_is_loads" = true)
    (k11 : PySem.W.keepIn K (.ref f11) = true)
    (a12 : PySem.W.findIn K (.ref C1) "__add__" = some (some (.ref f12)))
    (i12 : PySem.W.isFn K (.ref f12) = true)
    (n12 : PySem.W.fnIn K f12 = true)
    (l12 : K.lookup f12 = some ⟨oc12, od12, .func (PySem.W.fnOf "__add__" "Loads.__add__" (defArgs s_Loads___add__) (defBody s_Loads___add__) (defScope s_Loads___add__) .none kV12 dc12 pm12 an12 cd12 ct12), sl12⟩)
    (c12 : PySem.W.codeIn K cd12 "Loads.__add__" = true)
    (k12 : PySem.W.keepIn K (.ref f12) = true)
    (a13 : PySem.W.findIn K (.ref C1) "__sub__" = some (some (.ref f13)))
    (i13 : PySem.W.isFn K (.ref f13) = true)
    (n13 : PySem.W.fnIn K f13 = true)
    (l13 : K.lookup f13 = some ⟨oc13, od13, .func (PySem.W.fnOf "__sub__" "Loads.__sub__" (defArgs s_Loads___sub__) (defBody s_Loads___sub__) (defScope s_Loads___sub__) .none kV13 dc13 pm13 an13 cd13 ct13), sl13⟩)
    (c13 : PySem.W.codeIn K cd13 "Loads.__sub__" = true)
    (k13 : PySem.W.keepIn K (.ref f13) = true)
    (a14 : PySem.W.nsIn K mainGlobals "_law_bool" = some (some (.ref f14)))
    (l14 : K.lookup f14 = some ⟨oc14, od14, .func (PySem.W.fnOf "_law_bool" "_law_bool" (defArgs s_law_bool) (defBody s_law_bool) (defScope s_law_bool) .none kV14 dc14 pm14 an14 cd14 ct14), sl14⟩)
    (c14 : PySem.W.codeIn K cd14 "_law_bool" = true)
    (k14 : PySem.W.keepIn K (.ref f14) = true)
    (a15 : PySem.W.findIn K (.ref C1) "within" = some (some (.ref f15)))
    (i15 : PySem.W.isFn K (.ref f15) = true)
    (l15 : K.lookup f15 = some ⟨oc15, od15, .func (PySem.W.fnOf "within" "Loads.within" (defArgs s_Loads_within) (defBody s_Loads_within) (defScope s_Loads_within) .none kV15 dc15 pm15 an15 cd15 ct15), sl15⟩)
    (c15 : PySem.W.codeIn K cd15 "Loads.within" = true)
    (k15 : PySem.W.keepIn K (.ref f15) = true)
    (a16 : PySem.W.nsIn K mainGlobals "_law_inside" = some (some (.ref f16)))
    (l16 : K.lookup f16 = some ⟨oc16, od16, .func (PySem.W.fnOf "_law_inside" "_law_inside" (defArgs s_law_inside) (defBody s_law_inside) (defScope s_law_inside) .none kV16 dc16 pm16 an16 cd16 ct16), sl16⟩)
    (c16 : PySem.W.codeIn K cd16 "_law_inside" = true)
    (k16 : PySem.W.keepIn K (.ref f16) = true)
    (a17 : PySem.W.nsIn K mainGlobals "_law_over" = some (some (.ref f17)))
    (l17 : K.lookup f17 = some ⟨oc17, od17, .func (PySem.W.fnOf "_law_over" "_law_over" (defArgs s_law_over) (defBody s_law_over) (defScope s_law_over) .none kV17 dc17 pm17 an17 cd17 ct17), sl17⟩)
    (c17 : PySem.W.codeIn K cd17 "_law_over" = true)
    (k17 : PySem.W.keepIn K (.ref f17) = true)
    (a18 : PySem.W.nsIn K mainGlobals "call_loads" = some (some (.ref f18)))
    (l18 : K.lookup f18 = some ⟨oc18, od18, .func (PySem.W.fnOf "call_loads" "call_loads" (defArgs s_call_loads) (defBody s_call_loads) (defScope s_call_loads) .none kV18 dc18 pm18 an18 cd18 ct18), sl18⟩)
    (c18 : PySem.W.codeIn K cd18 "call_loads" = true)
    (k18 : PySem.W.keepIn K (.ref f18) = true)
    (a19 : PySem.W.nsIn K mainGlobals "_law_call_rows" = some (some (.ref f19)))
    (l19 : K.lookup f19 = some ⟨oc19, od19, .func (PySem.W.fnOf "_law_call_rows" "_law_call_rows" (defArgs s_law_call_rows) (defBody s_law_call_rows) (defScope s_law_call_rows) .none kV19 dc19 pm19 an19 cd19 ct19), sl19⟩)
    (c19 : PySem.W.codeIn K cd19 "_law_call_rows" = true)
    (k19 : PySem.W.keepIn K (.ref f19) = true)
    (a20 : PySem.W.nsIn K mainGlobals "law" = some (some (.ref f20)))
    (l20 : K.lookup f20 = some ⟨oc20, od20, .func (PySem.W.fnOf "law" "law" (defArgs s_law) (defBody s_law) (defScope s_law) .none kV20 dc20 pm20 an20 cd20 ct20), sl20⟩)
    (c20 : PySem.W.codeIn K cd20 "law" = true)
    (k20 : PySem.W.keepIn K (.ref f20) = true)
    (z0 : PySem.W.nsIn K mainGlobals "bool" = some none)
    (z1 : PySem.W.nsIn K mainGlobals "int" = some none)
    (z2 : PySem.W.nsIn K mainGlobals "isinstance" = some none)
    (z3 : PySem.W.nsIn K mainGlobals "iter" = some none)
    (z4 : PySem.W.nsIn K mainGlobals "len" = some none)
    (z5 : PySem.W.nsIn K mainGlobals "list" = some none)
    (z6 : PySem.W.nsIn K mainGlobals "max" = some none)
    (z7 : PySem.W.nsIn K mainGlobals "range" = some none)
    (z8 : PySem.W.nsIn K mainGlobals "tuple" = some none)
    : ∃ fd : FuncData, (∀ (s : Shared) (v : Value), BindsTo s fd ⟨[v], []⟩ [("script", v)]) ∧ ∀ base : Heap, K.In base → base.Ns mainGlobals mg → FnOk l.prog w K mg base (L2N.CX l.prog w) 7 fa fd ["script"] (spLaw K m_law) := by
  have e := hfa.symm.trans (PySem.W.mg_of X G a20)
  cases e
  let ca : Ca := ⟨(fun s => if s == tmK then 0 else ((fun _ => C1) : Str → Addr) s), fun _ => none, []⟩
  have tm : ca tmK = 0 := rfl
  have tm2 : ca tmK ≠ 2 := by rw [tm]; decide
  have F1 := fun_mk (st := s_law_cell) l1 c1 k1
  have b1 := F1.binds (ps := ["script", "k"]) fun _ _ _ _ _ _ us hl => match us, hl with | [_, _], _ => rfl
  have F2 := fun_mk (st := s_law_draw) l2 c2 k2
  have b2 := F2.binds (ps := ["cell", "k", "size"]) fun _ _ _ _ _ _ us hl => match us, hl with | [_, _, _], _ => rfl
  have F3 := fun_mk (st := s_law_row) l3 c3 k3
  have b3 := F3.binds (ps := ["cell", "many"]) fun _ _ _ _ _ _ us hl => match us, hl with | [_, _], _ => rfl
  have F4 := fun_mk (st := s_law_bounds) l4 c4 k4
  have b4 := F4.binds (ps := ["cell", "row"]) fun _ _ _ _ _ _ us hl => match us, hl with | [_, _], _ => rfl
  have F5 : FunD K "__init__" "Loads.__init__" (defArgs s_Loads___init__) (defBody s_Loads___init__) (defScope s_Loads___init__) [] [] f5 _ := ⟨⟨_, _, _, _, _, _, _, _, _, _, rfl, l5, c5, .inl ⟨rfl, rfl⟩, .inl rfl⟩, k5⟩
  have b5 := F5.bindsN (ps := ["self", "counts"]) fun _ _ _ _ _ _ us hl => match us, hl with | [_, _], _ => rfl
  have F6 := fun_mk (st := s_law_int) l6 c6 k6
  have b6 := F6.binds (ps := ["value"]) fun _ _ _ _ _ _ us hl => match us, hl with | [_], _ => rfl
  have F7 := fun_mk (st := s_law_ints) l7 c7 k7
  have b7 := F7.binds (ps := ["value", "due"]) fun _ _ _ _ _ _ us hl => match us, hl with | [_, _], _ => rfl
  have F8 : FunD K "__len__" "Loads.__len__" (defArgs s_Loads___len__) (defBody s_Loads___len__) (defScope s_Loads___len__) [] [] f8 _ := ⟨⟨_, _, _, _, _, _, _, _, _, _, rfl, l8, c8, .inl ⟨rfl, rfl⟩, .inl rfl⟩, k8⟩
  have b8 := F8.bindsN (ps := ["self"]) fun _ _ _ _ _ _ us hl => match us, hl with | [_], _ => rfl
  have F9 : FunD K "__iter__" "Loads.__iter__" (defArgs s_Loads___iter__) (defBody s_Loads___iter__) (defScope s_Loads___iter__) [] [] f9 _ := ⟨⟨_, _, _, _, _, _, _, _, _, _, rfl, l9, c9, .inl ⟨rfl, rfl⟩, .inl rfl⟩, k9⟩
  have b9 := F9.bindsN (ps := ["self"]) fun _ _ _ _ _ _ us hl => match us, hl with | [_], _ => rfl
  have F10 := fun_mk (st := s_Loads___getitem__) l10 c10 k10
  have b10 := F10.binds (ps := ["self", "at"]) fun _ _ _ _ _ _ us hl => match us, hl with | [_, _], _ => rfl
  have F11 := fun_mk (st := s_law_is_loads) l11 c11 k11
  have b11 := F11.binds (ps := ["value", "due"]) fun _ _ _ _ _ _ us hl => match us, hl with | [_, _], _ => rfl
  have F12 := fun_mk (st := s_Loads___add__) l12 c12 k12
  have b12 := F12.binds (ps := ["self", "other"]) fun _ _ _ _ _ _ us hl => match us, hl with | [_, _], _ => rfl
  have F13 := fun_mk (st := s_Loads___sub__) l13 c13 k13
  have b13 := F13.binds (ps := ["self", "other"]) fun _ _ _ _ _ _ us hl => match us, hl with | [_, _], _ => rfl
  have F14 := fun_mk (st := s_law_bool) l14 c14 k14
  have b14 := F14.binds (ps := ["value", "due"]) fun _ _ _ _ _ _ us hl => match us, hl with | [_, _], _ => rfl
  have F15 := fun_mk (st := s_Loads_within) l15 c15 k15
  have b15 := F15.binds (ps := ["self", "limits"]) fun _ _ _ _ _ _ us hl => match us, hl with | [_, _], _ => rfl
  have F16 := fun_mk (st := s_law_inside) l16 c16 k16
  have b16 := F16.binds (ps := ["value", "bounds", "due"]) fun _ _ _ _ _ _ us hl => match us, hl with | [_, _, _], _ => rfl
  have F17 := fun_mk (st := s_law_over) l17 c17 k17
  have b17 := F17.binds (ps := ["row", "bounds"]) fun _ _ _ _ _ _ us hl => match us, hl with | [_, _], _ => rfl
  have F18 := fun_mk (st := s_call_loads) l18 c18 k18
  have b18 := F18.binds (ps := ["cells", "where"]) fun _ _ _ _ _ _ us hl => match us, hl with | [_, _], _ => rfl
  have F19 := fun_mk (st := s_law_call_rows) l19 c19 k19
  have b19 := F19.binds (ps := ["cells"]) fun _ _ _ _ _ _ us hl => match us, hl with | [_], _ => rfl
  have F20 := fun_mk (st := s_law) l20 c20 k20
  refine ⟨PySem.W.fnOf "law" "law" (defArgs s_law) (defBody s_law) (defScope s_law) .none kV20 dc20 pm20 an20 cd20 ct20, fun s v => .of_eq rfl, fun base _ _ => ?_⟩
  have B : Bl K ca mg := ⟨PySem.W.mg_none_of X G z0, PySem.W.mg_none_of X G z1, PySem.W.mg_none_of X G z2, PySem.W.mg_none_of X G z3, PySem.W.mg_none_of X G z4, PySem.W.mg_none_of X G z5, PySem.W.mg_none_of X G z6, PySem.W.mg_none_of X G z7, PySem.W.mg_none_of X G z8, tm, ⟨pgC1, hdC1, poC1, saC1⟩, nfC1_counts, PySem.W.mg_of X G xC1, fun c hc => by simp only [List.mem_cons, List.not_mem_nil, or_false] at hc; rcases hc with rfl; exact ⟨⟨pgC1, hdC1, poC1, saC1⟩, ifcC1, ispC1, itkC1, imrC1⟩⟩
  have D1 := ok_law_cell (P := l.prog) (w := w) (base := base) (ca := ca) B  F1 (PySem.W.mg_of X G a1) b1
  have D2 := ok_law_draw (P := l.prog) (w := w) (base := base) (ca := ca) B  F2 (PySem.W.mg_of X G a2) b2
  have D3 := ok_law_row (P := l.prog) (w := w) (base := base) (ca := ca) B D2 F3 (PySem.W.mg_of X G a3) b3
  have D4 := ok_law_bounds (P := l.prog) (w := w) (base := base) (ca := ca) B D2 D3 F4 (PySem.W.mg_of X G a4) b4
  have D5 := ok_Loads___init__ (P := l.prog) (w := w) (mg := mg) (base := base) (ca := ca) B  F5
  have D6 := ok_law_int (P := l.prog) (w := w) (base := base) (ca := ca) B  F6 (PySem.W.mg_of X G a6) b6
  have D7 := ok_law_ints (P := l.prog) (w := w) (base := base) (ca := ca) B D6 F7 (PySem.W.mg_of X G a7) b7
  have Lk8 := len_okT (P := l.prog) (w := w) (mg := mg) (base := base) (C := C1) (g := "counts") F8 sc_Loads___len__ ⟨pgC1, hdC1, poC1, saC1⟩ nfC1_counts (PySem.W.mg_none_of X G z4) (fun _ _ _ _ _ _ => rfl) (fun _ _ _ _ _ _ => by first | exact .inl rfl | exact .inr (.inl rfl) | exact .inr (.inr rfl)) (fun _ _ _ _ _ _ => rfl)
  have Lk9 := iter_okT (P := l.prog) (w := w) (mg := mg) (base := base) (C := C1) (g := "counts") F9 sc_Loads___iter__ ⟨pgC1, hdC1, poC1, saC1⟩ nfC1_counts (PySem.W.mg_none_of X G z3) (fun _ _ _ _ _ _ => rfl) (fun _ _ _ _ _ _ => by first | exact .inl rfl | exact .inr (.inl rfl) | exact .inr (.inr rfl)) (fun _ _ _ _ _ _ => rfl)
  have D10 := ok_Loads___getitem__ (P := l.prog) (w := w) (mg := mg) (base := base) (ca := ca) B  F10
  have LT_Loads : LenT l.prog w K mg base (ca "Loads") "counts" := ⟨⟨f8, _, Lk8, b8, a8, i8⟩, ⟨f9, _, Lk9, b9, a9, i9⟩⟩
  have O_Loads___getitem__ : ODef l.prog w K mg base ca "Loads" "__getitem__" 1 [.r, .r] (.v) (fn2 m_Loads___getitem__) := ⟨f10, _, _, D10, b10, a10, i10, sfC1, n10⟩
  have D11 := ok_law_is_loads (P := l.prog) (w := w) (base := base) (ca := ca) B LT_Loads D7 O_Loads___getitem__ F11 (PySem.W.mg_of X G a11) b11
  have W0_Loads : IWay l.prog w K mg base ca "Loads" 1 [.r] (fn1 m_Loads___init__) 1 [] [.r] [] (fun us zs => us ++ zs) := by
    exact ⟨f5, _, _, _, _, fun vs _ => vs, ⟨mkC1, a5, i5, kcC1⟩, D5, PySem.W.mg_of X G xC1, kbn_of_binds b5, fun _ _ _ => rfl, ⟨fun _ _ _ _ _ _ r1 r2 => by cases r2; rw [List.append_nil]; exact r1⟩⟩
  have D12 := ok_Loads___add__ (P := l.prog) (w := w) (mg := mg) (base := base) (ca := ca) B W0_Loads F12
  have D13 := ok_Loads___sub__ (P := l.prog) (w := w) (mg := mg) (base := base) (ca := ca) B W0_Loads F13
  have D14 := ok_law_bool (P := l.prog) (w := w) (base := base) (ca := ca) B  F14 (PySem.W.mg_of X G a14) b14
  have D15 := ok_Loads_within (P := l.prog) (w := w) (mg := mg) (base := base) (ca := ca) B  F15
  have M0_Loads_within : MWay l.prog w K mg base ca "Loads" "within" 1 [.r, .r] (.v) (fn2 m_Loads_within) 2 [] [.r, .r] [] (fun us (_ : List D) => us) := by
    exact ⟨f15, _, _, _, _, D15, B.cl_Loads, ⟨a15, i15, k15⟩, kbn_of_binds b15, arr_id⟩
  have D16 := ok_law_inside (P := l.prog) (w := w) (base := base) (ca := ca) B M0_Loads_within D14 D7 F16 (PySem.W.mg_of X G a16) b16
  have D17 := ok_law_over (P := l.prog) (w := w) (base := base) (ca := ca) B  F17 (PySem.W.mg_of X G a17) b17
  have D18 := ok_call_loads (P := l.prog) (w := w) (base := base) (ca := ca) B W0_Loads F18 (PySem.W.mg_of X G a18) b18
  have D19 := ok_law_call_rows (P := l.prog) (w := w) (base := base) (ca := ca) B D18 D11 F19 (PySem.W.mg_of X G a19) b19
  have O_Loads___add__ : ODef l.prog w K mg base ca "Loads" "__add__" 3 [.r, .r] (.v) (fn2 m_Loads___add__) := ⟨f12, _, _, D12, b12, a12, i12, sfC1, n12⟩
  have O_Loads___sub__ : ODef l.prog w K mg base ca "Loads" "__sub__" 3 [.r, .r] (.v) (fn2 m_Loads___sub__) := ⟨f13, _, _, D13, b13, a13, i13, sfC1, n13⟩
  exact (ok_law (P := l.prog) (w := w) (base := base) (ca := ca) B D1 D2 D3 D4 W0_Loads D11 D7 O_Loads___add__ O_Loads___sub__ D17 D16 D19 F20).imp fun vs H Q E hs => spLaw_of rfl hs
end

end Um

namespace Um
open L2 PySem PySem.Spec PyProof.Rows
local macro_rules | `(tactic| walk_at "r") => `(tactic| try simp only [R.bind_ok, R.op2_ok, R.map_ok, rcons_ok, fn1_s, fn2_s, fn3_s, fn4_s, fn5_s, fn6_s, dSub_s, dAdd_s, dNeg_s, dLt_s, dGt_s, dLe_s, dGe_s, dEq_s, dNe_s, dTruth_bl, dTruth_int, dNot_s, dInt_s, dLen_l, dLen_sc, dLen_t, dList_l, dList_t, dTuple_l, dTuple_t, dItems_l, dItems_t, dMax2_s, dMin2_s, dPart_s, dLst_0, dLst_1, dTup_0, dTup_1, dTup_2, dTup_3, plain_int, lstOf_lst, noEr_ok, bNot_def, R.and_true, R.and_false, R.or_true, R.or_false, R.andV_true, R.andV_false, R.orV_true, R.orV_false, R.bool_ok, R.chain, decide_true, decide_false, if_true, if_false, Bool.false_eq_true, Bool.not_true, Bool.not_false, il_len, List.length_map, dEq_it, dNe_it, dIn_il, dIn_it, dNotIn_il, dNotIn_it, dSum_il, dSum_it, dSorted_il, dSorted_it, dSorted_rows, dSorted_rowsT, tup1, tup0, joinC_s, house_is, house_lim, house_ch, house_mw])
local macro_rules | `(tactic| walk_at "rs") => `(tactic| simp only [R.bind_ok, R.op2_ok, R.map_ok, rcons_ok, fn1_s, fn2_s, fn3_s, fn4_s, fn5_s, fn6_s, dSub_s, dAdd_s, dNeg_s, dLt_s, dGt_s, dLe_s, dGe_s, dEq_s, dNe_s, dTruth_bl, dTruth_int, dNot_s, dInt_s, dLen_l, dLen_sc, dLen_t, dList_l, dList_t, dTuple_l, dTuple_t, dItems_l, dItems_t, dMax2_s, dMin2_s, dPart_s, dLst_0, dLst_1, dTup_0, dTup_1, dTup_2, dTup_3, plain_int, lstOf_lst, noEr_ok, bNot_def, R.and_true, R.and_false, R.or_true, R.or_false, R.andV_true, R.andV_false, R.orV_true, R.orV_false, R.bool_ok, R.chain, decide_true, decide_false, if_true, if_false, Bool.false_eq_true, Bool.not_true, Bool.not_false, il_len, List.length_map, dEq_it, dNe_it, dIn_il, dIn_it, dNotIn_il, dNotIn_it, dSum_il, dSum_it, dSorted_il, dSorted_it, dSorted_rows, dSorted_rowsT, tup1, tup0, joinC_s, house_is, house_lim, house_ch, house_mw, *])
/-! ### the law's own draws -/
theorem cell_ok (ns : List Int) (k : Nat) : ∃ c : Int, m_law_cell (.scr (il ns)) (.int k) = .ok (.int c) := by
  unfold m_law_cell
  simp only [rcons_ok, R.bind_ok, fn1_s, dLen_sc, R.op2_ok, dLt_s, il_len]
  by_cases h : (k : Int) < ns.length
  · have hk : k < ns.length := by omega
    refine ⟨ns[k], ?_⟩
    simp only [h, decide_true, if_true]
    rw [dIx_getS (d := .int ns[k]) (by omega) (by rw [Int.toNat_natCast, List.getElem?_map, List.getElem?_eq_getElem hk]; rfl)]
    rfl
  · exact ⟨0, by simp only [h, decide_false]; rfl⟩

theorem draw_ok (c k size : Int) (hk0 : 0 ≤ k) (hk : k < 1000000) (hs : 0 < size) : ∃ r : Int, m_law_draw (.int c) (.int k) (.int size) = .ok (.int r) ∧ 0 ≤ r ∧ r < size := by
  have hm : ∀ x : Int, 0 ≤ x % size ∧ x % size < size := fun x => ⟨Int.emod_nonneg x (by omega), Int.emod_lt_of_pos x hs⟩
  unfold m_law_draw
  refine joinC_ex ?_ fun K hK => ?_
  · skip
    simp only [R.op2_ok, R.bind_ok, rcons_ok, fn1_s]
    rw [dMul_l (by omega) (by omega)]
    simp only [R.op2_ok, dAdd_s, R.bind_ok, rcons_ok, fn1_s, dInt_s]
    rw [dMod_s (by omega)]
    simp only [R.op2_ok, dAdd_s, R.bind_ok, rcons_ok, fn1_s, dInt_s]
    generalize h1 : (c + 7919 * k + 13) % 2147483647 = x1
    have b1 : 0 ≤ x1 ∧ x1 < 2147483647 := by omega
    rw [dMul_l (by omega) (by omega)]
    simp only [R.op2_ok, dAdd_s, R.bind_ok, rcons_ok, fn1_s, dInt_s]
    rw [dMod_s (by omega)]
    simp only [R.op2_ok, dAdd_s, R.bind_ok, rcons_ok, fn1_s, dInt_s]
    generalize h2 : (x1 * (x1 + 48271)) % 2147483629 = x2
    have b2 : 0 ≤ x2 ∧ x2 < 2147483629 := by omega
    rw [dMul_l (by omega) (by omega), dMul_l (by omega) (by omega)]
    simp only [R.op2_ok, dAdd_s, R.bind_ok, rcons_ok, fn1_s, dInt_s]
    rw [dMod_s (by omega)]
    simp only [R.op2_ok, dAdd_s, R.bind_ok, rcons_ok, fn1_s, dInt_s]
    rw [dFdiv_s (by omega) (by omega)]
    simp only [R.op2_ok, dAdd_s, R.bind_ok, rcons_ok, fn1_s, dInt_s]
    rw [dMod_s hs]
    exact ⟨_, rfl, hm _⟩
  · skip
    simp only [R.op2_ok, R.bind_ok, rcons_ok, fn1_s]
    rw [dPow_s (by omega) (by omega) (by decide)]
    simp only [R.op2_ok, dGe_s, R.bind_ok, dInt_s]
    by_cases hb : (10 : Int) ^ (18 : Int).toNat ≤ c
    · simp only [hb, decide_true, if_true]
      rw [dRng1_s hk0 (by omega)]
      simp only [R.bind_ok]
      refine forC_P (fun (x : R D) => ∃ r : Int, x = R.ok (D.int r) ∧ 0 ≤ r ∧ r < size) (fun _ (s : D) => ∃ q : Int, s = D.int q) ⟨c, rfl⟩ (fun i d s _ ⟨q, hq⟩ => ?_) fun s ⟨q, hq⟩ => ?_
      · subst hq
        exact ⟨D.int (q / 64), ⟨_, rfl⟩, fun nx bk => by rw [dFdiv_s (by omega) (by omega)]; rfl⟩
      · subst hq
        simp only [dGt_s, R.bind_ok, dInt_s, R.op2_ok]
        by_cases hq : (0 : Int) < q
        · simp only [hq, decide_true, if_true]
          rw [dMod_s (by omega)]
          simp only [R.op2_ok]
          rw [dMod_s hs]
          exact ⟨_, rfl, hm _⟩
        · simp only [hq, decide_false]
          exact hK
    · simp only [hb, decide_false]
      exact hK

theorem e01 (i : Nat) : (0 : Int) + (i : Int) * 1 = (i : Int) := by omega

theorem compC_intsP {lo c : Int} {n : Nat} {e : D → R D} {p : Int → Prop} (h : ∀ i : Nat, i < n → ∃ v : Int, e (.int (lo + (i : Int) * c)) = .ok (.int v) ∧ p v) : ∃ bs : List Int, compC (rngD lo c n) yes e = .ok (il bs) ∧ bs.length = n ∧ ∀ b ∈ bs, p b := by
  induction n generalizing lo with
  | zero => exact ⟨[], rfl, rfl, by simp⟩
  | succ n ih =>
    obtain ⟨v, hv, pv⟩ := h 0 (by omega)
    obtain ⟨bs, h1, h2, h3⟩ := ih (lo := lo + c) fun i hi => by
      obtain ⟨u, hu, pu⟩ := h (i + 1) (by omega)
      refine ⟨u, ?_, pu⟩
      rw [← hu]
      congr 2
      have : ((i + 1 : Nat) : Int) * c = (i : Int) * c + c := by rw [Int.natCast_add, Int.add_mul]; simp
      rw [this]; omega
    refine ⟨v :: bs, ?_, by rw [List.length_cons, h2], fun b hb => ?_⟩
    · rw [rngD_succ]
      have hv' : e (.int lo) = .ok (.int v) := by rw [← hv]; simp
      simp only [compC, yes, noEr_ok, R.bind_ok, if_true, hv', h1]
      rfl
    · rcases List.mem_cons.mp hb with e | hb
      · subst e; exact pv
      · exact h3 b hb

theorem gdx {ns : List Int} {i : Int} (h0 : 0 ≤ i) (h : i < ns.length) : ∃ v : Int, dIx (.lst (il ns)) (.int i) = .ok (.int v) ∧ v ∈ ns := by
  have hl : i.toNat < ns.length := by omega
  refine ⟨ns[i.toNat], dIx_get h0 ?_, List.getElem_mem hl⟩
  rw [List.getElem?_map, List.getElem?_eq_getElem hl]; rfl

theorem outer_c {bs lot : List Int} {c : D → R Bool} {e : D → R D} (hc : ∀ i : Int, 0 ≤ i → i < bs.length → c (.int i) = .ok (!decide (i ∈ lot))) (he : ∀ i : Int, 0 ≤ i → i < bs.length → e (.int i) = .ok (.int (gI bs i))) :
    compC (rngD 0 1 bs.length) c e = .ok (il (outerL bs lot)) := by
  rw [rng_il]
  exact compC_t D.int D.int (fun c => !decide (c ∈ lot)) (gI bs) (fun i hi => hc i (mem_rangeI.mp hi).1 (mem_rangeI.mp hi).2) fun i hi _ => he i (mem_rangeI.mp hi).1 (mem_rangeI.mp hi).2
theorem outerL_len (bs lot : List Int) : (outerL bs lot).length ≤ bs.length := by
  unfold outerL
  rw [List.length_map]
  exact Nat.le_trans (List.length_filter_le ..) (by rw [rangeI_len]; exact Nat.le_refl _)
theorem rng_n {n : Nat} (h : n ≤ 1000000) : dRng1 [.int (n : Int)] = .ok (rngD 0 1 n) := by
  have := dRng1_s (n := (n : Int)) (by omega) (by omega)
  rwa [Int.toNat_natCast] at this

def ll (l : List Int) : D := .lst (il l)

theorem four_t (a b c d : D) : dTup [a, b, c, d] = .ok (.tup [a, b, c, d]) := dTup_s (by simp)
theorem cut_to {xs : List D} {n : Int} (h : 0 ≤ n) : cutD xs none (some n) = xs.take n.toNat := by
  unfold cutD
  have e : HT.sIx xs.length xs.length (some n) = min n.toNat xs.length := by
    show (if n < 0 then (n + (xs.length : Int)).toNat else min n.toNat xs.length) = _
    rw [if_neg (by omega)]
  rw [HT.sIx_none, e]
  show (xs.drop 0).take (min n.toNat xs.length - 0) = _
  rw [List.drop_zero, Nat.sub_zero]
  by_cases c : n.toNat ≤ xs.length
  · rw [Nat.min_eq_left c]
  · rw [Nat.min_eq_right (by omega), List.take_length, List.take_of_length_le (by omega)]

theorem rows_app (a b : List (List Int)) : rows (a ++ b) = rows a ++ rows b := List.map_append ..
theorem free_rows (n : Nat) : (rngD 0 1 n).map (fun _ => tl []) = rows (List.replicate n []) := by
  rw [List.map_const', rngD_length]; exact (List.map_replicate (f := tl) (a := ([] : List Int)) (n := n)).symm
theorem rng_k {n : Int} (h0 : 0 ≤ n) (h : n ≤ 1000000) : dRng1 [.int n] = .ok (rngD 0 1 n.toNat) := dRng1_s h0 (by omega)

theorem int_ok (i : Int) : m_law_int (.int i) = .ok (.bl true) := (Eq.refl _).trans (Eq.refl _)

theorem ints_lv (a b : List Int) (hl : b.length ≤ 100000) : m_law_ints (.lst (il a)) (.lst (il b)) = .ok (.bl (decide (a = b))) := by
  unfold m_law_ints
  have i1 : dIsI [Str.ofString "Loads"] (.lst (il a)) (.ty "list") = .ok (.bl true) := rfl
  have i2 : dIsI [Str.ofString "Loads"] (.lst (il a)) (.ty "tuple") = .ok (.bl false) := rfl
  have i3 : dIsI [Str.ofString "Loads"] (.lst (il b)) (.ty "list") = .ok (.bl true) := rfl
  have i4 : dIsI [Str.ofString "Loads"] (.lst (il b)) (.ty "tuple") = .ok (.bl false) := rfl
  walk_at "r"
  simp only [i1, i2, i3, i4, R.op2_ok, bl_ne, beq_self_eq_true, Bool.not_true, R.or_false, R.bind_ok, Bool.false_eq_true, if_false]
  by_cases h : a.length = b.length
  · have h' : (a.length : Int) = (b.length : Int) := by omega
    rw [rng_n (by omega)]
    simp only [h', decide_true, Bool.not_true, Bool.false_eq_true, if_false, R.bind_ok]
    rw [rng_il, forC_find D.int (fun i => !decide (gR a i = gR b i)) (r := .ok (.bl false)) fun i hi nx bk => by
      obtain ⟨i0, i1⟩ := mem_rangeI.mp hi
      have e1 := gI_ix (bs := a) i0 (by omega)
      have e2 := gI_ix (bs := b) i0 i1
      simp only [e1, e2, R.bind_ok, R.op2_ok, rcons_ok, fn1_s, int_ok, dTruth_bl, bNot_def, Bool.not_true, R.or_false, dNe_s]
      rfl, any_ne h]
    cases decide (a = b) <;> rfl
  · have h' : ¬ (a.length : Int) = (b.length : Int) := by omega
    have hne : a ≠ b := fun e => h (by rw [e])
    simp only [h', hne, decide_false, Bool.not_false, if_true]
theorem ints_tv (a b : List Int) (hl : b.length ≤ 100000) : m_law_ints (tl a) (tl b) = .ok (.bl (decide (a = b))) := by
  unfold m_law_ints
  have i1 : dIsI [Str.ofString "Loads"] (tl a) (.ty "list") = .ok (.bl false) := rfl
  have i2 : dIsI [Str.ofString "Loads"] (tl a) (.ty "tuple") = .ok (.bl true) := rfl
  have i3 : dIsI [Str.ofString "Loads"] (tl b) (.ty "list") = .ok (.bl false) := rfl
  have i4 : dIsI [Str.ofString "Loads"] (tl b) (.ty "tuple") = .ok (.bl true) := rfl
  walk_at "r"
  simp only [i1, i2, i3, i4, R.op2_ok, bl_ne, beq_self_eq_true, Bool.not_true, R.or_false, R.bind_ok, Bool.false_eq_true, if_false]
  by_cases h : a.length = b.length
  · have h' : (a.length : Int) = (b.length : Int) := by omega
    rw [rng_n (by omega)]
    simp only [h', decide_true, Bool.not_true, Bool.false_eq_true, if_false, R.bind_ok]
    rw [rng_il, forC_find D.int (fun i => !decide (gR a i = gR b i)) (r := .ok (.bl false)) fun i hi nx bk => by
      obtain ⟨i0, i1⟩ := mem_rangeI.mp hi
      have e1 := gI_ixT (bs := a) i0 (by omega)
      have e2 := gI_ixT (bs := b) i0 i1
      simp only [e1, e2, R.bind_ok, R.op2_ok, rcons_ok, fn1_s, int_ok, dTruth_bl, bNot_def, Bool.not_true, R.or_false, dNe_s]
      rfl, any_ne h]
    cases decide (a = b) <;> rfl
  · have h' : ¬ (a.length : Int) = (b.length : Int) := by omega
    have hne : a ≠ b := fun e => h (by rw [e])
    simp only [h', hne, decide_false, Bool.not_false, if_true]

def worldD (bs : List Int) (mw width : Int) (st : List (List Int)) : D := .tup [.lst (il bs), .int mw, .int width, .lst (rows st)]
theorem world_0 (bs : List Int) (mw width : Int) (st : List (List Int)) : dIx (worldD bs mw width st) (.int 0) = .ok (.lst (il bs)) := (Eq.refl _).trans (Eq.refl _)
theorem world_1 (bs : List Int) (mw width : Int) (st : List (List Int)) : dIx (worldD bs mw width st) (.int 1) = .ok (.int mw) := (Eq.refl _).trans (Eq.refl _)
theorem world_2 (bs : List Int) (mw width : Int) (st : List (List Int)) : dIx (worldD bs mw width st) (.int 2) = .ok (.int width) := (Eq.refl _).trans (Eq.refl _)
theorem world_3 (bs : List Int) (mw width : Int) (st : List (List Int)) : dIx (worldD bs mw width st) (.int 3) = .ok (.lst (rows st)) := (Eq.refl _).trans (Eq.refl _)
structure WorldOk (bs : List Int) (mw width : Int) (st : List (List Int)) : Prop where
  ob : okB bs
  mwb : 0 ≤ mw ∧ mw ≤ 20
  wdb : 0 ≤ width ∧ width ≤ 24
  len : st.length = width.toNat
  val : Val bs mw st

def loadsD (l : List Int) : D := .ins "Loads" ["counts"] [tl l]
theorem loads_cn (l : List Int) : dFld "Loads" "counts" (loadsD l) = .ok (tl l) := (Eq.refl _).trans (Eq.refl _)
theorem loads_isM (l : List Int) : isM "Loads" "within" (loadsD l) = .ok (loadsD l) := (Eq.refl _).trans (Eq.refl _)
theorem loads_own (f g : D → D → R D) (a b : List Int) : dOwn2 "Loads" f g (loadsD a) (loadsD b) = noEr (f (loadsD a) (loadsD b)) := (Eq.refl _).trans (Eq.refl _)
theorem loads_ix (f : D → D → R D) (a : List Int) (i : D) : dOwnIx "Loads" f (loadsD a) i = noEr (f (loadsD a) i) := (Eq.refl _).trans (Eq.refl _)

theorem loads_new (l : List Int) : m_Loads___init__ (.lst (il l)) = .ok (loadsD l) := by
  unfold m_Loads___init__
  simp only [rcons_ok, R.bind_ok, fn1_s, dTuple_l]
  rfl

theorem loads_add (a b : List Int) (h : b.length = a.length) (hl : a.length ≤ 900) : m_Loads___add__ (loadsD a) (loadsD b) = .ok (loadsD ((rangeI a.length).map fun i => gI a i + gI b i)) := by
  unfold m_Loads___add__
  simp only [R.bind_ok, loads_cn, rcons_ok, fn1_s, dLen_t, il_len]
  rw [rng_n (by omega)]
  simp only [R.bind_ok]
  rw [rng_il, compC_ty D.int D.int (fun i => gI a i + gI b i) fun i hi => by
    obtain ⟨h0, h1⟩ := mem_rangeI.mp hi
    simp only [R.op2_ok, gI_ixT h0 h1, gI_ixT h0 (show i < (b.length : Int) by omega), dAdd_s]]
  simp only [R.bind_ok]
  rw [finC_s (by rw [List.length_map, List.length_map, rangeI_len]; omega)]
  have happ : ([D.lst (((rangeI a.length).map fun i => gI a i + gI b i).map D.int)] ++ []) = [D.lst (il ((rangeI a.length).map fun i => gI a i + gI b i))] := rfl
  simp only [R.bind_ok, rcons_ok, happ, fn1_s, loads_new, noEr_ok, exOk_ok]

theorem loads_get (a : List Int) (i : Int) (h0 : 0 ≤ i) (h1 : i < a.length) : m_Loads___getitem__ (loadsD a) (.int i) = .ok (.int (gI a i)) := by
  unfold m_Loads___getitem__
  simp only [R.bind_ok, loads_cn, R.op2_ok, gI_ixT h0 h1]

theorem loads_within (a b : List Int) (h : b.length = a.length) (hl : a.length ≤ 900) : m_Loads_within (loadsD a) (tl b) = .ok (.bl (!(rangeI a.length).any fun i => decide (gI b i < gI a i))) := by
  unfold m_Loads_within
  simp only [R.bind_ok, loads_cn, rcons_ok, fn1_s, dLen_t, il_len]
  rw [rng_n (by omega)]
  simp only [R.bind_ok]
  rw [rng_il, forC_find D.int (fun i => decide (gI b i < gI a i)) (r := .ok (.bl false)) fun i hi nx bk => by
    obtain ⟨h0, h1⟩ := mem_rangeI.mp hi
    simp only [R.op2_ok, gI_ixT h0 h1, gI_ixT h0 (show i < (b.length : Int) by omega), dGt_s, R.bind_ok]]
  cases (rangeI a.length).any fun i => decide (gI b i < gI a i) <;> rfl

noncomputable def drF (c k size : Int) : Int := open Classical in if h : ∃ r : Int, m_law_draw (.int c) (.int k) (.int size) = .ok (.int r) then Classical.choose h else 0
theorem drF_ok (c k size : Int) (hk0 : 0 ≤ k) (hk : k < 1000000) (hs : 0 < size) : m_law_draw (.int c) (.int k) (.int size) = .ok (.int (drF c k size)) ∧ 0 ≤ drF c k size ∧ drF c k size < size := by
  obtain ⟨r, h, h0, h1⟩ := draw_ok c k size hk0 hk hs
  have hex : ∃ r : Int, m_law_draw (.int c) (.int k) (.int size) = .ok (.int r) := ⟨r, h⟩
  have e : m_law_draw (.int c) (.int k) (.int size) = .ok (.int (drF c k size)) := by unfold drF; rw [dif_pos hex]; exact Classical.choose_spec hex
  have e2 : r = drF c k size := by rw [h] at e; cases e; rfl
  rw [← e2]; exact ⟨h, h0, h1⟩
theorem map_gI (bs : List Int) : (rangeI bs.length).map (gI bs) = bs := by
  refine List.ext_getElem? fun i => ?_
  rw [List.getElem?_map]
  unfold rangeI
  rw [List.getElem?_map]
  by_cases h : i < bs.length
  · rw [List.getElem?_range h, List.getElem?_eq_getElem h]
    show some (bs[((i : Nat) : Int).toNat]?.getD 0) = _
    rw [Int.toNat_natCast, List.getElem?_eq_getElem h]; rfl
  · rw [List.getElem?_eq_none (by rw [List.length_range]; omega), List.getElem?_eq_none (by omega)]; rfl
theorem gI_map (f : Int → Int) {n : Nat} {i : Int} (h0 : 0 ≤ i) (h1 : i < n) : gI ((rangeI n).map f) i = f i := by
  unfold gI rangeI
  rw [List.map_map, List.getElem?_map, List.getElem?_range (by omega)]
  show f ((i.toNat : Nat) : Int) = f i
  congr 1; omega

noncomputable def rowL (c : Int) (n : Nat) : List Int := (rangeI n).map fun i => drF c (2 + i) 40 - 9
theorem rowL_len (c : Int) (n : Nat) : (rowL c n).length = n := by unfold rowL; rw [List.length_map, rangeI_len]
theorem row2_v (c : Int) {n : Nat} (hn : n ≤ 100) : m_law_row (.int c) (.int (n : Int)) = .ok (.lst (il (rowL c n))) := by
  unfold m_law_row
  simp only [rcons_ok, R.bind_ok]
  rw [rng_n (by omega)]
  simp only [R.bind_ok]
  rw [rng_il, compC_ty D.int D.int (fun i => drF c (2 + i) 40 - 9) fun i hi => by
    obtain ⟨h0, h1⟩ := mem_rangeI.mp hi
    simp only [R.op2_ok, dAdd_s, rcons_ok, R.bind_ok, fn3_s, (drF_ok c (2 + i) 40 (by omega) (by omega) (by omega)).1, dSub_s]]
  simp only [R.bind_ok]
  rw [finC_s (by rw [List.length_map, List.length_map, rangeI_len]; omega)]
  rfl

theorem bounds2_v (c : Int) (xs : List Int) (hn : xs.length ≤ 100) : ∃ bs : List Int, m_law_bounds (.int c) (.lst (il xs)) = .ok (.lst (il bs)) ∧ bs.length = xs.length := by
  obtain ⟨f, hf, f0, f1⟩ := draw_ok c 0 4 (by omega) (by omega) (by omega)
  obtain ⟨p, hp, p0, p1⟩ := draw_ok c 1 64 (by omega) (by omega) (by omega)
  unfold m_law_bounds
  simp only [rcons_ok, R.bind_ok, fn3_s, fn1_s, fn2_s, hf, R.op2_ok, dEq_s, dGt_s, dLen_l, il_len, R.bool_ok]
  by_cases h3 : f = 3
  · simp only [h3, decide_true, if_true, row2_v c hn]
    exact ⟨_, rfl, rowL_len c _⟩
  · simp only [h3, decide_false, Bool.false_eq_true, if_false]
    rw [rng_n (by omega)]
    simp only [R.bind_ok]
    rw [rng_il, compC_ty D.int D.int (fun i => gI xs i + drF c (2 + i) 4 * (if 0 < f then 1 else 0)) fun i hi => by
      obtain ⟨h0, h1⟩ := mem_rangeI.mp hi
      have hi' : dInt (.bl (decide (0 < f))) = .ok (.int (if 0 < f then 1 else 0)) := by by_cases z : 0 < f <;> simp only [z, decide_true, decide_false, if_true, if_false] <;> rfl
      simp only [R.op2_ok, dAdd_s, rcons_ok, R.bind_ok, fn3_s, fn1_s, (drF_ok c (2 + i) 4 (by omega) (by omega) (by omega)).1, gI_ix h0 h1, hi', dMul_l (a := drF c (2 + i) 4) (by have := (drF_ok c (2 + i) 4 (by omega) (by omega) (by omega)).2; omega) (by have := (drF_ok c (2 + i) 4 (by omega) (by omega) (by omega)).2; omega)]]
    simp only [R.bind_ok]
    rw [finC_s (by rw [List.length_map, List.length_map, rangeI_len]; omega)]
    have hl : ((rangeI xs.length).map fun i => gI xs i + drF c (2 + i) 4 * (if 0 < f then 1 else 0)).length = xs.length := by rw [List.length_map, rangeI_len]
    generalize hb : ((rangeI xs.length).map fun i => gI xs i + drF c (2 + i) 4 * (if 0 < f then 1 else 0)) = bs at hl
    simp only [R.bind_ok, joinC_s]
    by_cases h2 : f = 2
    · by_cases hz : (0 : Int) < xs.length
      · have hm : 0 ≤ p % (xs.length : Int) ∧ p % (xs.length : Int) < xs.length := ⟨Int.emod_nonneg _ (by omega), Int.emod_lt_of_pos _ hz⟩
        simp only [h2, hz, decide_true, R.and_true, R.bind_ok, if_true, hp, rcons_ok, fn1_s, R.op2_ok, dInt_s, dMod_s hz, lstOf_lst, gI_ix hm.1 hm.2, dSub_s]
        rw [dSet_s hm.1 (by rw [List.length_map]; omega)]
        refine ⟨bs.set (p % (xs.length : Int)).toNat (gI xs (p % (xs.length : Int)) - 1), ?_, by rw [List.length_set]; exact hl⟩
        simp only [R.bind_ok]
        unfold il; rw [List.map_set]
      · simp only [h2, hz, decide_true, decide_false, R.and_true, R.bind_ok, Bool.false_eq_true, if_false]
        exact ⟨bs, rfl, hl⟩
    · simp only [h2, decide_false, R.and_false, R.bind_ok, Bool.false_eq_true, if_false]
      exact ⟨bs, rfl, hl⟩

theorem isi_lo (l : List Int) : dIsI [Str.ofString "Loads"] (loadsD l) (.cl (Str.ofString "Loads")) = .ok (.bl true) := (Eq.refl _).trans (Eq.refl _)
theorem own_lo (l : List Int) : ownT "Loads" "counts" (loadsD l) = .ok (il l) := (Eq.refl _).trans (Eq.refl _)
theorem loads_newT (l : List Int) : m_Loads___init__ (tl l) = .ok (loadsD l) := by
  unfold m_Loads___init__
  simp only [rcons_ok, R.bind_ok, fn1_s, dTuple_t]
  rfl
theorem isl_v (xs ys : List Int) (he : xs = ys) (h : xs.length ≤ 900) : m_law_is_loads (loadsD xs) (.lst (il ys)) = .ok (.bl true) := by
  subst he
  have e1 : dLenOwnT "Loads" "counts" (loadsD xs) = .ok (.int xs.length) := by unfold dLenOwnT; rw [own_lo]; simp only [R.bind_ok, il_len]
  have e2 : dListOwnT "Loads" "counts" (loadsD xs) = .ok (.lst (il xs)) := by unfold dListOwnT; rw [own_lo]; simp only [R.bind_ok]
  have e3 : compC (il xs) yes (fun x2 => R.ok x2) = .ok (il xs) := by rw [compC_map (f := fun d => d) fun d hd => rfl]; simp
  have e4 := ints_tv xs xs (by omega)
  have e5 := ints_lv xs xs (by omega)
  unfold m_law_is_loads
  simp only [rcons_ok, R.bind_ok, fn1_s, fn2_s, isi_lo, loads_cn, dTuple_l, e1, e2, e3, own_lo, dLen_l, il_len, dTruth_bl, bNot_def, Bool.not_true, R.op2_ok]
  rw [show (D.tup (il xs)) = tl xs from rfl, e4]
  simp only [decide_true, R.bind_ok, dTruth_bl, bNot_def, Bool.not_true, R.or_false, dNe_s, Bool.false_eq_true, if_false]
  rw [rng_n (by omega)]
  simp only [R.bind_ok]
  rw [rng_il, compC_ty D.int D.int (gI xs) fun i hi => by
    obtain ⟨h0, h1⟩ := mem_rangeI.mp hi
    rw [loads_ix, loads_get xs i h0 h1]; rfl]
  simp only [R.bind_ok]
  rw [finC_s (by rw [List.length_map, List.length_map, rangeI_len]; omega), map_gI, finC_s (by rw [il_len]; omega)]
  simp only [R.bind_ok, rcons_ok, fn2_s]
  rw [show (D.lst (xs.map D.int)) = .lst (il xs) from rfl, e5]
  simp only [decide_true, R.bind_ok, dTruth_bl, bNot_def, Bool.not_true, Bool.false_eq_true, if_false, R.andV_true]

theorem loads_sub (a b : List Int) (h : b.length = a.length) (hl : a.length ≤ 900) : m_Loads___sub__ (loadsD a) (loadsD b) = .ok (loadsD ((rangeI a.length).map fun i => gI a i - gI b i)) := by
  unfold m_Loads___sub__
  simp only [R.bind_ok, loads_cn, rcons_ok, fn1_s, dLen_t, il_len]
  rw [rng_n (by omega)]
  simp only [R.bind_ok]
  rw [rng_il, compC_ty D.int D.int (fun i => gI a i - gI b i) fun i hi => by
    obtain ⟨h0, h1⟩ := mem_rangeI.mp hi
    simp only [R.op2_ok, gI_ixT h0 h1, gI_ixT h0 (show i < (b.length : Int) by omega), dSub_s]]
  simp only [R.bind_ok]
  rw [finC_s (by rw [List.length_map, List.length_map, rangeI_len]; omega)]
  have happ : ([D.lst (((rangeI a.length).map fun i => gI a i - gI b i).map D.int)] ++ []) = [D.lst (il ((rangeI a.length).map fun i => gI a i - gI b i))] := rfl
  simp only [R.bind_ok, rcons_ok, happ, fn1_s, loads_new, noEr_ok, exOk_ok]
theorem loads_withinL (a b : List Int) (h : b.length = a.length) (hl : a.length ≤ 900) : m_Loads_within (loadsD a) (.lst (il b)) = .ok (.bl (!(rangeI a.length).any fun i => decide (gI b i < gI a i))) := by
  unfold m_Loads_within
  simp only [R.bind_ok, loads_cn, rcons_ok, fn1_s, dLen_t, il_len]
  rw [rng_n (by omega)]
  simp only [R.bind_ok]
  rw [rng_il, forC_find D.int (fun i => decide (gI b i < gI a i)) (r := .ok (.bl false)) fun i hi nx bk => by
    obtain ⟨h0, h1⟩ := mem_rangeI.mp hi
    simp only [R.op2_ok, gI_ixT h0 h1, gI_ix h0 (show i < (b.length : Int) by omega), dGt_s, R.bind_ok]]
  cases (rangeI a.length).any fun i => decide (gI b i < gI a i) <;> rfl

theorem bool2_v (x : Bool) : m_law_bool (.bl x) (.bl x) = .ok (.bl true) := by cases x <;> exact (Eq.refl _).trans (Eq.refl _)
theorem inside2_v (a b : List Int) (due : Bool) (h : b.length = a.length) (hl : a.length ≤ 900) (hd : due = !(rangeI a.length).any fun i => decide (gI b i < gI a i)) : m_law_inside (loadsD a) (.lst (il b)) (.bl due) = .ok (.bl true) := by
  subst hd
  have w1 := loads_withinL a b h hl
  have w2 := loads_within a b h hl
  generalize (!(rangeI a.length).any fun i => decide (gI b i < gI a i)) = x at w1 w2
  have happ : ∀ z : D, ((fun us (_ : List D) => us) (loadsD a :: [z]) ([] : List D)) = [loadsD a, z] := fun z => rfl
  unfold m_law_inside
  simp only [rcons_ok, R.bind_ok, fn1_s, dList_l, loads_isM, happ, fn2_s, w1, bool2_v, dTruth_bl, bNot_def, Bool.not_true, R.or_false, dTuple_l]
  rw [show (D.tup (il b)) = tl b from rfl, w2]
  simp only [R.bind_ok, rcons_ok, fn2_s, bool2_v, dTruth_bl, bNot_def, Bool.not_true, Bool.false_eq_true, if_false, ints_lv b b (by omega), decide_true]
theorem over2_v (a b : List Int) (h : b.length = a.length) (hl : a.length ≤ 900) : m_law_over (.lst (il a)) (.lst (il b)) = .ok (.lst (il ((rangeI a.length).map fun i => max (gI a i) (gI b i)))) := by
  unfold m_law_over
  simp only [rcons_ok, R.bind_ok, fn1_s, dLen_l, il_len]
  rw [rng_n (by omega)]
  simp only [R.bind_ok]
  rw [rng_il, compC_ty D.int D.int (fun i => max (gI a i) (gI b i)) fun i hi => by
    obtain ⟨h0, h1⟩ := mem_rangeI.mp hi
    simp only [R.op2_ok, rcons_ok, R.bind_ok, gI_ix h0 h1, gI_ix h0 (show i < (b.length : Int) by omega), fn2_s, dMax2_s]]
  simp only [R.bind_ok]
  rw [finC_s (by rw [List.length_map, List.length_map, rangeI_len]; omega)]
  rfl

theorem call_loads_v {n : Nat} (hn : n ≤ 900) (w : Int) : m_call_loads (.int (n : Int)) (.int w) = .ok (loadsD ((rangeI n).map fun c => if w = -1 ∨ w = c then 1 else 0)) := by
  have happ : ∀ l : List Int, ((fun us zs => us ++ zs) [D.lst (l.map D.int)] ([] : List D)) = [D.lst (il l)] := fun l => rfl
  unfold m_call_loads
  simp only [R.op2_ok, R.bind_ok, dNeg_s, dEq_s, rcons_ok]
  rw [rng_n (by omega)]
  by_cases h : w = -1
  · simp only [h, decide_true, if_true, R.bind_ok, true_or]
    rw [rng_il, compC_ty D.int D.int (fun _ => 1) fun i hi => rfl]
    simp only [R.bind_ok]
    rw [finC_s (by rw [List.length_map, List.length_map, rangeI_len]; omega)]
    simp only [R.bind_ok, rcons_ok, happ, fn1_s, loads_new, noEr_ok]
  · simp only [h, decide_false, if_false, Bool.false_eq_true, R.bind_ok, false_or]
    rw [rng_il, compC_ty D.int D.int (fun c => if w = c then 1 else 0) fun i hi => by
      by_cases z : i = w
      · subst z; simp only [dEq_s, R.bool_ok, decide_true, R.bind_ok, rcons_ok, fn1_s, if_true]; rfl
      · have z' : ¬ w = i := fun e => z e.symm
        simp only [dEq_s, R.bool_ok, z, z', decide_false, R.bind_ok, rcons_ok, fn1_s, if_false]; rfl]
    simp only [R.bind_ok]
    rw [finC_s (by rw [List.length_map, List.length_map, rangeI_len]; omega)]
    simp only [R.bind_ok, rcons_ok, happ, fn1_s, loads_new, noEr_ok]
theorem call_rows_v {n : Nat} (hn : n ≤ 100) : m_law_call_rows (.int (n : Int)) = .ok (.bl true) := by
  unfold m_law_call_rows
  have r2 : dRng2 [.int (-1), .int (n : Int)] = .ok (rngD (-1) 1 ((n : Int) - (-1)).toNat) := dRng2_s (by omega) (by omega) (by omega) (by omega)
  simp only [R.bind_ok, dNeg_s, rcons_ok, r2]
  refine forC_P (fun z : R D => z = .ok (.bl true)) (fun i (s : Unit) => True) trivial (fun i d s hd _ => ?_) fun s _ => rfl
  obtain ⟨hi, rfl⟩ := rngD_get hd
  refine ⟨(), trivial, fun nx bk => ?_⟩
  generalize (-1 : Int) + (i : Int) * 1 = w
  rw [rng_n (by omega)]
  simp only [R.bind_ok]
  rw [rng_il, compC_ty D.int D.int (fun c => if w = -1 ∨ w = c then 1 else 0) fun c hc => by
    simp only [R.op2_ok, dEq_s, R.bool_ok]
    by_cases z : w = -1
    · simp only [z, decide_true, true_or, if_true]; rfl
    · by_cases y : w = c
      · simp only [z, y, decide_true, decide_false, or_true, if_true]
        have : ¬ c = -1 := by rw [← y]; exact z
        simp only [this, decide_false]; rfl
      · simp only [z, y, decide_false, or_self, if_false]; rfl]
  simp only [R.bind_ok]
  rw [finC_s (by rw [List.length_map, List.length_map, rangeI_len]; omega)]
  simp only [R.bind_ok, rcons_ok, fn2_s, call_loads_v (show n ≤ 900 by omega)]
  rw [show (D.lst (((rangeI n).map fun c => if w = -1 ∨ w = c then (1 : Int) else 0).map D.int)) = .lst (il ((rangeI n).map fun c => if w = -1 ∨ w = c then (1 : Int) else 0)) from rfl]
  rw [isl_v _ _ rfl (by rw [List.length_map, rangeI_len]; omega)]
  simp only [R.bind_ok, dTruth_bl, bNot_def, Bool.not_true, Bool.false_eq_true, if_false]

theorem any_congr' {p q : Int → Bool} {n : Nat} (h : ∀ i : Int, 0 ≤ i → i < n → p i = q i) : (rangeI n).any p = (rangeI n).any q := by
  rw [Bool.eq_iff_iff, List.any_eq_true, List.any_eq_true]
  constructor
  · rintro ⟨x, hx, e⟩; exact ⟨x, hx, by rw [← h x (mem_rangeI.mp hx).1 (mem_rangeI.mp hx).2]; exact e⟩
  · rintro ⟨x, hx, e⟩; exact ⟨x, hx, by rw [h x (mem_rangeI.mp hx).1 (mem_rangeI.mp hx).2]; exact e⟩
theorem law_true (ns : List Int) (hl : ns.length ≤ 63) : m_law (.scr (ns.map D.int)) = .ok (.bl true) := by
  obtain ⟨c0, hc0⟩ := cell_ok ns 0
  obtain ⟨c1, hc1⟩ := cell_ok ns 1
  obtain ⟨c2, hc2⟩ := cell_ok ns 2
  obtain ⟨c3, hc3⟩ := cell_ok ns 3
  have hc0' : m_law_cell (.scr (ns.map D.int)) (.int 0) = .ok (.int c0) := hc0
  have hc1' : m_law_cell (.scr (ns.map D.int)) (.int 1) = .ok (.int c1) := hc1
  have hc2' : m_law_cell (.scr (ns.map D.int)) (.int 2) = .ok (.int c2) := hc2
  have hc3' : m_law_cell (.scr (ns.map D.int)) (.int 3) = .ok (.int c3) := hc3
  obtain ⟨r0, hr0, a0, b0⟩ := draw_ok c0 0 7 (by omega) (by omega) (by omega)
  obtain ⟨r1, hr1, a1, b1⟩ := draw_ok c0 1 8 (by omega) (by omega) (by omega)
  obtain ⟨r2, hr2, a2, b2⟩ := draw_ok c0 0 25 (by omega) (by omega) (by omega)
  obtain ⟨r3, hr3, a3, b3⟩ := draw_ok c3 0 5 (by omega) (by omega) (by omega)
  unfold m_law
  simp only [rcons_ok, R.bind_ok, fn2_s, fn3_s, hc0', hc1', hc2', hc3', hr0, hr1, hr2, hr3, R.op2_ok, dEq_s, dAdd_s]
  refine joinC_P (fun s => ∃ n : Nat, s = .int (n : Int) ∧ n ≤ 24) (fun r => r = .ok (.bl true)) ?_ ?_
  · rintro s ⟨n, rfl, hn⟩
    simp only [row2_v c0 (show n ≤ 100 by omega), row2_v c1 (show n ≤ 100 by omega), R.bind_ok, rcons_ok, fn2_s]
    have l1 := rowL_len c0 n
    have l2 := rowL_len c1 n
    generalize rowL c0 n = xs at l1
    generalize rowL c1 n = ys at l2
    obtain ⟨bs, hbs, l3⟩ := bounds2_v c2 xs (by omega)
    rw [l1] at l3
    have hq : (r3 + 1).toNat ≤ 100 := by omega
    have hcr : m_law_call_rows (.int (1 + r3)) = .ok (.bl true) := by
      have := call_rows_v (n := (1 + r3).toNat) (by omega)
      rwa [Int.toNat_of_nonneg (by omega)] at this
    have happ : ∀ z : D, ((fun us zs => us ++ zs) [z] ([] : List D)) = [z] := fun z => rfl
    have g1 := isl_v xs xs rfl (by omega)
    have g2 := isl_v ys ys rfl (by omega)
    have hap : dApp (il xs) (.int 31) = .ok (.lst (il (xs ++ [31]))) := by rw [dApp_s _ (by rw [il_len]; omega)]; unfold il; rw [List.map_append]; rfl
    have hse : dSet (il (xs ++ [31])) (.int 0) (.int 31) = .ok (.lst ((il (xs ++ [31])).set (0 : Int).toNat (.int 31))) := dSet_s (by omega) (by rw [il_len, List.length_append]; simp)
    have hN : m_Loads___init__ (D.tup (il ys)) = .ok (loadsD ys) := loads_newT ys
    simp only [hbs, rcons_ok, fn1_s, fn2_s, dList_l, dTuple_l, hN, happ, List.append_nil, loads_new, noEr_ok, ints_lv xs xs (by omega), decide_true, dTruth_bl, bNot_def, Bool.not_true, R.or_false, g1, g2, Bool.false_eq_true, if_false, R.bind_ok, lstOf_lst, hap, hse]
    have ad1 := loads_add xs ys (by omega) (by omega)
    have ad2 := loads_add ys xs (by omega) (by omega)
    have sb1 := loads_sub xs ys (by omega) (by omega)
    have sb2 := loads_sub xs xs (by omega) (by omega)
    rw [l1] at ad1 sb1 sb2
    rw [l2] at ad2
    have sum_c : ((rangeI n).map fun i => gI ys i + gI xs i) = (rangeI n).map fun i => gI xs i + gI ys i := List.map_congr_left fun i _ => Int.add_comm _ _
    rw [sum_c] at ad2
    have tl1 : ((rangeI n).map fun i => gI xs i + gI ys i).length = n := by rw [List.length_map, rangeI_len]
    have sb3 := loads_sub ((rangeI n).map fun i => gI xs i + gI ys i) xs (by rw [tl1]; omega) (by omega)
    rw [tl1] at sb3
    have sum_s : ((rangeI n).map fun i => gI ((rangeI n).map fun i => gI xs i + gI ys i) i - gI xs i) = ys := by
      have := map_gI ys
      rw [l2] at this
      rw [← this]
      refine List.map_congr_left fun i hi => ?_
      obtain ⟨h0, h1⟩ := mem_rangeI.mp hi
      rw [gI_map _ h0 h1, this]; omega
    rw [sum_s] at sb3
    have c1 : compC (rngD 0 1 n) yes (fun x15 => R.op2 dAdd (dIx (.lst (il xs)) x15) (dIx (.lst (il ys)) x15)) = .ok (il ((rangeI n).map fun i => gI xs i + gI ys i)) := by
      rw [rng_il, compC_ty D.int D.int (fun i => gI xs i + gI ys i) fun i hi => by
        obtain ⟨h0, h1⟩ := mem_rangeI.mp hi
        simp only [R.op2_ok, gI_ix h0 (show i < (xs.length : Int) by omega), gI_ix h0 (show i < (ys.length : Int) by omega), dAdd_s]]
    have c2 : compC (rngD 0 1 n) yes (fun x15 => R.op2 dSub (dIx (.lst (il xs)) x15) (dIx (.lst (il ys)) x15)) = .ok (il ((rangeI n).map fun i => gI xs i - gI ys i)) := by
      rw [rng_il, compC_ty D.int D.int (fun i => gI xs i - gI ys i) fun i hi => by
        obtain ⟨h0, h1⟩ := mem_rangeI.mp hi
        simp only [R.op2_ok, gI_ix h0 (show i < (xs.length : Int) by omega), gI_ix h0 (show i < (ys.length : Int) by omega), dSub_s]]
    have c3 : compC (rngD 0 1 n) yes (fun x17 => R.ok (D.int 0)) = .ok (il ((rangeI n).map fun i => gI xs i - gI xs i)) := by
      rw [rng_il, compC_ty D.int D.int (fun i => gI xs i - gI xs i) fun i hi => by rw [Int.sub_self]]
    have c4 : compC (rngD 0 1 n) (fun x19 => R.op2 dGt (dIx (.lst (il xs)) x19) (dIx (.lst (il bs)) x19)) (fun x19 => R.ok (D.int 1)) = .ok ((((rangeI n).filter fun i => decide (gI bs i < gI xs i)).map fun _ => (1 : Int)).map D.int) := by
      rw [rng_il]
      exact compC_t D.int D.int (fun i => decide (gI bs i < gI xs i)) (fun _ => 1) (xs := rangeI n) (fun i hi => by
        obtain ⟨h0, h1⟩ := mem_rangeI.mp hi
        simp only [R.op2_ok, gI_ix h0 (show i < (xs.length : Int) by omega), gI_ix h0 (show i < (bs.length : Int) by omega), dGt_s]) fun _ _ _ => rfl
    have c5 : compC (rngD 0 1 n) yes (fun x15 => R.op2 dAdd (dIx (.lst (il bs)) x15) (dIx (.lst (il ys)) x15)) = .ok (il ((rangeI n).map fun i => gI bs i + gI ys i)) := by
      rw [rng_il, compC_ty D.int D.int (fun i => gI bs i + gI ys i) fun i hi => by
        obtain ⟨h0, h1⟩ := mem_rangeI.mp hi
        simp only [R.op2_ok, gI_ix h0 (show i < (bs.length : Int) by omega), gI_ix h0 (show i < (ys.length : Int) by omega), dAdd_s]]
    have fin : ∀ f : Int → Int, finC (il ((rangeI n).map f)) = .ok (.lst (il ((rangeI n).map f))) := fun f => finC_s (by rw [il_len, List.length_map, rangeI_len]; omega)
    have hfl := List.length_filter_le (fun i => decide (gI bs i < gI xs i)) (rangeI n)
    rw [rangeI_len] at hfl
    have fin4 : finC ((((rangeI n).filter fun i => decide (gI bs i < gI xs i)).map fun _ => (1 : Int)).map D.int) = .ok (.lst ((((rangeI n).filter fun i => decide (gI bs i < gI xs i)).map fun _ => (1 : Int)).map D.int)) := finC_s (by rw [List.length_map, List.length_map]; omega)
    have due : decide ((((((rangeI n).filter fun i => decide (gI bs i < gI xs i)).map fun _ => (1 : Int)).map D.int).length : Int) = 0) = !(rangeI n).any fun i => decide (gI bs i < gI xs i) := by
      rw [List.length_map, List.length_map]
      by_cases z : ((rangeI n).filter fun i => decide (gI bs i < gI xs i)) = []
      · rw [z]
        have : ((rangeI n).any fun i => decide (gI bs i < gI xs i)) = false := by
          rw [List.any_eq_false]; exact List.filter_eq_nil_iff.mp z
        rw [this]; rfl
      · have h1 : ((rangeI n).any fun i => decide (gI bs i < gI xs i)) = true := by
          rw [List.any_eq_true]
          obtain ⟨y, hy⟩ := List.exists_mem_of_ne_nil _ z
          obtain ⟨ya, yb⟩ := List.mem_filter.mp hy
          exact ⟨y, ya, yb⟩
        have h2 := List.length_pos_iff.mpr z
        rw [h1]
        exact decide_eq_false (by omega)
    have i1 := inside2_v xs bs (!(rangeI n).any fun i => decide (gI bs i < gI xs i)) (by omega) (by omega) (by rw [l1])
    have i2 := inside2_v xs ((rangeI n).map fun i => max (gI xs i) (gI bs i)) true (by rw [List.length_map, rangeI_len]; omega) (by omega) (by
      rw [l1]
      have : ((rangeI n).any fun i => decide (gI ((rangeI n).map fun i => max (gI xs i) (gI bs i)) i < gI xs i)) = false := by
        rw [List.any_eq_false]
        intro i hi
        obtain ⟨h0, h1⟩ := mem_rangeI.mp hi
        rw [gI_map _ h0 h1]
        have := Int.le_max_left (gI xs i) (gI bs i)
        simp; omega
      rw [this]; rfl)
    have i3 := inside2_v ((rangeI n).map fun i => gI xs i + gI ys i) ((rangeI n).map fun i => gI bs i + gI ys i) (!(rangeI n).any fun i => decide (gI bs i < gI xs i)) (by rw [List.length_map, List.length_map]) (by omega) (by
      rw [tl1]
      refine congrArg (fun b => !b) (any_congr' fun i h0 h1 => by
        rw [gI_map _ h0 h1, gI_map _ h0 h1]
        by_cases z : gI bs i < gI xs i
        · rw [decide_eq_true z, decide_eq_true (show gI bs i + gI ys i < gI xs i + gI ys i by omega)]
        · rw [decide_eq_false z, decide_eq_false (show ¬ gI bs i + gI ys i < gI xs i + gI ys i by omega)]))
    have o1 := over2_v xs bs (by omega) (by omega)
    rw [l1] at o1
    have e1 := isl_v ((rangeI n).map fun i => gI xs i + gI ys i) _ rfl (by omega)
    have e2 := isl_v ((rangeI n).map fun i => gI xs i - gI ys i) _ rfl (by rw [List.length_map, rangeI_len]; omega)
    have e3 := isl_v ((rangeI n).map fun i => gI xs i - gI xs i) _ rfl (by rw [List.length_map, rangeI_len]; omega)
    rw [rng_n (by omega)]
    simp only [R.bind_ok, c1, c2, c3, c4, c5, fin, fin4, R.op2_ok, loads_own, ad1, ad2, sb1, sb2, sb3, noEr_ok, rcons_ok, fn2_s, fn3_s, fn1_s, e1, e2, e3, g2, dTruth_bl, bNot_def, Bool.not_true, R.or_false, Bool.false_eq_true, if_false, dLen_l, dEq_s, R.bool_ok, due, i1, i2, i3, o1, hcr, g1, R.andV_true]
  · intro K hK
    by_cases h : r1 = 0
    · simp only [h, decide_true, if_true]
      exact hK _ ⟨r2.toNat, by congr 1; omega, by omega⟩
    · simp only [h, decide_false, Bool.false_eq_true, if_false]
      exact hK _ ⟨r0.toNat, by congr 1; omega, by omega⟩

end Um

open PySem PySem.W PyProof.Rows
set_option maxHeartbeats 0 in
theorem PySem.Challenge.cw_unmovedways_k02_loads_objects_holds : PySem.Challenge.rw_unmovedways_k02_loads_objects.Holds := by
  w_on; o_law; k_head; (case hw => w_witness2)
  k_fill
  refine L2.walk_of (l := PySem.Challenge.rw_unmovedways_k02_loads_objects) (n := 63) (k := 7) (x := "script") (CX := fun w => L2N.CX PySem.Challenge.rw_unmovedways_k02_loads_objects.prog w) (sp := fun w => Um.spLaw _ Um.m_law) rfl (by decide) rfl ⟨rfl, by decide, by decide⟩ (fun w h Y => PySem.W.kIn_of Y) ?F (fun w H a ns hl _ hS => ⟨a, ns, rfl, hS, Um.law_true ns hl, fun _ => rfl⟩) (fun w H s e s' h => by obtain ⟨a, B, H', cls, d, -, -, -, -, -, -, -, hE⟩ := h; exact hE)
  case F =>
    intro w mg fa h KX G hmg
    refine' Um.all_mk KX G hmg ?xC1 ?pgC1 ?hdC1 ?poC1 ?saC1 ?mkC1 ?kcC1 ?nfC1_counts ?ifcC1 ?ispC1 ?itkC1 ?imrC1 ?a1 ?l1 ?c1 ?k1 ?a2 ?l2 ?c2 ?k2 ?a3 ?l3 ?c3 ?k3 ?a4 ?l4 ?c4 ?k4 ?a5 ?i5 ?l5 ?c5 ?k5 ?a6 ?l6 ?c6 ?k6 ?a7 ?l7 ?c7 ?k7 ?a8 ?i8 ?sfC1 ?n8 ?l8 ?c8 ?k8 ?a9 ?i9 ?n9 ?l9 ?c9 ?k9 ?a10 ?i10 ?n10 ?l10 ?c10 ?k10 ?a11 ?l11 ?c11 ?k11 ?a12 ?i12 ?n12 ?l12 ?c12 ?k12 ?a13 ?i13 ?n13 ?l13 ?c13 ?k13 ?a14 ?l14 ?c14 ?k14 ?a15 ?i15 ?l15 ?c15 ?k15 ?a16 ?l16 ?c16 ?k16 ?a17 ?l17 ?c17 ?k17 ?a18 ?l18 ?c18 ?k18 ?a19 ?l19 ?c19 ?k19 ?a20 ?l20 ?c20 ?k20 ?z0 ?z1 ?z2 ?z3 ?z4 ?z5 ?z6 ?z7 ?z8
    (case xC1 => k_is); (case pgC1 => k_is); (case hdC1 => k_is); (case poC1 => k_is); (case saC1 => k_is); (case mkC1 => k_is); (case kcC1 => k_is); (case nfC1_counts => k_is); (case ifcC1 => k_is); (case ispC1 => k_is); (case itkC1 => k_is); (case imrC1 => k_is); (case a1 => k_is); (case l1 => k_is); (case c1 => k_is); (case k1 => k_is); (case a2 => k_is); (case l2 => k_is); (case c2 => k_is); (case k2 => k_is); (case a3 => k_is); (case l3 => k_is); (case c3 => k_is); (case k3 => k_is); (case a4 => k_is); (case l4 => k_is); (case c4 => k_is); (case k4 => k_is); (case a5 => k_is); (case i5 => k_is); (case l5 => k_is); (case c5 => k_is); (case k5 => k_is); (case a6 => k_is); (case l6 => k_is); (case c6 => k_is); (case k6 => k_is); (case a7 => k_is); (case l7 => k_is); (case c7 => k_is); (case k7 => k_is); (case a8 => k_is); (case i8 => k_is); (case sfC1 => k_is); (case n8 => k_is); (case l8 => k_is); (case c8 => k_is); (case k8 => k_is); (case a9 => k_is); (case i9 => k_is); (case n9 => k_is); (case l9 => k_is); (case c9 => k_is); (case k9 => k_is); (case a10 => k_is); (case i10 => k_is); (case n10 => k_is); (case l10 => k_is); (case c10 => k_is); (case k10 => k_is); (case a11 => k_is); (case l11 => k_is); (case c11 => k_is); (case k11 => k_is); (case a12 => k_is); (case i12 => k_is); (case n12 => k_is); (case l12 => k_is); (case c12 => k_is); (case k12 => k_is); (case a13 => k_is); (case i13 => k_is); (case n13 => k_is); (case l13 => k_is); (case c13 => k_is); (case k13 => k_is); (case a14 => k_is); (case l14 => k_is); (case c14 => k_is); (case k14 => k_is); (case a15 => k_is); (case i15 => k_is); (case l15 => k_is); (case c15 => k_is); (case k15 => k_is); (case a16 => k_is); (case l16 => k_is); (case c16 => k_is); (case k16 => k_is); (case a17 => k_is); (case l17 => k_is); (case c17 => k_is); (case k17 => k_is); (case a18 => k_is); (case l18 => k_is); (case c18 => k_is); (case k18 => k_is); (case a19 => k_is); (case l19 => k_is); (case c19 => k_is); (case k19 => k_is); (case a20 => k_is); (case l20 => k_is); (case c20 => k_is); (case k20 => k_is); (case z0 => k_is); (case z1 => k_is); (case z2 => k_is); (case z3 => k_is); (case z4 => k_is); (case z5 => k_is); (case z6 => k_is); (case z7 => k_is); (case z8 => k_is)
