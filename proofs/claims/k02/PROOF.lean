import PyProof.Rows.All
import Wide.All
import OpenK.AllK
import Wide.FinOn
import KE.KStateDown
import Lean
import HandS.ForMost
import HandS.ForExc
import HandS.More
import HandS.Conv
import HandS.Deep
import HandS.DictComp
import HandS.IsInst
import HandS.Zip
import HandS.Rev
import HandS.RevRange
import HandS.TupAny
import HandS.TupMul
import HandS.Wide
import HandS.WideBits
import HandS.Words
import HandS.WordsExc
import HandS.Defaults
import HandS.Head0
import HandS.Head1
import HandS.Head2
import HandS.HeadEnd
import HandS.HeadHook1
import HandS.HeadHook2
import KE.GoesMore
import KE.GoesEnum
import HandS.SortInts
import PyProof.AutoSeq1
import PyProof.FitsBits
import HandS.Style
import PyProof.ReprRoads
import KE.KTupSum
import HandS.Walk
import HandS.Strs
import PyProof.FactsAll.tuple_0
import PyProof.FactsAll.tuple_2
import PyProof.FactsAll.tuple_3
import HandS.SetFor
import KE.GoesEnumKw
import HandS.TupSets
import PyProof.SumAnyB
import KE.KSortTupAny
import PyProof.CallFns
import KE.KDictZip
import HandS.ListItems
import KE.KExcInit
import KE.KExcIs
import KE.KTryMore
import HandS.ExcInit
import HandS.ExcOwn
import HandS.ExcField
import PySem.Challenge.RW_hayherd_k02_who_may_pass
import PyProof.ReprLen
set_option Elab.async false
set_option linter.all false
set_option maxRecDepth 100000
set_option maxHeartbeats 4000000
/-! tuples whose objects are known -/
namespace TL
open PySem PySem.Spec PyProof.Rows L2
/-- a new tuple, known to the object -/
abbrev kT (o : Obj) (xs : List V) : HO := .frz o (.tup xs)
section
variable {X : Cx} {pins : List (Addr × Obj)} {σ : L2.St} {H : Hp} {s : Shared}
theorem push_kT {xs : List V} {us : List Value} {H : Hp} {h : Heap} {a : Addr} {o : Obj} (r : Vals xs us) (hz : xs.length ≤ sizeLine) (ho : h.get? a = some o) (e : o = { cls := .type "tuple", data := .seq us.toArray }) : ObjOk X.prog X.w H h a (kT o xs) :=
  ⟨ho, hz, us, r, ⟨o, ho, by rw [e], 0, by rw [e]⟩⟩
end
section
variable {X : Cx}
def tTupF (t : TA) : TE := fun σ H Q => t σ H fun xs H1 => xs.length ≤ sizeLine ∧ ∀ p o, H1 p = none → o.dict = none → Q (.ref p) (upd H1 p (kT o xs))
theorem pe_tupF {es : List Expr} {t : TA} {pos : Pos} {x1} (h : PA X es t) : PE X (.Tuple es x1 pos) (tTupF t) := by
  refine ⟨fun pins s σ H Q I hq => ?_⟩
  refine wpAny_Tuple_spliced (thn (h.run pos pins s σ H _ I hq) fun us s1 ⟨xs, H1, I1, r, z, q⟩ => ⟨by rw [← r.length]; exact z, ?_⟩)
  exact ⟨.ref s1.heap.objs.size, _, I1.laid (t' := s1.toks) (fun b u e => Heap.get?_push_of_some _ e) (Nat.le_refl _) (push_kT r z (Heap.get?_push_size _ rfl) rfl), rfl, q _ _ (I1.hok.fresh (Nat.le_refl _)) rfl⟩
def rCatF (K : PySem.W.Frag) : R2 := fun x y H Q => ∃ a b xs ys, x = .ref a ∧ y = .ref b ∧ SqT K H a xs ∧ SqT K H b ys ∧ xs.length + ys.length ≤ sizeLine ∧
  (xs = [] → Q (.ref b) H) ∧ (xs ≠ [] → ys = [] → Q (.ref a) H) ∧ (xs ≠ [] → ys ≠ [] → ∀ p o, H p = none → o.dict = none → Q (.ref p) (upd H p (kT o (xs ++ ys))))
theorem op_catF : OpR X (binaryOp .Add) (rCatF X.K) := by
  intro pins s σ H x y v u Q I rx ry h
  obtain ⟨a, b, xs, ys, rfl, rfl, ha, hb, hz, q0, q1, q2⟩ := h
  by_cases hx : xs = []
  · exact op_catA pins s σ H _ _ v u Q I rx ry ⟨a, b, xs, ys, rfl, rfl, ha, hb, hz, q0, fun z => absurd hx z, fun z => absurd hx z⟩
  · cases rx
    cases ry
    obtain ⟨its, r1, p1, _⟩ := I.tuple ha
    obtain ⟨its2, r2, p2, _⟩ := I.tuple hb
    refine HT.cat_tup p1 p2 (fun z => hx (r1.nil_iff.mp z)) (fun z => ⟨.ref a, H, I, rfl, q1 hx (r2.nil_iff.mp z)⟩) (fun z => ?_) (by rw [← r1.length, ← r2.length]; exact hz)
    exact ⟨.ref s.heap.objs.size, _, I.laid (t' := s.toks) (fun b ob q => Heap.get?_push_of_some _ q) (Nat.le_refl _) (push_kT (r1.append r2) (by rw [List.length_append]; exact hz) (Heap.get?_push_size _ rfl) rfl), rfl, q2 hx (fun w => z (r2.nil_iff.mpr w)) _ _ (I.hok.fresh (Nat.le_refl _)) rfl⟩
def rSlF (K : PySem.W.Frag) : V → Option Int → Option Int → Hp → VK → Prop := fun x lo hi H Q => ∃ a xs, x = .ref a ∧ SqT K H a xs ∧
  (HT.sIx xs.length 0 lo = 0 ∧ HT.sIx xs.length xs.length hi = xs.length → Q (.ref a) H) ∧ (¬ (HT.sIx xs.length 0 lo = 0 ∧ HT.sIx xs.length xs.length hi = xs.length) → ∀ p o, H p = none → o.dict = none → Q (.ref p) (upd H p (kT o (cutV xs lo hi))))
theorem sl_tupF : SlR X (rSlF X.K) := by
  intro pins s σ H x v vl vu lo hi sl Q I rx hs pl pu h
  obtain ⟨a, xs, rfl, hx, q1, q2⟩ := h
  by_cases hw : HT.sIx xs.length 0 lo = 0 ∧ HT.sIx xs.length xs.length hi = xs.length
  · exact sl_tupA pins s σ H _ v vl vu lo hi sl Q I rx hs pl pu ⟨a, xs, rfl, hx, q1, fun z => absurd hw z⟩
  · cases rx
    obtain ⟨its, r, ht, hz⟩ := I.tuple hx
    have hlen : its.toArray.size = xs.length := by rw [List.size_toArray]; exact r.length.symm
    refine ⟨"tuple", _, PyProof.Rows.slot_tuple_getitem.lookup, ht.typeIs, ?_⟩
    refine HT.getItem_tuple_cut ht hs pl pu (by rw [hlen]; exact hw) ?_ (by rw [hlen]; exact hz)
    rw [hlen]
    exact ⟨.ref s.heap.objs.size, _, I.laid (t' := s.toks) (fun b ob q => Heap.get?_push_of_some _ q) (Nat.le_refl _)
      (push_kT ((r.drop (HT.sIx xs.length 0 lo)).take (HT.sIx xs.length xs.length hi - HT.sIx xs.length 0 lo)) (Nat.le_trans (cutV_length xs lo hi) hz) (Heap.get?_push_size _ rfl) rfl), rfl, q2 hw _ _ (I.hok.fresh (Nat.le_refl _)) rfl⟩
abbrev rTupleF (K : PySem.W.Frag) : List V → Hp → VK → Prop := fun xs H Q => ∃ p ys, xs = [.ref p] ∧ ((SqL K H p ys ∧ ∀ l o, H l = none → o.dict = none → Q (.ref l) (upd H l (kT o ys))) ∨ (SqT K H p ys ∧ Q (.ref p) H))
theorem call_tupleF : CallR X (.type "tuple") (rTupleF X.K) := by
  intro pins s σ H xs us Q I r h
  obtain ⟨p, ys, rfl, h⟩ := h
  rcases h with ⟨hq, q⟩ | ⟨hq, q⟩
  · obtain ⟨u, rfl, rx⟩ := vals1 r
    cases rx
    obtain ⟨its, r', pl, hz⟩ := I.list hq
    have hlen := r'.length
    refine call_tuple_list pl.isList (fun h' kp => ?_) (by simp only [List.size_toArray] <;> omega)
    have I1 : Inv X pins σ H { s with heap := h' } := I.kept (t' := s.toks) kp
    exact ⟨.ref h'.objs.size, _, I1.laid (t' := s.toks) (fun b o e => Heap.get?_push_of_some _ e) (Nat.le_refl _) (push_kT r' hz (Heap.get?_push_size _ rfl) rfl), rfl, q _ _ (I1.hok.fresh (Nat.le_refl _)) rfl⟩
  · exact call_tuple_of pins s σ H _ us Q I r ⟨p, ys, rfl, .inr ⟨hq, q⟩⟩
def tTupRgF (te : L2.St → Hp → (Int → Int → Hp → Prop) → Prop) : TE := fun σ H Q => te σ H fun a b H1 => RgOk a b ∧ ∀ q o, H1 q = none → o.dict = none → Q (.ref q) (upd H1 q (kT o (rgV a b)))
theorem pe_tupRgF {p pos : Pos} {e : Expr} {te : L2.St → Hp → (Int → Int → Hp → Prop) → Prop} (hc : X.calm = true) (hg : Gl X "tuple") (hm : X.mg "tuple" = none) (he : PRg X e te) (na : starEach [e] X.env = (false, eval e X.env) :: starEach [] X.env := by rfl) : PE X (.Call (.Name "tuple" p) [e] [] pos) (tTupRgF te) := by
  refine ⟨fun pins s σ H Q I h => ?_⟩
  refine Call_ (ld_blt I hg hm boot_tuple (PyProof.Rows.callWith_type1 (args_cons (thn (he pins s σ H _ I h) fun x s1 ⟨r, a, b, t, u, v, H1, ex, hr, I1, ok, q⟩ => args_nil ?_) na) na))
  subst ex
  obtain ⟨b1, b2, b3, b4, b5⟩ := ok
  refine call_tuple_range (n := (b - a).toNat) (I1.ok.hd hc) hr (small_one b1 b2 b3 b4) (rangeSize_nat a b) b5 fun h' tk acc hk hi => ?_
  have I2 : Inv X pins σ H1 { s1 with heap := h', toks := tk } := I1.kept hk
  exact ⟨.ref h'.objs.size, _, I2.laid (t' := tk) (fun c o e => Heap.get?_push_of_some _ e) (Nat.le_refl _) (push_kT (vals_rg hi) (by rw [rgV_length, sizeLine_eq]; omega) (Heap.get?_push_size _ rfl) (by rw [Array.toArray_toList])), rfl, q _ _ (I2.hok.fresh (Nat.le_refl _)) rfl⟩
end
section
variable {X : Cx}
def rRepF (K : PySem.W.Frag) : R2 := fun x y H Q => ∃ l k xs, x = .ref l ∧ y = .int k ∧ SqT K H l xs ∧ xs ≠ [] ∧ 2 ≤ k ∧ k ≤ 1000 ∧ xs.length ≤ 1000 ∧ ∀ p o, H p = none → o.dict = none → Q (.ref p) (upd H p (kT o (List.replicate k.toNat xs).flatten))
theorem op_repF : OpR X (binaryOp .Mult) (rRepF X.K) := by
  intro pins s σ H x y v u Q I rx ry h
  obtain ⟨l, k, xs, rfl, rfl, hT, hne, h1, h2, hz, q⟩ := h
  cases rx
  obtain ⟨t, rfl⟩ := ry
  obtain ⟨its, r, ⟨⟨cls, dd, data, sl⟩, ho, hc, n, hd⟩, hs⟩ := I.tuple hT
  simp only at hc hd
  subst hc hd
  have hle : its.length = xs.length := r.length.symm
  have hn : its ≠ [] := fun e => hne (List.eq_nil_of_length_eq_zero (by rw [← hle, e]; rfl))
  have hi : its.toArray.isEmpty = false := by
    cases its with
    | nil => exact absurd rfl hn
    | cons a b => rfl
  have hsz0 : its.toArray.size = xs.length := by rw [List.size_toArray, hle]
  have hm : ((its.toArray.size : Nat) : Int) * k ≤ 1000000 := by
    rw [hsz0]
    have a1 : ((xs.length : Nat) : Int) * k ≤ 1000 * k := Int.mul_le_mul_of_nonneg_right (by omega) (by omega)
    omega
  have hk : k.toNat * xs.length ≤ 1000 * 1000 := Nat.mul_le_mul (by omega) hz
  have c0 : (decide (k < -(2 ^ 63)) || decide (k ≥ 2 ^ 63)) = false := by
    rw [decide_eq_false (by omega), decide_eq_false (by omega)] <;> rfl
  have c1 : (its.toArray.isEmpty || k == 1) = false := by
    rw [hi, Bool.false_or]
    exact beq_eq_false_iff_ne.mpr (by omega)
  have c2 : (decide (k ≤ 0) || its.toArray.isEmpty) = false := by
    rw [hi, Bool.or_false]
    exact decide_eq_false (by omega)
  have c4 : Builtin.Tuple.tupleTooMany (((its.toArray.size : Nat) : Int) * k) = false := by
    unfold Builtin.Tuple.tupleTooMany
    rw [sizeLine_eq]
    exact decide_eq_false (by omega)
  refine wpAny_binaryOp_repeat_ref (T := "tuple") (U := "int") (by decide) ⟨_, ho, rfl⟩ (fun s' => typeIs_int s' k t) noFill_tuple_mul F.fills_int_mul F.slot_int_rmul repeat_tuple F.slot_int_index.lookup
    (call_meets F.slot_int_rmul (typeIs_int s k t) F.entry_int_rmul (F.args_int_rmul_2 _ _) (int_rmul_tuple k t l its.toArray n dd sl)
      ⟨ho, rfl, ⟨_, ho, rfl⟩, call_meets F.slot_tuple_mul ⟨_, ho, rfl⟩ F.entry_tuple_mul (F.args_tuple_mul_2 _ _) (tuple_mulW l its.toArray n dd sl k t c0 c1 c2 (by omega) c4 (by rw [size_rep, List.size_toArray, PyProof.Rows.lm_len_rep_flat, hle, sizeLine_eq]; omega)) ⟨ho, ?_⟩⟩)
  rw [size_rep]
  exact ⟨.ref s.heap.objs.size, _, I.laid (t' := s.toks) (fun b ob q => Heap.get?_push_of_some _ q) (Nat.le_refl _)
    (push_kT (r.rep k.toNat) (by rw [PyProof.Rows.lm_len_rep_flat, sizeLine_eq]; omega) (Heap.get?_push_size _ rfl) rfl), rfl, q _ _ (I.hok.fresh (Nat.le_refl _)) rfl⟩
end
/-! ### plain data in the heap -/
def PlT (K : PySem.W.Frag) (H : Hp) (a : Addr) (xs : List V) : Prop := (∃ o, H a = some (kT o xs) ∧ o.dict = none) ∨
  ∃ (o : Obj) (its : Array Value) (n : Nat), K.lookup a = some o ∧ o.cls = .type "tuple" ∧ o.dict = none ∧ o.data = .seq its n ∧ its.size ≤ sizeLine ∧ Vals xs its.toList
theorem PlT.sq {K : PySem.W.Frag} {H : Hp} {a : Addr} {xs : List V} (h : PlT K H a xs) : SqT K H a xs := by
  rcases h with ⟨o, e, _⟩ | ⟨o, its, n, e1, e2, _, e3, e4, e5⟩
  · exact .inl (.inr ⟨o, e⟩)
  · exact .inr ⟨o, its, n, e1, e2, e3, e4, e5⟩
theorem PlT.mono {K : PySem.W.Frag} {H H' : Hp} {a : Addr} {xs : List V} (e : Same H H') (h : PlT K H a xs) : PlT K H' a xs := by
  rcases h with ⟨o, h, d⟩ | h
  · exact .inl ⟨o, e _ _ h, d⟩
  · exact .inr h
/-- a pair that an iterator made: nothing but its taking apart -/
def rawP (x y : PyData) : PyData := .dict [(.dict [], .dict []), (x, y)]
/-- a dict whose keys are tuples of ints (they stand at the addresses beside them): its values are not told -/
def th (ks : List Int) : Int := reduceHash (Builtin.Tuple.tupleHashOf (ks.map hashInt))
def dEp (a : Addr) (kbs : List (List Int × Addr)) (h : Heap) : Prop := (a == sysModules) = false ∧ kbs.length ≤ sizeLine ∧ ∃ xs : List (List Int × Addr × Value), xs.map (fun x => (x.1, x.2.1)) = kbs ∧
  ∃ o es ep, h.get? a = some o ∧ o.ExactDict ∧ o.data = .dict es ep ∧ es.toList = xs.map (fun x => (⟨th x.1, .ref x.2.1, x.2.2⟩ : DictEntry)) ∧ (xs.map (·.1)).Nodup
def dE (a : Addr) (kbs : List (List Int × Addr)) : HO := .ext (dEp a kbs)
def keyT (k : List Int) : PyData := .tuple (k.map .int)
def PdOk (K : PySem.W.Frag) (H : Hp) (a : Addr) (ks : List PyData) : Prop := ∃ kbs : List (List Int × Addr), H a = some (dE a kbs) ∧ (∀ p ∈ kbs, PlT K H p.2 (p.1.map V.int)) ∧ ks = kbs.map fun p => keyT p.1
theorem PdOk.mono {K : PySem.W.Frag} {H H' : Hp} {a : Addr} {ks : List PyData} (e : Same H H') (h : PdOk K H a ks) : PdOk K H' a ks := by
  obtain ⟨kbs, h1, h2, h3⟩ := h
  exact ⟨kbs, e _ _ h1, fun p hp => (h2 p hp).mono e, h3⟩
/-- a caught exception: its class, its dict -/
def excHO (a : Addr) (cls : Value) (d : Addr) : HO := .ext fun h => ∃ o, h.get? a = some o ∧ o.cls = cls ∧ o.dict = some d ∧ ∃ vs, o.data = .fields vs
/-- such an exception as data: the class by its name, the field and what it holds -/
def excD (c f : Str) (x : PyData) : PyData := .dict [(.bool true, .str c), (.str f, x)]
/-- such a dict as data -/
def pdD (ks : List PyData) : PyData := .dict [(.none, .list ks)]
mutual
inductive Dp (K : PySem.W.Frag) (H : Hp) : V → PyData → Prop
  | non : Dp K H .non .none
  | bl (b : Bool) : Dp K H (.bl b) (.bool b)
  | int (i : Int) : Dp K H (.int i) (.int i)
  | str (x : Str) : Dp K H (.str x) (.str x)
  | lst {a : Addr} {xs : List V} {ds : List PyData} : SqL K H a xs → DpAll K H xs ds → Dp K H (.ref a) (.list ds)
  | tup {a : Addr} {xs : List V} {ds : List PyData} : PlT K H a xs → DpAll K H xs ds → Dp K H (.ref a) (.tuple ds)
  | raw {a : Addr} {x y : V} {d e : PyData} : SqT K H a [x, y] → Dp K H x d → Dp K H y e → Dp K H (.ref a) (.dict [(.dict [], .dict []), (d, e)])
  | pdc {a : Addr} {ks : List PyData} : PdOk K H a ks → Dp K H (.ref a) (.dict [(.none, .list ks)])
  | exc {a d : Addr} {v : V} {c f : Str} {x : PyData} : H a = some (excHO a (.ref (He.ga K c)) d) → H d = some (.xd [(f, v)]) → Dp K H v x → Dp K H (.ref a) (.dict [(.bool true, .str c), (.str f, x)])
inductive DpAll (K : PySem.W.Frag) (H : Hp) : List V → List PyData → Prop
  | nil : DpAll K H [] []
  | cons {v : V} {vs : List V} {d : PyData} {ds : List PyData} : Dp K H v d → DpAll K H vs ds → DpAll K H (v :: vs) (d :: ds)
end
mutual
theorem dp_l2 {K : PySem.W.Frag} {H : Hp} : ∀ (d : PyData) (v : V), d.canLay0 = true → Dp K H v d → L2.Dp K H v d
  | .none, _, _, q => by cases q; exact .non
  | .bool b, _, _, q => by cases q; exact .bl b
  | .int i, _, _, q => by cases q; exact .int i
  | .str x, _, _, q => by cases q; exact .str x
  | .list ds, _, h, q => by
    cases q with
    | lst hs ha => exact .lst hs (dp_l2All ds _ (by simpa [PyData.canLay0] using h) ha)
  | .tuple ds, _, h, q => by
    cases q with
    | tup hs ha => exact .tup hs.sq (dp_l2All ds _ (by simpa [PyData.canLay0] using h) ha)
  | .dict _, _, h, q => by simp [PyData.canLay0] at h
theorem dp_l2All {K : PySem.W.Frag} {H : Hp} : ∀ (ds : List PyData) (vs : List V), PyData.canLayAll0 ds = true → DpAll K H vs ds → L2.DpAll K H vs ds
  | [], _, _, q => by cases q; exact .nil
  | d :: ds, _, h, q => by
    have h : d.canLay0 = true ∧ PyData.canLayAll0 ds = true := by simpa [PyData.canLayAll0] using h
    cases q with
    | cons a b => exact .cons (dp_l2 d _ h.1 a) (dp_l2All ds _ h.2 b)
end
theorem lay0_shaped {d : PyData} (h : SeqAt.shaped d = true) : d.canLay0 = true := by
  unfold SeqAt.shaped at h
  simp at h
  exact h.1
end TL
set_option Elab.async false
set_option linter.all false
set_option maxRecDepth 100000
set_option maxHeartbeats 4000000
/-! the tree layer: values are plain data -/
namespace TL
open PySem PySem.Spec PyProof.Rows L2

abbrev D := PyData

mutual
theorem dp_mono {K : PySem.W.Frag} {F F' : Hp} (h : Same F F') : ∀ (d : D) (v : V), Dp K F v d → Dp K F' v d
  | .none, _, q => by cases q; exact .non
  | .bool b, _, q => by cases q; exact .bl b
  | .int i, _, q => by cases q; exact .int i
  | .str x, _, q => by cases q; exact .str x
  | .list ds, _, q => by
    cases q with
    | lst hs ha => exact .lst (h.seq hs) (dp_monoAll h ds _ ha)
  | .tuple ds, _, q => by
    cases q with
    | tup hs ha => exact .tup (hs.mono h) (dp_monoAll h ds _ ha)
  | .dict [(.dict [], .dict []), (d, e)], _, q => by
    cases q with
    | raw hs a b => exact .raw (seqT h hs) (dp_mono h d _ a) (dp_mono h e _ b)
  | .dict [(.none, .list ks)], _, q => by
    cases q with
    | pdc hp => exact .pdc (hp.mono h)
  | .dict [(.bool true, .str c), (.str f, d)], _, q => by
    cases q with
    | exc h1 h2 a => exact .exc (h _ _ h1) (h _ _ h2) (dp_mono h d _ a)
theorem dp_monoAll {K : PySem.W.Frag} {F F' : Hp} (h : Same F F') : ∀ (ds : List D) (vs : List V), DpAll K F vs ds → DpAll K F' vs ds
  | [], _, q => by cases q; exact .nil
  | d :: ds, _, q => by
    cases q with
    | cons a b => exact .cons (dp_mono h d _ a) (dp_monoAll h ds _ b)
theorem seqT {K : PySem.W.Frag} {H H' : Hp} {a : Addr} {xs : List V} (e : Same H H') (h : SqT K H a xs) : SqT K H' a xs := by
  rcases h with (h | ⟨o, h⟩) | h
  · exact .inl (.inl (e _ _ h))
  · exact .inl (.inr ⟨o, e _ _ h⟩)
  · exact .inr h
end
theorem dpAll_len {K : PySem.W.Frag} {F : Hp} : ∀ {vs : List V} {ds : List D}, DpAll K F vs ds → vs.length = ds.length
  | _, _, .nil => rfl
  | _, _, .cons _ b => congrArg Nat.succ (dpAll_len b)
theorem dpAll_get {K : PySem.W.Frag} {F : Hp} : ∀ {vs : List V} {ds : List D} {i : Nat} {d : D}, DpAll K F vs ds → ds[i]? = some d → ∃ v, vs[i]? = some v ∧ Dp K F v d
  | _, _, _, _, .nil, e => by simp at e
  | _, _, 0, _, .cons a _, e => by simp at e; subst e; exact ⟨_, rfl, a⟩
  | _, _, i + 1, _, .cons _ b, e => by
    obtain ⟨v, h1, h2⟩ := dpAll_get (i := i) b (by simpa using e)
    exact ⟨v, by simpa using h1, h2⟩
theorem dpAll_get' {K : PySem.W.Frag} {F : Hp} : ∀ {vs : List V} {ds : List D} {i : Nat} {v : V}, DpAll K F vs ds → vs[i]? = some v → ∃ d, ds[i]? = some d ∧ Dp K F v d
  | _, _, _, _, .nil, e => by simp at e
  | _, _, 0, _, .cons a _, e => by simp at e; subst e; exact ⟨_, rfl, a⟩
  | _, _, i + 1, _, .cons _ b, e => by
    obtain ⟨v, h1, h2⟩ := dpAll_get' (i := i) b (by simpa using e)
    exact ⟨v, by simpa using h1, h2⟩
theorem dpAll_append {K : PySem.W.Frag} {F : Hp} : ∀ {vs : List V} {ds : List D} {ws : List V} {es : List D}, DpAll K F vs ds → DpAll K F ws es → DpAll K F (vs ++ ws) (ds ++ es)
  | _, _, _, _, .nil, h => h
  | _, _, _, _, .cons a b, h => .cons a (dpAll_append b h)
theorem dpAll_take {K : PySem.W.Frag} {F : Hp} : ∀ {vs : List V} {ds : List D} (n : Nat), DpAll K F vs ds → DpAll K F (vs.take n) (ds.take n)
  | _, _, 0, _ => .nil
  | _, _, _ + 1, .nil => .nil
  | _, _, n + 1, .cons a b => .cons a (dpAll_take n b)
theorem dpAll_drop {K : PySem.W.Frag} {F : Hp} : ∀ {vs : List V} {ds : List D} (n : Nat), DpAll K F vs ds → DpAll K F (vs.drop n) (ds.drop n)
  | _, _, 0, h => h
  | _, _, _ + 1, .nil => .nil
  | _, _, n + 1, .cons _ b => dpAll_drop n b
theorem dpAll_set {K : PySem.W.Frag} {F : Hp} {v : V} {d : D} (h : Dp K F v d) : ∀ {vs : List V} {ds : List D} (i : Nat), DpAll K F vs ds → DpAll K F (vs.set i v) (ds.set i d)
  | _, _, _, .nil => .nil
  | _, _, 0, .cons _ b => .cons h b
  | _, _, i + 1, .cons a b => .cons a (dpAll_set h i b)
theorem dpAll_eraseIdx {K : PySem.W.Frag} {F : Hp} : ∀ {vs : List V} {ds : List D} (i : Nat), DpAll K F vs ds → DpAll K F (vs.eraseIdx i) (ds.eraseIdx i)
  | _, _, _, .nil => .nil
  | _, _, 0, .cons _ b => b
  | _, _, i + 1, .cons a b => .cons a (dpAll_eraseIdx i b)
theorem dpAll_reverse {K : PySem.W.Frag} {F : Hp} {vs : List V} {ds : List D} (h : DpAll K F vs ds) : DpAll K F vs.reverse ds.reverse := by
  induction ds generalizing vs with
  | nil => cases h; exact .nil
  | cons d ds ih =>
    cases h with
    | cons a b =>
      rw [List.reverse_cons, List.reverse_cons]
      exact dpAll_append (ih b) (.cons a .nil)
/-- an exception that leaves -/
structure XE where
  cls : Str
  fld : Str
  val : D
def XRep (K : PySem.W.Frag) (F' H' : Hp) (x : XE) (cls : Value) (dd : Option Addr) : Prop := cls = .ref (He.ga K x.cls) ∧ ∃ d v, dd = some d ∧ F' d = some (.xd [(x.fld, v)]) ∧ Dp K F' v x.val
/-! ### what a name holds -/
inductive Sl where
  | d (x : D)
  | ow (xs : List D)
  | box
  | raw (v : V)
  | dk (kvs : List (Key × D))
  | dt (kvs : List (List Key × D))
  | odk (kvs : List (Key × D))
  | odt (kvs : List (List Key × D))
  | nl (as : List Addr) (xss : List (List D))
def Sl.own : Sl → Bool
  | .ow _ => true
  | .odk _ => true
  | .odt _ => true
  | .nl _ _ => true
  | _ => false
/-- the places within -/
def Sl.inn : Sl → List Addr
  | .nl as _ => as
  | _ => []
/-- a place of the thing that a name holds -/
def At (s : Sl) (o : Option (Option V)) (b : Addr) : Prop := o = some (some (.ref b)) ∨ b ∈ s.inn
/-- the pairs of a dict -/
def KD {κ : Type} (K : PySem.W.Frag) (F : Hp) : List (κ × V) → List (κ × D) → Prop := Paired fun (p : κ × V) (q : κ × D) => p.1 = q.1 ∧ Dp K F p.2 q.2
theorem KD.mono {κ : Type} {K : PySem.W.Frag} {F F' : Hp} (s : Same F F') {ws : List (κ × V)} {kvs : List (κ × D)} (h : KD K F ws kvs) : KD K F' ws kvs := Paired.mapP h fun p q z => ⟨z.1, dp_mono s q.2 p.2 z.2⟩
abbrev Ev := List (Option Sl)
/-- kinds of results: frozen, new list, borrowed -/
inductive Kd where
  | fz | nw | bw
  | nn (k : Nat)
/-- new lists and tuples to a depth of k, no two at one place; d: what they hold -/
def FrA (P : V → D → List Addr → Prop) : List V → List D → List Addr → Prop
  | [], [], fp => fp = []
  | v :: vs, d :: ds, fp => ∃ f1 f2, fp = f1 ++ f2 ∧ P v d f1 ∧ FrA P vs ds f2 ∧ ∀ a ∈ f1, a ∉ f2
  | _, _, _ => False
def NodeAt (H : Hp) (a : Addr) (d : D) (vs : List V) (ds : List D) : Prop := (d = .list ds ∧ H a = some (.lst vs)) ∨ (d = .tuple ds ∧ ∃ o, H a = some (kT o vs))
def FrT (H0 H : Hp) : Nat → V → D → List Addr → Prop
  | 0, _, _, fp => fp = []
  | k + 1, v, d, fp => ∃ a vs ds fp', v = .ref a ∧ fp = a :: fp' ∧ H0 a = none ∧ NodeAt H a d vs ds ∧ a ∉ fp' ∧ FrA (FrT H0 H k) vs ds fp'
theorem FrA.mono {P Q : V → D → List Addr → Prop} : ∀ {vs : List V} {ds : List D} {fp : List Addr}, FrA P vs ds fp → (∀ v d f, P v d f → (∀ a ∈ f, a ∈ fp) → Q v d f) → FrA Q vs ds fp
  | [], [], _, h, _ => h
  | v :: vs, d :: ds, _, ⟨f1, f2, e, h1, h2, h3⟩, w => ⟨f1, f2, e, w v d f1 h1 fun a ha => by rw [e]; exact List.mem_append_left _ ha, FrA.mono h2 fun u x f hu hf => w u x f hu fun a ha => by rw [e]; exact List.mem_append_right _ (hf a ha), h3⟩
  | [], _ :: _, _, h, _ => h.elim
  | _ :: _, [], _, h, _ => h.elim
theorem FrA.len {P : V → D → List Addr → Prop} : ∀ {vs : List V} {ds : List D} {fp : List Addr}, FrA P vs ds fp → vs.length = ds.length
  | [], [], _, _ => rfl
  | v :: vs, d :: ds, _, ⟨f1, f2, e, h1, h2, h3⟩ => congrArg Nat.succ (FrA.len h2)
  | [], _ :: _, _, h => h.elim
  | _ :: _, [], _, h => h.elim
theorem NodeAt.some {H : Hp} {a : Addr} {d : D} {vs : List V} {ds : List D} (h : NodeAt H a d vs ds) : ∃ u, H a = some u ∧ ∀ φ, u ≠ .ext φ := by
  rcases h with ⟨_, h⟩ | ⟨_, o, h⟩
  · exact ⟨_, h, fun φ z => nomatch z⟩
  · exact ⟨_, h, fun φ z => nomatch z⟩
theorem FrT.at {H0 H : Hp} : ∀ {k : Nat} {v : V} {d : D} {fp : List Addr}, FrT H0 H k v d fp → ∀ a ∈ fp, H0 a = none ∧ ∃ u, H a = some u ∧ ∀ φ, u ≠ .ext φ
  | 0, _, _, _, h, a, ha => by
    have h : _ = [] := h
    rw [h] at ha
    cases ha
  | k + 1, v, d, fp, ⟨b, vs, ds, fp', e, ef, h0, h1, _, h2⟩, a, ha => by
    rw [ef] at ha
    rcases List.mem_cons.mp ha with rfl | ha
    · exact ⟨h0, h1.some⟩
    · have all : ∀ {us : List V} {es : List D} {g : List Addr}, FrA (FrT H0 H k) us es g → ∀ a ∈ g, H0 a = none ∧ ∃ u, H a = some u ∧ ∀ φ, u ≠ .ext φ := by
        intro us
        induction us with
        | nil =>
          intro es g z a ha
          cases es with
          | nil => rw [show g = [] from z] at ha; cases ha
          | cons e es => exact z.elim
        | cons u us ih =>
          intro es g z a ha
          cases es with
          | nil => exact z.elim
          | cons e es =>
            obtain ⟨f1, f2, e, g1, g2, _⟩ := z
            rw [e] at ha
            rcases List.mem_append.mp ha with ha | ha
            · exact FrT.at g1 a ha
            · exact ih g2 a ha
      exact all h2 a ha
theorem FrT.mono {H0 H0' H H' : Hp} : ∀ {k : Nat} {v : V} {d : D} {fp : List Addr}, FrT H0 H k v d fp → (∀ a ∈ fp, H0 a = none → H0' a = none) → (∀ a ∈ fp, H' a = H a) → FrT H0' H' k v d fp
  | 0, _, _, _, h, _, _ => h
  | k + 1, v, d, fp, ⟨b, vs, ds, fp', e, ef, h0, h1, h3, h2⟩, w0, w => by
    have mb : b ∈ fp := by rw [ef]; simp
    refine ⟨b, vs, ds, fp', e, ef, w0 b mb h0, by unfold NodeAt; rw [w b mb]; exact h1, h3, FrA.mono h2 fun u x f hu hf => FrT.mono hu (fun a ha => w0 a ?_) (fun a ha => w a ?_)⟩
    · rw [ef]; exact List.mem_cons_of_mem _ (hf a ha)
    · rw [ef]; exact List.mem_cons_of_mem _ (hf a ha)

/-- the law's box at b: three ints, the last one at most n -/
def boxP (b : Addr) (n : Nat) (h : Heap) : Prop := ∃ (x y z : Int) (t u v : Tok) (c : Nat), h.get? b = some { cls := .type "list", data := .seq #[.int x t, .int y u, .int z v] c } ∧
  0 ≤ x ∧ (0 ≤ y ∧ y < 2 ^ 62) ∧ 0 ≤ z ∧ z ≤ n

structure Adv (bx : Option Addr) (n n' : Nat) (H F H' F' : Hp) : Prop where
  keep : ∀ a o, H a = some o → bx ≠ some a → H' a = some o
  old : ∀ a, H a ≠ none → F' a = F a
  sub : Same F' H'
  box : ∀ b, bx = some b → H' b = some (.ext (boxP b n'))

structure Act where
  K : PySem.W.Frag
  H0 : Hp
  F0 : Hp
  bx : Option Addr
  n0 : Nat
structure Act.Ok (A : Act) : Prop where
  sub : Same A.F0 A.H0
  box : ∀ b, A.bx = some b → A.H0 b = some (.ext (boxP b A.n0)) ∧ A.F0 b = none

/-- own lists within an own list -/
def NLA (A : Act) (H F : Hp) : List Addr → List (List D) → Prop
  | [], [] => True
  | a :: as, xs :: xss => (A.H0 a = none ∧ F a = none ∧ ∃ vs, H a = some (.lst vs) ∧ DpAll A.K F vs xs) ∧ NLA A H F as xss
  | _, _ => False
theorem NLA.imp {A A' : Act} {H F H' F' : Hp} : ∀ {as : List Addr} {xss : List (List D)}, NLA A H F as xss → (∀ b ∈ as, ∀ vs xs, A.H0 b = none → F b = none → H b = some (.lst vs) → DpAll A.K F vs xs → A'.H0 b = none ∧ F' b = none ∧ H' b = some (.lst vs) ∧ DpAll A'.K F' vs xs) → NLA A' H' F' as xss
  | [], [], _, _ => trivial
  | a :: as, xs :: xss, ⟨⟨h1, h2, vs, h3, h4⟩, h5⟩, w => by
    obtain ⟨g1, g2, g3, g4⟩ := w a (by simp) vs xs h1 h2 h3 h4
    exact ⟨⟨g1, g2, vs, g3, g4⟩, h5.imp fun b hb => w b (List.mem_cons_of_mem _ hb)⟩
  | [], _ :: _, h, _ => h.elim
  | _ :: _, [], h, _ => h.elim
theorem NLA.len {A : Act} {H F : Hp} : ∀ {as : List Addr} {xss : List (List D)}, NLA A H F as xss → as.length = xss.length
  | [], [], _ => rfl
  | _ :: _, _ :: _, h => congrArg Nat.succ (NLA.len h.2)
  | [], _ :: _, h => h.elim
  | _ :: _, [], h => h.elim
theorem NLA.at_ {A : Act} {H F : Hp} : ∀ {as : List Addr} {xss : List (List D)} {k : Nat} {b : Addr}, NLA A H F as xss → as[k]? = some b → ∃ xs vs, xss[k]? = some xs ∧ A.H0 b = none ∧ F b = none ∧ H b = some (.lst vs) ∧ DpAll A.K F vs xs
  | a :: as, xs :: xss, 0, b, ⟨⟨h1, h2, vs, h3, h4⟩, h5⟩, e => by
    simp at e
    subst e
    exact ⟨xs, vs, rfl, h1, h2, h3, h4⟩
  | a :: as, xs :: xss, k + 1, b, h, e => by
    obtain ⟨ys, vs, e1, r⟩ := NLA.at_ (k := k) h.2 (by simpa using e)
    exact ⟨ys, vs, by simpa using e1, r⟩
  | [], [], _, _, _, e => by simp at e
  | [], _ :: _, _, _, h, _ => h.elim
  | _ :: _, [], _, _, h, _ => h.elim
theorem NLA.mem {A : Act} {H F : Hp} {as : List Addr} {xss : List (List D)} {b : Addr} (h : NLA A H F as xss) (hb : b ∈ as) : A.H0 b = none ∧ F b = none ∧ ∃ vs, H b = some (.lst vs) := by
  obtain ⟨k, hk, e⟩ := List.mem_iff_getElem.mp hb
  obtain ⟨xs, vs, _, h1, h2, h3, _⟩ := h.at_ (k := k) (b := b) (by rw [List.getElem?_eq_getElem hk, e])
  exact ⟨h1, h2, vs, h3⟩
def SlOk (A : Act) (H F : Hp) : Sl → V → Prop
  | .d x, v => Dp A.K F v x
  | .ow xs, v => ∃ a vs, v = .ref a ∧ A.H0 a = none ∧ F a = none ∧ H a = some (.lst vs) ∧ DpAll A.K F vs xs
  | .box, v => ∃ b, v = .ref b ∧ A.bx = some b
  | .raw w, v => v = w
  | .dk kvs, v => ∃ a ws, v = .ref a ∧ F a = some (.dK ws) ∧ KD A.K F ws kvs
  | .dt kvs, v => ∃ a ws, v = .ref a ∧ F a = some (.dT ws) ∧ KD A.K F ws kvs
  | .odk kvs, v => ∃ a ws, v = .ref a ∧ A.H0 a = none ∧ F a = none ∧ H a = some (.dK ws) ∧ KD A.K F ws kvs
  | .odt kvs, v => ∃ a ws, v = .ref a ∧ A.H0 a = none ∧ F a = none ∧ H a = some (.dT ws) ∧ KD A.K F ws kvs
  | .nl as xss, v => ∃ a, v = .ref a ∧ (a :: as).Nodup ∧ A.H0 a = none ∧ F a = none ∧ H a = some (.lst (as.map V.ref)) ∧ NLA A H F as xss
structure Rel (A : Act) (τ : Ev) (n : Nat) (σ : L2.St) (H F : Hp) : Prop where
  ok : A.Ok
  len : τ.length = σ.length
  adv : Adv A.bx A.n0 n A.H0 A.F0 H F
  sl : ∀ (i : Nat) (s : Sl), τ[i]? = some (some s) → ∃ v, σ[i]? = some (some v) ∧ SlOk A H F s v
  dis : ∀ (i j : Nat) (a : Addr) (s s' : Sl), i ≠ j → τ[i]? = some (some s) → s.own = true → τ[j]? = some (some s') → s'.own = true → At s σ[i]? a → ¬ At s' σ[j]? a

theorem Adv.refl {bx : Option Addr} {n : Nat} {H F : Hp} (s : Same F H) (b : ∀ b, bx = some b → H b = some (.ext (boxP b n))) : Adv bx n n H F H F := ⟨fun _ _ h _ => h, fun _ _ => rfl, s, b⟩
theorem Adv.trans {bx : Option Addr} {n1 n2 n3 : Nat} {H1 F1 H2 F2 H3 F3 : Hp} (a : Adv bx n1 n2 H1 F1 H2 F2) (b : Adv bx n2 n3 H2 F2 H3 F3) : Adv bx n1 n3 H1 F1 H3 F3 := by
  refine ⟨fun c o h x => b.keep c o (a.keep c o h x) x, fun c h => ?_, b.sub, b.box⟩
  have h2 : H2 c ≠ none := by
    by_cases x : bx = some c
    · rw [a.box c x]; exact fun z => nomatch z
    · obtain ⟨o, e⟩ := Option.ne_none_iff_exists'.mp h
      rw [a.keep c o e x]
      exact fun z => nomatch z
  rw [b.old c h2, a.old c h]
/-- what was frozen stays so -/
theorem Adv.fro {bx : Option Addr} {n n' : Nat} {H F H' F' : Hp} (a : Adv bx n n' H F H' F') (s : Same F H) : Same F F' := fun c o h => by
  rw [a.old c (by rw [s c o h]; exact fun z => nomatch z)]
  exact h
/-- nothing but new things -/
structure PAdv (H F H' F' : Hp) : Prop where
  keep : Same H H'
  old : ∀ a, H a ≠ none → F' a = F a
  sub : Same F' H'
theorem PAdv.refl {H F : Hp} (s : Same F H) : PAdv H F H F := ⟨fun _ _ h => h, fun _ _ => rfl, s⟩
theorem PAdv.adv {bx : Option Addr} {n : Nat} {H F H' F' : Hp} (a : PAdv H F H' F') (b : ∀ b, bx = some b → H b = some (.ext (boxP b n))) : Adv bx n n H F H' F' :=
  ⟨fun c o h _ => a.keep c o h, a.old, a.sub, fun c h => a.keep c _ (b c h)⟩
theorem PAdv.trans {H1 F1 H2 F2 H3 F3 : Hp} (a : PAdv H1 F1 H2 F2) (b : PAdv H2 F2 H3 F3) : PAdv H1 F1 H3 F3 := by
  refine ⟨fun c o h => b.keep c o (a.keep c o h), fun c h => ?_, b.sub⟩
  obtain ⟨o, e⟩ := Option.ne_none_iff_exists'.mp h
  rw [b.old c (by rw [a.keep c o e]; exact fun z => nomatch z), a.old c h]
theorem PAdv.fro {H F H' F' : Hp} (a : PAdv H F H' F') (s : Same F H) : Same F F' := fun c o h => by
  rw [a.old c (by rw [s c o h]; exact fun z => nomatch z)]
  exact h
/-- a new frozen object -/
theorem PAdv.new {H F : Hp} {p : Addr} {o : HO} (s : Same F H) (hp : H p = none) : PAdv H F (upd H p o) (upd F p o) := by
  refine ⟨fun c u h => ?_, fun c h => ?_, fun c u h => ?_⟩
  · rw [upd_ne (ne_of_none h hp)]; exact h
  · have : c ≠ p := fun z => by subst z; exact h hp
    rw [upd_ne this]
  · by_cases z : c = p
    · subst z; rw [upd_same] at h ⊢; exact h
    · rw [upd_ne z] at h ⊢; exact s c u h
/-- a new object that is not frozen -/
theorem PAdv.new' {H F : Hp} {p : Addr} {o : HO} (s : Same F H) (hp : H p = none) : PAdv H F (upd H p o) F := by
  refine ⟨fun c u h => ?_, fun c h => rfl, fun c u h => ?_⟩
  · rw [upd_ne (ne_of_none h hp)]; exact h
  · have : c ≠ p := fun z => by subst z; rw [s c u h] at hp; cases hp
    rw [upd_ne this]; exact s c u h

theorem Rel.same {A : Act} {τ : Ev} {n : Nat} {σ : L2.St} {H F : Hp} (R : Rel A τ n σ H F) : Same F H := R.adv.sub
theorem Rel.box {A : Act} {τ : Ev} {n : Nat} {σ : L2.St} {H F : Hp} (R : Rel A τ n σ H F) : ∀ b, A.bx = some b → H b = some (.ext (boxP b n)) := R.adv.box
theorem SlOk.adv {A : Act} {n n' : Nat} {H F H' F' : Hp} {s : Sl} {v : V} (a : Adv A.bx n n' H F H' F') (sb : Same F H) (bx : ∀ b, A.bx = some b → H b = some (.ext (boxP b n))) (h : SlOk A H F s v) : SlOk A H' F' s v := by
  cases s with
  | d x => exact dp_mono (a.fro sb) x v h
  | ow xs =>
    obtain ⟨c, vs, e, h0, hf, hl, hd⟩ := h
    have hb : A.bx ≠ some c := fun z => by rw [bx c z] at hl; cases hl
    refine ⟨c, vs, e, h0, ?_, a.keep c _ hl hb, dp_monoAll (a.fro sb) xs vs hd⟩
    rw [a.old c (by rw [hl]; exact fun z => nomatch z)]; exact hf
  | box => exact h
  | raw w => exact h
  | dk kvs =>
    obtain ⟨c, ws, e, hf, hd⟩ := h
    exact ⟨c, ws, e, a.fro sb c _ hf, hd.mono (a.fro sb)⟩
  | dt kvs =>
    obtain ⟨c, ws, e, hf, hd⟩ := h
    exact ⟨c, ws, e, a.fro sb c _ hf, hd.mono (a.fro sb)⟩
  | odk kvs =>
    obtain ⟨c, ws, e, h0, hf, hl, hd⟩ := h
    have hb : A.bx ≠ some c := fun z => by rw [bx c z] at hl; cases hl
    refine ⟨c, ws, e, h0, ?_, a.keep c _ hl hb, hd.mono (a.fro sb)⟩
    rw [a.old c (by rw [hl]; exact fun z => nomatch z)]; exact hf
  | odt kvs =>
    obtain ⟨c, ws, e, h0, hf, hl, hd⟩ := h
    have hb : A.bx ≠ some c := fun z => by rw [bx c z] at hl; cases hl
    refine ⟨c, ws, e, h0, ?_, a.keep c _ hl hb, hd.mono (a.fro sb)⟩
    rw [a.old c (by rw [hl]; exact fun z => nomatch z)]; exact hf
  | nl as xss =>
    obtain ⟨c, e, nd, h0, hf, hl, hd⟩ := h
    have hb : A.bx ≠ some c := fun z => by rw [bx c z] at hl; cases hl
    refine ⟨c, e, nd, h0, ?_, a.keep c _ hl hb, hd.imp fun b _ vs xs g1 g2 g3 g4 => ⟨g1, ?_, a.keep b _ g3 fun z => ?_, dp_monoAll (a.fro sb) xs vs g4⟩⟩
    · rw [a.old c (by rw [hl]; exact fun z => nomatch z)]; exact hf
    · rw [a.old b (by rw [g3]; exact fun z => nomatch z)]; exact g2
    · rw [bx b z] at g3; cases g3
theorem Rel.step {A : Act} {τ : Ev} {n n' : Nat} {σ : L2.St} {H F H' F' : Hp} (R : Rel A τ n σ H F) (a : Adv A.bx n n' H F H' F') : Rel A τ n' σ H' F' := by
  refine ⟨R.ok, R.len, R.adv.trans a, fun i s h => ?_, R.dis⟩
  obtain ⟨v, e, q⟩ := R.sl i s h
  exact ⟨v, e, q.adv a R.same R.box⟩

/-! ### results -/
def RepK (K : PySem.W.Frag) : Kd → (H0 H F : Hp) → V → D → Prop
  | .fz, _, _, F, v, d => Dp K F v d
  | .nw, H0, H, F, v, d => ∃ a vs xs, d = .list xs ∧ v = .ref a ∧ H0 a = none ∧ F a = none ∧ H a = some (.lst vs) ∧ DpAll K F vs xs
  | .bw, _, H, F, v, d => Dp K F v d ∨ ∃ a vs xs, d = .list xs ∧ v = .ref a ∧ H a = some (.lst vs) ∧ DpAll K F vs xs
  | .nn k, H0, H, F, v, d => Dp K F v d ∧ ∃ fp, FrT H0 H k v d fp
theorem RepK.bw {K : PySem.W.Frag} {k : Kd} {H0 H F : Hp} {v : V} {d : D} (h : RepK K k H0 H F v d) : RepK K .bw H0 H F v d := by
  cases k with
  | fz => exact .inl h
  | nw =>
    obtain ⟨a, vs, xs, e1, e2, _, _, h1, h2⟩ := h
    exact .inr ⟨a, vs, xs, e1, e2, h1, h2⟩
  | bw => exact h
  | nn k => exact .inl h.1
/-- read in the whole heap -/
theorem bw_dp {K : PySem.W.Frag} {H0 H F : Hp} {v : V} {d : D} (s : Same F H) (h : RepK K .bw H0 H F v d) : Dp K H v d := by
  rcases h with h | ⟨a, vs, xs, rfl, rfl, h1, h2⟩
  · exact dp_mono s d v h
  · exact .lst (.inl (.inl h1)) (dp_monoAll s xs vs h2)
theorem bw_l2 {K : PySem.W.Frag} {H0 H F : Hp} {v : V} {d : D} (s : Same F H) (c : d.canLay0 = true) (h : RepK K .bw H0 H F v d) : L2.Dp K H v d := dp_l2 d v c (bw_dp s h)
theorem bw_list {K : PySem.W.Frag} {H0 H F : Hp} {v : V} {xs : List D} (s : Same F H) (h : RepK K .bw H0 H F v (.list xs)) : ∃ a vs, v = .ref a ∧ SqL K H a vs ∧ DpAll K F vs xs := by
  rcases h with h | ⟨a, vs, ys, e, rfl, h1, h2⟩
  · cases h with
    | lst hs ha => exact ⟨_, _, rfl, s.seq hs, ha⟩
  · cases e
    exact ⟨a, vs, rfl, .inl (.inl h1), h2⟩
theorem bw_tup {K : PySem.W.Frag} {H0 H F : Hp} {v : V} {xs : List D} (s : Same F H) (h : RepK K .bw H0 H F v (.tuple xs)) : ∃ a vs, v = .ref a ∧ SqT K H a vs ∧ DpAll K F vs xs := by
  rcases h with h | ⟨a, vs, ys, e, rfl, h1, h2⟩
  · cases h with
    | tup hs ha => exact ⟨_, _, rfl, seqT s hs.sq, ha⟩
  · cases e
theorem bw_int {K : PySem.W.Frag} {H0 H F : Hp} {v : V} {i : Int} (h : RepK K .bw H0 H F v (.int i)) : v = .int i := by
  rcases h with h | ⟨a, vs, ys, e, rfl, h1, h2⟩
  · cases h; rfl
  · cases e
theorem bw_bool {K : PySem.W.Frag} {H0 H F : Hp} {v : V} {i : Bool} (h : RepK K .bw H0 H F v (.bool i)) : v = .bl i := by
  rcases h with h | ⟨a, vs, ys, e, rfl, h1, h2⟩
  · cases h; rfl
  · cases e
theorem bw_none {K : PySem.W.Frag} {H0 H F : Hp} {v : V} (h : RepK K .bw H0 H F v .none) : v = .non := by
  rcases h with h | ⟨a, vs, ys, e, rfl, h1, h2⟩
  · cases h; rfl
  · cases e
theorem bw_str {K : PySem.W.Frag} {H0 H F : Hp} {v : V} {x : Str} (h : RepK K .bw H0 H F v (.str x)) : v = .str x := by
  rcases h with h | ⟨a, vs, ys, e, rfl, h1, h2⟩
  · cases h; rfl
  · cases e
theorem bw_adv {K : PySem.W.Frag} {bx : Option Addr} {n n' : Nat} {H0 H F H' F' : Hp} {v : V} {d : D} (h : RepK K .bw H0 H F v d) (a : Adv bx n n' H F H' F') (s : Same F H) (bxh : ∀ b, bx = some b → H b = some (.ext (boxP b n))) : RepK K .bw H0 H' F' v d := by
  rcases h with h | ⟨c, vs, ys, e, e2, h1, h2⟩
  · exact .inl (dp_mono (a.fro s) d v h)
  · refine .inr ⟨c, vs, ys, e, e2, a.keep c _ h1 (fun z => ?_), dp_monoAll (a.fro s) ys vs h2⟩
    rw [bxh c z] at h1; cases h1
/-- a new list, frozen -/
theorem nw_fz {K : PySem.W.Frag} {H0 H F : Hp} {v : V} {d : D} (s : Same F H) (h : RepK K .nw H0 H F v d) : ∃ F', (∀ a, H0 a ≠ none → F' a = F a) ∧ Same F' H ∧ Same F F' ∧ Dp K F' v d := by
  obtain ⟨a, vs, xs, rfl, rfl, h0, hf, h1, h2⟩ := h
  have sf : Same F (upd F a (.lst vs)) := fun c o e => by rw [upd_ne (ne_of_none e hf)]; exact e
  refine ⟨upd F a (.lst vs), fun c hc => ?_, fun c o e => ?_, sf, .lst (.inl (.inl upd_same)) (dp_monoAll sf xs vs h2)⟩
  · rw [upd_ne]
    intro z; subst z; exact hc h0
  · by_cases z : c = a
    · subst z; rw [upd_same] at e; cases e; exact h1
    · rw [upd_ne z] at e; exact s c o e

/-! ### expressions -/
abbrev EM := Ev → Nat → (D → Nat → Prop) → Prop
abbrev CM := Ev → Nat → (Bool → Nat → Prop) → Prop
abbrev AM := Ev → Nat → (List Sl → Nat → Prop) → Prop
def tE (K : PySem.W.Frag) (k : Kd) (m : EM) : TE := fun σ H Q => ∃ A τ n F P, A.K = K ∧ Rel A τ n σ H F ∧ m τ n P ∧ ∀ d n' v H' F', P d n' → Adv A.bx n n' H F H' F' → RepK K k H H' F' v d → Q v H'
def tT (K : PySem.W.Frag) (m : CM) : TT := fun σ H Q => ∃ A τ n F P, A.K = K ∧ Rel A τ n σ H F ∧ m τ n P ∧ ∀ b n' H' F', P b n' → Adv A.bx n n' H F H' F' → Q b H'
def SlArg (K : PySem.W.Frag) (bx : Option Addr) (F : Hp) : Sl → V → Prop
  | .d x, v => Dp K F v x
  | .ow _, _ => False
  | .box, v => ∃ b, v = .ref b ∧ bx = some b
  | .raw w, v => v = w
  | _, _ => False
def tA (K : PySem.W.Frag) (m : AM) : TA := fun σ H Q => ∃ A τ n F P, A.K = K ∧ Rel A τ n σ H F ∧ m τ n P ∧ ∀ ss n' vs H' F', P ss n' → Adv A.bx n n' H F H' F' → Paired (SlArg K A.bx F') ss vs → Q vs H'
structure E2 (X : Cx) (k : Kd) (e : Expr) (m : EM) : Prop where
  pe : PE X e (tE X.K k m)
structure T2 (X : Cx) (e : Expr) (m : CM) : Prop where
  pt : PT X e (tT X.K m)
structure A2 (X : Cx) (es : List Expr) (m : AM) : Prop where
  pa : PA X es (tA X.K m)
theorem pe_weak {X : Cx} {e : Expr} {t t' : TE} (h : PE X e t) (w : ∀ σ H Q, t' σ H Q → t σ H Q) : PE X e t' := ⟨fun pins s σ H Q I q => h.run pins s σ H Q I (w σ H Q q)⟩
theorem pt_weak {X : Cx} {e : Expr} {t t' : TT} (h : PT X e t) (w : ∀ σ H Q, t' σ H Q → t σ H Q) : PT X e t' := ⟨fun pins s σ H Q I q => h.run pins s σ H Q I (w σ H Q q)⟩
theorem pa_weak {X : Cx} {e : List Expr} {t t' : TA} (h : PA X e t) (w : ∀ σ H Q, t' σ H Q → t σ H Q) : PA X e t' := ⟨fun pos pins s σ H Q I q => h.run pos pins s σ H Q I (w σ H Q q)⟩

/-- any result may be read -/
theorem E2.bw {X : Cx} {k : Kd} {e : Expr} {m : EM} (h : E2 X k e m) : E2 X .bw e m := ⟨pe_weak h.pe fun σ H Q ⟨A, τ, n, F, P, eK, R, hm, hq⟩ => ⟨A, τ, n, F, P, eK, R, hm, fun d n' v H' F' p a r => hq d n' v H' F' p a r.bw⟩⟩
/-- a new list, frozen -/
theorem E2.fz {X : Cx} {e : Expr} {m : EM} (h : E2 X .nw e m) : E2 X .fz e m := ⟨pe_weak h.pe fun σ H Q ⟨A, τ, n, F, P, eK, R, hm, hq⟩ => ⟨A, τ, n, F, P, eK, R, hm, fun d n' v H' F' p a r => by
  obtain ⟨F2, h1, h2, h3, h4⟩ := nw_fz a.sub r
  exact hq d n' v H' F2 p ⟨a.keep, fun c hc => (h1 c hc).trans (a.old c hc), h2, a.box⟩ h4⟩⟩

/-! ### names, constants -/
def mVar (i : Nat) : EM := fun τ n Q => ∃ x, τ[i]? = some (some (.d x)) ∧ Q x n
def mVarO (i : Nat) : EM := fun τ n Q => ∃ xs, τ[i]? = some (some (.ow xs)) ∧ Q (.list xs) n
def mC (d : D) : EM := fun _ n Q => Q d n
section
variable {X : Cx}
theorem e_var {i : Nat} {e : Expr} (h : PE X e (tVar i)) : E2 X .fz e (mVar i) := ⟨pe_weak h fun σ H Q ⟨A, τ, n, F, P, eK, R, ⟨x, e, p⟩, hq⟩ => by
  obtain ⟨v, e1, e2⟩ := R.sl i _ e
  refine ⟨v, e1, hq x n v H F p (Adv.refl R.same R.box) ?_⟩
  rw [← eK]
  exact e2⟩
theorem e_varO {i : Nat} {e : Expr} (h : PE X e (tVar i)) : E2 X .bw e (mVarO i) := ⟨pe_weak h fun σ H Q ⟨A, τ, n, F, P, eK, R, ⟨x, e, p⟩, hq⟩ => by
  obtain ⟨v, e1, e2⟩ := R.sl i _ e
  refine ⟨v, e1, hq _ n v H F p (Adv.refl R.same R.box) ?_⟩
  obtain ⟨a, vs, ev, _, _, h1, h2⟩ := e2
  exact .inr ⟨a, vs, x, rfl, ev, h1, eK ▸ h2⟩⟩
theorem e_c {e : Expr} {v : V} {d : D} (h : PE X e (tC v)) (r : ∀ F, Dp X.K F v d) : E2 X .fz e (mC d) := ⟨pe_weak h fun σ H Q ⟨A, τ, n, F, P, eK, R, p, hq⟩ => hq d n v H F p (Adv.refl R.same R.box) (r F)⟩
theorem e_int {i j pos} : E2 X .fz (.Constant (.int i) j pos) (mC (.int i)) := e_c pe_int fun _ => .int i
theorem e_bl {b j pos} : E2 X .fz (.Constant (.bool b) j pos) (mC (.bool b)) := e_c pe_bl fun _ => .bl b
theorem e_non {j pos} : E2 X .fz (.Constant .none j pos) (mC .none) := e_c pe_non fun _ => .non
theorem e_str {x j pos} : E2 X .fz (.Constant (.str x) j pos) (mC (.str x)) := e_c pe_str fun _ => .str x

/-! ### sequencing -/
theorem tE_run {K : PySem.W.Frag} {k : Kd} {m : EM} {A : Act} {τ : Ev} {n : Nat} {σ : L2.St} {H F : Hp} {Q : VK} (eK : A.K = K) (R : Rel A τ n σ H F) {P : D → Nat → Prop} (hm : m τ n P)
    (hq : ∀ d n' v H' F', P d n' → Adv A.bx n n' H F H' F' → RepK K k H H' F' v d → Q v H') : tE K k m σ H Q := ⟨A, τ, n, F, P, eK, R, hm, hq⟩

/-! ### two operands, a plain answer -/
abbrev Op1 := D → (D → Prop) → Prop
abbrev Op2 := D → D → (D → Prop) → Prop
abbrev OpN := List D → (D → Prop) → Prop
def m1 (f : Op1) (ma : EM) : EM := fun τ n Q => ma τ n fun x n1 => f x fun d => Q d n1
def m2 (f : Op2) (ma mb : EM) : EM := fun τ n Q => ma τ n fun x n1 => mb τ n1 fun y n2 => f x y fun d => Q d n2
/-- a reading of values does what f does to data -/
def Does2 (K : PySem.W.Frag) (k : Kd) (f : Op2) (r : R2) : Prop := ∀ (H F : Hp) (vx vy : V) (x y : D) (P : D → Prop) (Q : VK), Same F H → RepK K .bw H H F vx x → RepK K .bw H H F vy y → f x y P →
  (∀ d v H' F', P d → PAdv H F H' F' → RepK K k H H' F' v d → Q v H') → r vx vy H Q
def Does1 (K : PySem.W.Frag) (k : Kd) (f : Op1) (r : V → Hp → VK → Prop) : Prop := ∀ (H F : Hp) (vx : V) (x : D) (P : D → Prop) (Q : VK), Same F H → RepK K .bw H H F vx x → f x P →
  (∀ d v H' F', P d → PAdv H F H' F' → RepK K k H H' F' v d → Q v H') → r vx H Q
theorem RepK.h0 {K : PySem.W.Frag} {k : Kd} {H1 H2 H F : Hp} {v : V} {d : D} (s : ∀ a, H2 a = none → H1 a = none) (h : RepK K k H2 H F v d) : RepK K k H1 H F v d := by
  cases k with
  | fz => exact h
  | nw =>
    obtain ⟨a, vs, xs, e1, e2, h0, h1⟩ := h
    exact ⟨a, vs, xs, e1, e2, s a h0, h1⟩
  | bw => exact h
  | nn k =>
    obtain ⟨h1, fp, h2⟩ := h
    exact ⟨h1, fp, h2.mono (fun a _ z => s a z) fun _ _ => rfl⟩
theorem Adv.none_back {bx : Option Addr} {n n' : Nat} {H F H' F' : Hp} (a : Adv bx n n' H F H' F') (c : Addr) (h : H' c = none) : H c = none := by
  cases e : H c with
  | none => rfl
  | some o =>
    by_cases x : bx = some c
    · rw [a.box c x] at h; cases h
    · rw [a.keep c o e x] at h; cases h
theorem tOp_m2 {K : PySem.W.Frag} {k : Kd} {f : Op2} {r : R2} {ma mb : EM} (hf : Does2 K k f r) {σ : L2.St} {H : Hp} {Q : VK} (h : tE K k (m2 f ma mb) σ H Q) : tOp r (tE K .bw ma) (tE K .bw mb) σ H Q := by
  obtain ⟨A, τ, n, F, P, eK, R, hm, hq⟩ := h
  refine tE_run eK R hm fun x n1 v1 H1 F1 p1 a1 r1 => ?_
  refine tE_run eK (R.step a1) p1 fun y n2 v2 H2 F2 p2 a2 r2 => ?_
  have a12 := a1.trans a2
  have R2 := R.step a12
  refine hf H2 F2 v1 v2 x y _ _ R2.same (bw_adv (H0 := H2) r1 a2 (R.step a1).same (R.step a1).box) r2 p2 fun d v H3 F3 p3 a3 r3 => ?_
  exact hq d n2 v H3 F3 p3 (a12.trans (a3.adv R2.box)) (r3.h0 fun a h => a12.none_back a h)
end
end TL
set_option Elab.async false
set_option linter.all false
set_option maxRecDepth 100000
set_option maxHeartbeats 4000000
namespace TL
open PySem PySem.Spec PyProof.Rows L2
section
variable {X : Cx} {K : PySem.W.Frag}

/-! ### new objects -/
theorem new_tup {H F : Hp} {p : Addr} {o : Obj} {vs : List V} {ds : List D} (s : Same F H) (hp : H p = none) (ho : o.dict = none) (h : DpAll K F vs ds) : PAdv H F (upd H p (kT o vs)) (upd F p (kT o vs)) ∧ Dp K (upd F p (kT o vs)) (.ref p) (.tuple ds) := by
  have a : PAdv H F (upd H p (kT o vs)) (upd F p (kT o vs)) := PAdv.new s hp
  exact ⟨a, .tup (.inl ⟨o, upd_same, ho⟩) (dp_monoAll (a.fro s) ds vs h)⟩
theorem new_raw {H F : Hp} {p : Addr} {x y : V} {d e : D} (s : Same F H) (hp : H p = none) (h1 : Dp K F x d) (h2 : Dp K F y e) : PAdv H F (upd H p (.tup [x, y])) (upd F p (.tup [x, y])) ∧ Dp K (upd F p (.tup [x, y])) (.ref p) (rawP d e) := by
  have a : PAdv H F (upd H p (.tup [x, y])) (upd F p (.tup [x, y])) := PAdv.new s hp
  exact ⟨a, .raw (.inl (.inl upd_same)) (dp_mono (a.fro s) d x h1) (dp_mono (a.fro s) e y h2)⟩
theorem new_lst {H F : Hp} {p : Addr} {vs : List V} {ds : List D} (s : Same F H) (hp : H p = none) (h : DpAll K F vs ds) : PAdv H F (upd H p (.lst vs)) (upd F p (.lst vs)) ∧ Dp K (upd F p (.lst vs)) (.ref p) (.list ds) := by
  have a : PAdv H F (upd H p (.lst vs)) (upd F p (.lst vs)) := PAdv.new s hp
  exact ⟨a, .lst (.inl (.inl upd_same)) (dp_monoAll (a.fro s) ds vs h)⟩
theorem new_nw {H F : Hp} {p : Addr} {vs : List V} {ds : List D} (s : Same F H) (hp : H p = none) (h : DpAll K F vs ds) : PAdv H F (upd H p (.lst vs)) F ∧ RepK K .nw H (upd H p (.lst vs)) F (.ref p) (.list ds) := by
  refine ⟨PAdv.new' s hp, p, vs, ds, rfl, rfl, hp, ?_, upd_same, h⟩
  cases e : F p with
  | none => rfl
  | some o => rw [s p o e] at hp; cases hp

/-! ### operators -/
variable {a b c : Expr} {ma mb mc : EM} {pos : Pos}
theorem e_bin {op : Operator} {r : R2} {k : Kd} {f : Op2} (ho : OpR X (binaryOp op) r) (hf : Does2 X.K k f r) (ha : E2 X .bw a ma) (hb : E2 X .bw b mb) : E2 X k (.BinOp a op b pos) (m2 f ma mb) :=
  ⟨pe_weak (pe_op ho ha.pe hb.pe) fun _ _ _ h => tOp_m2 hf h⟩
theorem e_cmp {op : CmpOp} {r : R2} {f : Op2} (ho : OpR X (compareOp op) r) (hf : Does2 X.K .fz f r) (ha : E2 X .bw a ma) (hb : E2 X .bw b mb) (hm : behindInMarks op b = false) : E2 X .fz (.Compare a [op] [b] pos) (m2 f ma mb) :=
  ⟨pe_weak (pe_cmpR ho ha.pe hb.pe hm) fun _ _ _ h => tOp_m2 hf h⟩
/-- a test of a value that is a truth -/
def mT (m : EM) : CM := fun τ n Q => m τ n fun d n' => ∃ b, d = .bool b ∧ Q b n'
theorem tT_mT {k : Kd} {m : EM} {σ : L2.St} {H : Hp} {Q : Bool → Hp → Prop} (h : tT K (mT m) σ H Q) : tE K k m σ H fun x H1 => ∃ c, x = .bl c ∧ Q c H1 := by
  obtain ⟨A, τ, n, F, P, eK, R, hm, hq⟩ := h
  refine ⟨A, τ, n, F, _, eK, R, hm, ?_⟩
  rintro d n' v H' F' ⟨b, rfl, p⟩ a r
  exact ⟨b, bw_bool r.bw, hq b n' H' F' p a⟩
theorem t_cmp {op : CmpOp} {r : R2} {f : Op2} (ho : OpR X (compareOp op) r) (hf : Does2 X.K .fz f r) (ha : E2 X .bw a ma) (hb : E2 X .bw b mb) (hm : behindInMarks op b = false) : T2 X (.Compare a [op] [b] pos) (mT (m2 f ma mb)) :=
  ⟨pt_weak (pt_cmpR ho ha.pe hb.pe hm) fun _ _ _ h => tOp_m2 hf (tT_mT h)⟩
theorem t_val (h : E2 X .fz a ma) (he : ∀ whole, isTrue a X.env whole = (do let v ← whole; standAt a.pos; holding [v] (truthy v)) := by intro _; rfl) : T2 X a (mT ma) :=
  ⟨pt_weak (pt_val h.pe he) fun _ _ _ h => tT_mT h⟩
/-- truth of any value -/
def dTruth (d : D) (b : Bool) : Prop := match d with
  | .none => b = false
  | .bool c => b = c
  | .int i => b = (i != 0)
  | .list xs => b = !xs.isEmpty
  | .tuple xs => b = !xs.isEmpty
  | _ => False
def mTr (m : EM) : CM := fun τ n Q => m τ n fun d n' => ∃ b, dTruth d b ∧ Q b n'
theorem t_truth (h : E2 X .bw a ma) (he : ∀ whole, isTrue a X.env whole = (do let v ← whole; standAt a.pos; holding [v] (truthy v)) := by intro _; rfl) : T2 X a (mTr ma) := by
  refine ⟨pt_weak (pt_truth h.pe he) fun σ H Q ⟨A, τ, n, F, P, eK, R, hm, hq⟩ => ⟨A, τ, n, F, _, eK, R, hm, ?_⟩⟩
  rintro d n' v H' F' ⟨b, ht, p⟩ ad r
  refine ⟨b, ?_, hq b n' H' F' p ad⟩
  cases d with
  | none => cases bw_none r; exact ht
  | bool c => cases bw_bool r; exact ht
  | int i => cases bw_int r; exact ht
  | str x => exact ht.elim
  | dict x => exact ht.elim
  | list xs =>
    obtain ⟨q, vs, rfl, h1, h2⟩ := bw_list ad.sub r
    refine .inl ⟨vs, h1, ?_⟩
    rw [show b = !xs.isEmpty from ht]
    cases h2 <;> rfl
  | tuple xs =>
    obtain ⟨q, vs, rfl, h1, h2⟩ := bw_tup ad.sub r
    refine .inr (.inl ⟨vs, h1, ?_⟩)
    rw [show b = !xs.isEmpty from ht]
    cases h2 <;> rfl

/-! ### and, or, not, if -/
variable {ca cb : CM} {rest : List Expr}
def cAnd (a b : CM) : CM := fun τ n Q => a τ n fun c n1 => if c = true then b τ n1 Q else Q false n1
def cOr (a b : CM) : CM := fun τ n Q => a τ n fun c n1 => if c = true then Q true n1 else b τ n1 Q
def cNot (a : CM) : CM := fun τ n Q => a τ n fun c n1 => Q (!c) n1
def mAnd (a b : EM) : EM := fun τ n Q => a τ n fun d n1 => ∃ c, d = .bool c ∧ if c = true then b τ n1 Q else Q (.bool false) n1
def mOr (a b : EM) : EM := fun τ n Q => a τ n fun d n1 => ∃ c, d = .bool c ∧ if c = true then Q (.bool true) n1 else b τ n1 Q
def mNot (a : EM) : EM := fun τ n Q => a τ n fun d n1 => ∃ c, d = .bool c ∧ Q (.bool (!c)) n1
def mIf (c : CM) (a b : EM) : EM := fun τ n Q => c τ n fun b' n1 => if b' = true then a τ n1 Q else b τ n1 Q
/-- a test of and, or -/
structure W2 (X : Cx) (e : Expr) (m : CM) : Prop where
  pw : PW X e (tT X.K m)
theorem W2.t (h : W2 X a ca) : T2 X a ca := ⟨h.pw.pt⟩
theorem pw_weak {e : Expr} {t t' : TT} (h : PW X e t) (w : ∀ σ H Q, t' σ H Q → t σ H Q) : PW X e t' := ⟨fun wh pins s σ H Q I q => h.run wh pins s σ H Q I (w σ H Q q)⟩
theorem w_and1 (ha : T2 X a ca) : W2 X (.BoolOp .And [a] pos) ca := ⟨pw_and1 ha.pt⟩
theorem w_or1 (ha : T2 X a ca) : W2 X (.BoolOp .Or [a] pos) ca := ⟨pw_or1 ha.pt⟩
theorem tT_go {m : CM} {A : Act} {τ : Ev} {n : Nat} {σ : L2.St} {H F : Hp} {Q : Bool → Hp → Prop} (eK : A.K = K) (R : Rel A τ n σ H F) {P : Bool → Nat → Prop} (hm : m τ n P)
    (hq : ∀ d n' H' F', P d n' → Adv A.bx n n' H F H' F' → Q d H') : tT K m σ H Q := ⟨A, τ, n, F, P, eK, R, hm, hq⟩
theorem w_and (ha : T2 X a ca) (hb : W2 X (.BoolOp .And (b :: rest) pos) cb) : W2 X (.BoolOp .And (a :: b :: rest) pos) (cAnd ca cb) := by
  refine ⟨pw_weak (pw_and ha.pt hb.pw) fun σ H Q ⟨A, τ, n, F, P, eK, R, hm, hq⟩ => tT_go eK R hm fun d n1 H1 F1 p1 a1 => ?_⟩
  cases d with
  | true => exact iteT (tT_go eK (R.step a1) (by simpa using p1) fun d n2 H2 F2 p2 a2 => hq d n2 H2 F2 p2 (a1.trans a2))
  | false => exact iteF (hq false n1 H1 F1 (by simpa using p1) a1)
theorem w_or (ha : T2 X a ca) (hb : W2 X (.BoolOp .Or (b :: rest) pos) cb) : W2 X (.BoolOp .Or (a :: b :: rest) pos) (cOr ca cb) := by
  refine ⟨pw_weak (pw_or ha.pt hb.pw) fun σ H Q ⟨A, τ, n, F, P, eK, R, hm, hq⟩ => tT_go eK R hm fun d n1 H1 F1 p1 a1 => ?_⟩
  cases d with
  | false => exact iteF (tT_go eK (R.step a1) (by simpa using p1) fun d n2 H2 F2 p2 a2 => hq d n2 H2 F2 p2 (a1.trans a2))
  | true => exact iteT (hq true n1 H1 F1 (by simpa using p1) a1)
theorem t_not (ha : T2 X a ca) : T2 X (.UnaryOp .Not a pos) (cNot ca) :=
  ⟨pt_weak (pt_not ha.pt) fun σ H Q ⟨A, τ, n, F, P, eK, R, hm, hq⟩ => tT_go eK R hm fun d n1 H1 F1 p1 a1 => hq (!d) n1 H1 F1 p1 a1⟩
theorem e_one {op} {k : Kd} (h : E2 X k a ma) : E2 X k (.BoolOp op [a] pos) ma := ⟨pe_one h.pe⟩
theorem e_and (ha : E2 X .fz a ma) (hb : E2 X .fz (.BoolOp .And (b :: rest) pos) mb) : E2 X .fz (.BoolOp .And (a :: b :: rest) pos) (mAnd ma mb) := by
  refine ⟨pe_weak (pe_and ha.pe hb.pe) fun σ H Q ⟨A, τ, n, F, P, eK, R, hm, hq⟩ => tE_run eK R hm ?_⟩
  rintro d n1 v H1 F1 ⟨c, rfl, p1⟩ a1 r1
  refine ⟨c, bw_bool r1.bw, ?_⟩
  cases c with
  | true => exact iteT (tE_run eK (R.step a1) (by simpa using p1) fun d n2 v H2 F2 p2 a2 r2 => hq d n2 v H2 F2 p2 (a1.trans a2) r2)
  | false => exact iteF (hq (.bool false) n1 _ H1 F1 (by simpa using p1) a1 (.bl false))
theorem e_or (ha : E2 X .fz a ma) (hb : E2 X .fz (.BoolOp .Or (b :: rest) pos) mb) : E2 X .fz (.BoolOp .Or (a :: b :: rest) pos) (mOr ma mb) := by
  refine ⟨pe_weak (pe_or ha.pe hb.pe) fun σ H Q ⟨A, τ, n, F, P, eK, R, hm, hq⟩ => tE_run eK R hm ?_⟩
  rintro d n1 v H1 F1 ⟨c, rfl, p1⟩ a1 r1
  refine ⟨c, bw_bool r1.bw, ?_⟩
  cases c with
  | false => exact iteF (tE_run eK (R.step a1) (by simpa using p1) fun d n2 v H2 F2 p2 a2 r2 => hq d n2 v H2 F2 p2 (a1.trans a2) r2)
  | true => exact iteT (hq (.bool true) n1 _ H1 F1 (by simpa using p1) a1 (.bl true))
theorem e_not (ha : E2 X .fz a ma) : E2 X .fz (.UnaryOp .Not a pos) (mNot ma) := by
  refine ⟨pe_weak (pe_not ha.pe) fun σ H Q ⟨A, τ, n, F, P, eK, R, hm, hq⟩ => tE_run eK R hm ?_⟩
  rintro d n1 v H1 F1 ⟨c, rfl, p1⟩ a1 r1
  exact ⟨c, bw_bool r1.bw, hq _ n1 _ H1 F1 p1 a1 (.bl (!c))⟩
theorem e_if {k : Kd} (hc : T2 X c ca) (ha : E2 X k a ma) (hb : E2 X k b mb) : E2 X k (.IfExp c a b pos) (mIf ca ma mb) := by
  refine ⟨pe_weak (pe_ifExp hc.pt ha.pe hb.pe) fun σ H Q ⟨A, τ, n, F, P, eK, R, hm, hq⟩ => tT_go eK R hm fun d n1 H1 F1 p1 a1 => ?_⟩
  cases d with
  | true => exact iteT (tE_run eK (R.step a1) (by simpa using p1) fun d n2 v H2 F2 p2 a2 r2 => hq d n2 v H2 F2 p2 (a1.trans a2) (r2.h0 fun c h => a1.none_back c h))
  | false => exact iteF (tE_run eK (R.step a1) (by simpa using p1) fun d n2 v H2 F2 p2 a2 r2 => hq d n2 v H2 F2 p2 (a1.trans a2) (r2.h0 fun c h => a1.none_back c h))

/-! ### ints -/
def dI2 (g : Int → Int → D) : Op2 := fun x y P => ∃ i j, x = .int i ∧ y = .int j ∧ P (g i j)
def dI2c (C : Int → Int → Prop) (g : Int → Int → D) : Op2 := fun x y P => ∃ i j, x = .int i ∧ y = .int j ∧ C i j ∧ P (g i j)
theorem does_I0 {g : Int → Int → D} {gv : Int → Int → V} (hg : ∀ i j F, Dp K F (gv i j) (g i j)) : Does2 K .fz (dI2 g) (rI0 gv) := by
  rintro H F vx vy x y P Q s rx ry ⟨i, j, rfl, rfl, p⟩ hq
  exact ⟨i, j, bw_int rx, bw_int ry, hq _ _ H F p (PAdv.refl s) (hg i j F)⟩
theorem does_I {C : Int → Int → Prop} {g : Int → Int → D} {gv : Int → Int → V} (hg : ∀ i j F, Dp K F (gv i j) (g i j)) : Does2 K .fz (dI2c C g) (rI C gv) := by
  rintro H F vx vy x y P Q s rx ry ⟨i, j, rfl, rfl, c, p⟩ hq
  exact ⟨i, j, bw_int rx, bw_int ry, c, hq _ _ H F p (PAdv.refl s) (hg i j F)⟩
abbrev dAdd : Op2 := dI2 fun i j => .int (i + j)
abbrev dSub : Op2 := dI2 fun i j => .int (i - j)
abbrev dMul : Op2 := dI2c IntMulOk fun i j => .int (i * j)
abbrev dDiv : Op2 := dI2c CDivW fun i j => .int (i / j)
abbrev dMod : Op2 := dI2c (fun _ j => 0 < j) fun i j => .int (i % j)
def CPowB (i j : Int) : Prop := 0 ≤ j ∧ (Builtin.Int.intBits i : Int) * j ≤ 2 ^ 27
abbrev dPow : Op2 := dI2c CPowB fun i j => .int (i ^ j.toNat)
abbrev dLt : Op2 := dI2 fun i j => .bool (decide (i < j))
abbrev dLe : Op2 := dI2 fun i j => .bool (decide (i ≤ j))
abbrev dGt : Op2 := dI2 fun i j => .bool (decide (j < i))
abbrev dGe : Op2 := dI2 fun i j => .bool (decide (j ≤ i))
theorem e_add (ha : E2 X .bw a ma) (hb : E2 X .bw b mb) : E2 X .fz (.BinOp a .Add b pos) (m2 dAdd ma mb) := e_bin op_add (does_I0 fun _ _ _ => .int _) ha hb
theorem e_sub (ha : E2 X .bw a ma) (hb : E2 X .bw b mb) : E2 X .fz (.BinOp a .Sub b pos) (m2 dSub ma mb) := e_bin op_sub (does_I0 fun _ _ _ => .int _) ha hb
theorem op_mulO : OpR X (binaryOp .Mult) (rI IntMulOk fun i j => .int (i * j)) := opI fun _ _ _ _ _ _ _ hc q => mul_int q hc
theorem e_mul (ha : E2 X .bw a ma) (hb : E2 X .bw b mb) : E2 X .fz (.BinOp a .Mult b pos) (m2 dMul ma mb) := e_bin op_mulO (does_I fun _ _ _ => .int _) ha hb
theorem e_div (ha : E2 X .bw a ma) (hb : E2 X .bw b mb) : E2 X .fz (.BinOp a .FloorDiv b pos) (m2 dDiv ma mb) := e_bin op_fdivW (does_I fun _ _ _ => .int _) ha hb
theorem e_mod (ha : E2 X .bw a ma) (hb : E2 X .bw b mb) : E2 X .fz (.BinOp a .Mod b pos) (m2 dMod ma mb) := e_bin op_mod (does_I fun _ _ _ => .int _) ha hb
theorem op_powB : OpR X (binaryOp .Pow) (rI CPowB fun i j => .int (i ^ j.toNat)) := opI fun _ _ _ _ _ _ _ hc q => PyProof.Rows.pow_int hc.1 hc.2 q
theorem e_pow (ha : E2 X .bw a ma) (hb : E2 X .bw b mb) : E2 X .fz (.BinOp a .Pow b pos) (m2 dPow ma mb) := e_bin op_powB (does_I fun _ _ _ => .int _) ha hb
theorem e_lt (ha : E2 X .bw a ma) (hb : E2 X .bw b mb) : E2 X .fz (.Compare a [.Lt] [b] pos) (m2 dLt ma mb) := e_cmp op_lt (does_I0 fun _ _ _ => .bl _) ha hb (nomark _)
theorem e_le (ha : E2 X .bw a ma) (hb : E2 X .bw b mb) : E2 X .fz (.Compare a [.LtE] [b] pos) (m2 dLe ma mb) := e_cmp op_le (does_I0 fun _ _ _ => .bl _) ha hb (nomark _)
theorem e_gt (ha : E2 X .bw a ma) (hb : E2 X .bw b mb) : E2 X .fz (.Compare a [.Gt] [b] pos) (m2 dGt ma mb) := e_cmp op_gt (does_I0 fun _ _ _ => .bl _) ha hb (nomark _)
theorem e_ge (ha : E2 X .bw a ma) (hb : E2 X .bw b mb) : E2 X .fz (.Compare a [.GtE] [b] pos) (m2 dGe ma mb) := e_cmp op_ge (does_I0 fun _ _ _ => .bl _) ha hb (nomark _)
theorem t_lt (ha : E2 X .bw a ma) (hb : E2 X .bw b mb) : T2 X (.Compare a [.Lt] [b] pos) (mT (m2 dLt ma mb)) := t_cmp op_lt (does_I0 fun _ _ _ => .bl _) ha hb (nomark _)
theorem t_le (ha : E2 X .bw a ma) (hb : E2 X .bw b mb) : T2 X (.Compare a [.LtE] [b] pos) (mT (m2 dLe ma mb)) := t_cmp op_le (does_I0 fun _ _ _ => .bl _) ha hb (nomark _)
theorem t_gt (ha : E2 X .bw a ma) (hb : E2 X .bw b mb) : T2 X (.Compare a [.Gt] [b] pos) (mT (m2 dGt ma mb)) := t_cmp op_gt (does_I0 fun _ _ _ => .bl _) ha hb (nomark _)
theorem t_ge (ha : E2 X .bw a ma) (hb : E2 X .bw b mb) : T2 X (.Compare a [.GtE] [b] pos) (mT (m2 dGe ma mb)) := t_cmp op_ge (does_I0 fun _ _ _ => .bl _) ha hb (nomark _)
def dNeg : Op1 := fun x P => ∃ i, x = .int i ∧ P (.int (-i))
theorem e_neg (ha : E2 X .bw a ma) : E2 X .fz (.UnaryOp .USub a pos) (m1 dNeg ma) := by
  refine ⟨pe_weak (pe_un un_neg ha.pe) fun σ H Q ⟨A, τ, n, F, P, eK, R, hm, hq⟩ => tE_run eK R hm ?_⟩
  rintro d n1 v H1 F1 ⟨i, rfl, p⟩ a1 r1
  exact ⟨i, bw_int r1, hq _ n1 _ H1 F1 p a1 (.int _)⟩

/-! ### equality of data -/
def dEq : Op2 := fun x y P => (SeqAt.shaped x = true ∧ SeqAt.shaped y = true) ∧ P (.bool (PyData.eqv x y))
def dNe : Op2 := fun x y P => (SeqAt.shaped x = true ∧ SeqAt.shaped y = true) ∧ P (.bool (!PyData.eqv x y))
theorem does_eq : Does2 K .fz dEq (rEqD K) := by
  rintro H F vx vy x y P Q s rx ry ⟨⟨h1, h2⟩, p⟩ hq
  exact ⟨x, y, bw_l2 s (lay0_shaped h1) rx, bw_l2 s (lay0_shaped h2) ry, h1, h2, hq _ _ H F p (PAdv.refl s) (.bl _)⟩
theorem does_ne : Does2 K .fz dNe (rNeD K) := by
  rintro H F vx vy x y P Q s rx ry ⟨⟨h1, h2⟩, p⟩ hq
  exact ⟨x, y, bw_l2 s (lay0_shaped h1) rx, bw_l2 s (lay0_shaped h2) ry, h1, h2, hq _ _ H F p (PAdv.refl s) (.bl _)⟩
theorem e_eq {k : Nat} (hr : Room k X.A) (ha : E2 X .bw a ma) (hb : E2 X .bw b mb) : E2 X .fz (.Compare a [.Eq] [b] pos) (m2 dEq ma mb) := e_cmp (op_eqD hr.units) does_eq ha hb (nomark _)
theorem e_ne {k : Nat} (hr : Room k X.A) (ha : E2 X .bw a ma) (hb : E2 X .bw b mb) : E2 X .fz (.Compare a [.NotEq] [b] pos) (m2 dNe ma mb) := e_cmp (op_neD hr.units) does_ne ha hb (nomark _)
theorem t_eq {k : Nat} (hr : Room k X.A) (ha : E2 X .bw a ma) (hb : E2 X .bw b mb) : T2 X (.Compare a [.Eq] [b] pos) (mT (m2 dEq ma mb)) := t_cmp (op_eqD hr.units) does_eq ha hb (nomark _)
theorem t_ne {k : Nat} (hr : Room k X.A) (ha : E2 X .bw a ma) (hb : E2 X .bw b mb) : T2 X (.Compare a [.NotEq] [b] pos) (mT (m2 dNe ma mb)) := t_cmp (op_neD hr.units) does_ne ha hb (nomark _)
/-- is None -/
def isN : D → Bool
  | .none => true
  | _ => false
def dIsN : Op1 := fun x P => P (.bool (isN x))
theorem bw_isN {H0 H F : Hp} {v : V} {x : D} (r : RepK K .bw H0 H F v x) : decide (v = .non) = isN x := by
  rcases r with r | ⟨_, _, _, rfl, rfl, _⟩
  · cases r <;> simp [isN]
  · simp [isN]
theorem e_isN {j pos'} (ha : E2 X .bw a ma) : E2 X .fz (.Compare a [.Is] [.Constant .none j pos'] pos) (m1 dIsN ma) := by
  refine ⟨pe_weak (pe_cmp (pc_isN ha.pe) rfl) fun σ H Q ⟨A, τ, n, F, P, eK, R, hm, hq⟩ => tE_run eK R hm ?_⟩
  intro d n1 v H1 F1 p a1 r1
  rw [bw_isN r1]
  exact hq _ n1 _ H1 F1 p a1 (.bl _)
theorem t_isN {j pos'} (ha : E2 X .bw a ma) : T2 X (.Compare a [.Is] [.Constant .none j pos'] pos) (mT (m1 dIsN ma)) := by
  refine ⟨pt_weak (pt_cmp (pc_isN ha.pe) rfl) fun σ H Q h => ?_⟩
  obtain ⟨A, τ, n, F, P, eK, R, hm, hq⟩ := h
  refine tE_run eK R hm ?_
  rintro d n1 v H1 F1 ⟨b, e, p⟩ a1 r1
  rw [bw_isN r1]
  cases e
  exact ⟨_, rfl, hq _ n1 H1 F1 p a1⟩

/-! ### displays -/
def aNil : Ev → Nat → (List D → Nat → Prop) → Prop := fun _ n Q => Q [] n
def aCons (m : EM) (r : Ev → Nat → (List D → Nat → Prop) → Prop) : Ev → Nat → (List D → Nat → Prop) → Prop := fun τ n Q => m τ n fun d n1 => r τ n1 fun ds n2 => Q (d :: ds) n2
abbrev DM := Ev → Nat → (List D → Nat → Prop) → Prop
def tD (K : PySem.W.Frag) (m : DM) : TA := fun σ H Q => ∃ A τ n F P, A.K = K ∧ Rel A τ n σ H F ∧ m τ n P ∧ ∀ ds n' vs H' F', P ds n' → Adv A.bx n n' H F H' F' → DpAll K F' vs ds → Q vs H'
structure D2 (X : Cx) (es : List Expr) (m : DM) : Prop where
  pa : PA X es (tD X.K m)
theorem d_nil : D2 X [] aNil := ⟨pa_weak pa_nil fun σ H Q ⟨A, τ, n, F, P, eK, R, p, hq⟩ => hq [] n [] H F p (Adv.refl R.same R.box) .nil⟩
theorem d_cons {es : List Expr} {m : DM} (ha : E2 X .fz a ma) (hr : D2 X es m) (hs : starEach (a :: es) X.env = (false, eval a X.env) :: starEach es X.env := by rfl) : D2 X (a :: es) (aCons ma m) := by
  refine ⟨pa_weak (pa_cons ha.pe hr.pa hs) fun σ H Q ⟨A, τ, n, F, P, eK, R, hm, hq⟩ => tE_run eK R hm fun d n1 v H1 F1 p1 a1 r1 => ?_⟩
  refine ⟨A, τ, n1, F1, _, eK, R.step a1, p1, fun ds n2 vs H2 F2 p2 a2 r2 => ?_⟩
  exact hq (d :: ds) n2 (v :: vs) H2 F2 p2 (a1.trans a2) (.cons (dp_mono (a2.fro a1.sub) d v r1) r2)
def mTup (m : DM) : EM := fun τ n Q => m τ n fun ds n' => ds.length ≤ sizeLine ∧ Q (.tuple ds) n'
def mLst (m : DM) : EM := fun τ n Q => m τ n fun ds n' => ds.length ≤ sizeLine ∧ Q (.list ds) n'
theorem e_tup {es : List Expr} {m : DM} {x1} (h : D2 X es m) : E2 X .fz (.Tuple es x1 pos) (mTup m) := by
  refine ⟨pe_weak (pe_tupF h.pa) fun σ H Q ⟨A, τ, n, F, P, eK, R, hm, hq⟩ => ⟨A, τ, n, F, _, eK, R, hm, ?_⟩⟩
  rintro ds n' vs H' F' ⟨z, p⟩ a1 r
  refine ⟨by rw [dpAll_len r]; exact z, fun q o hp ho => ?_⟩
  obtain ⟨b1, b2⟩ := new_tup a1.sub hp ho r
  exact hq _ n' _ _ _ p (a1.trans (b1.adv (R.step a1).box)) b2
theorem e_lst {es : List Expr} {m : DM} (h : D2 X es m) : E2 X .nw (.List es pos) (mLst m) := by
  refine ⟨pe_weak (pe_lst h.pa) fun σ H Q ⟨A, τ, n, F, P, eK, R, hm, hq⟩ => ⟨A, τ, n, F, _, eK, R, hm, ?_⟩⟩
  rintro ds n' vs H' F' ⟨z, p⟩ a1 r
  refine ⟨by rw [dpAll_len r]; exact z, fun q hp => ?_⟩
  obtain ⟨b1, b2⟩ := new_nw a1.sub hp r
  exact hq _ n' _ _ _ p (a1.trans (b1.adv (R.step a1).box)) (b2.h0 fun c h => a1.none_back c h)

/-! ### items, slices -/
theorem dpAll_atI {F : Hp} {vs : List V} {ds : List D} {i : Int} {d : D} (h : DpAll K F vs ds) (e : atI ds i = some d) : ∃ v, atI vs i = some v ∧ Dp K F v d := by
  unfold atI at e ⊢
  rw [dpAll_len h]
  cases q : ixN ds.length i with
  | none => rw [q] at e; cases e
  | some j =>
    rw [q] at e
    exact dpAll_get (i := j) h (by simpa using e)
def dIx : Op2 := fun x y P => (∃ xs i d, x = .list xs ∧ y = .int i ∧ atI xs i = some d ∧ P d) ∨ (∃ xs i d, x = .tuple xs ∧ y = .int i ∧ atI xs i = some d ∧ P d) ∨
  ∃ z i c, x = .str z ∧ y = .int i ∧ z.length ≤ sizeLine ∧ atI z.cps.toList i = some c ∧ P (.str ⟨#[c]⟩)
theorem does_ix : Does2 K .fz dIx (rIx K) := by
  rintro H F vx vy x y P Q s rx ry (⟨xs, i, d, rfl, rfl, e, p⟩ | ⟨xs, i, d, rfl, rfl, e, p⟩ | ⟨z, i, c, rfl, rfl, hz, e, p⟩) hq
  · obtain ⟨l, vs, rfl, h1, h2⟩ := bw_list s rx
    obtain ⟨v, e2, h3⟩ := dpAll_atI h2 e
    exact .inl ⟨l, vs, i, v, rfl, bw_int ry, h1, e2, hq d v H F p (PAdv.refl s) h3⟩
  · obtain ⟨l, vs, rfl, h1, h2⟩ := bw_tup s rx
    obtain ⟨v, e2, h3⟩ := dpAll_atI h2 e
    exact .inr (.inl ⟨l, vs, i, v, rfl, bw_int ry, h1, e2, hq d v H F p (PAdv.refl s) h3⟩)
  · exact .inr (.inr ⟨z, i, c, bw_str rx, bw_int ry, hz, e, hq _ _ H F p (PAdv.refl s) (.str _)⟩)
theorem e_ix (ha : E2 X .bw a ma) (hb : E2 X .bw b mb) (hs : PlainIx b := by exact fun _ _ => rfl) : E2 X .fz (.Subscript a b pos) (m2 dIx ma mb) :=
  ⟨pe_weak (pe_ix ix_seq ha.pe hb.pe hs) fun _ _ _ h => tOp_m2 does_ix h⟩
/-- a slice's ends -/
abbrev OM := Ev → Nat → (Option Int → Nat → Prop) → Prop
def oNone : OM := fun _ n Q => Q none n
def oSome (m : EM) : OM := fun τ n Q => m τ n fun d n' => ∃ i, d = .int i ∧ Q (some i) n'
def tO (K : PySem.W.Frag) (m : OM) : TO := fun σ H Q => ∃ A τ n F P, A.K = K ∧ Rel A τ n σ H F ∧ m τ n P ∧ ∀ o n' H' F', P o n' → Adv A.bx n n' H F H' F' → Q o H'
structure O2 (X : Cx) (e : Option Expr) (m : OM) : Prop where
  po : PO X e (tO X.K m)
theorem po_weak {e : Option Expr} {t t' : TO} (h : PO X e t) (w : ∀ σ H Q, t' σ H Q → t σ H Q) : PO X e t' := ⟨fun pins s σ H Q I q => h.run pins s σ H Q I (w σ H Q q)⟩
theorem o_none : O2 X none oNone := ⟨po_weak po_none fun σ H Q ⟨A, τ, n, F, P, eK, R, p, hq⟩ => hq none n H F p (Adv.refl R.same R.box)⟩
theorem o_some (ha : E2 X .bw a ma) : O2 X (some a) (oSome ma) := by
  refine ⟨po_weak (po_some ha.pe) fun σ H Q ⟨A, τ, n, F, P, eK, R, hm, hq⟩ => tE_run eK R hm ?_⟩
  rintro d n1 v H1 F1 ⟨i, rfl, p⟩ a1 r1
  exact ⟨i, bw_int r1, hq _ n1 H1 F1 p a1⟩
def cutG {α : Type} (xs : List α) (lo hi : Option Int) : List α := (xs.drop (HT.sIx xs.length 0 lo)).take (HT.sIx xs.length xs.length hi - HT.sIx xs.length 0 lo)
theorem dpAll_cut {F : Hp} {vs : List V} {ds : List D} (h : DpAll K F vs ds) (lo hi : Option Int) : DpAll K F (cutV vs lo hi) (cutG ds lo hi) := by
  unfold cutV cutG
  rw [dpAll_len h]
  exact dpAll_take _ (dpAll_drop _ h)
theorem cutG_all {α : Type} {xs : List α} {lo hi : Option Int} (h : HT.sIx xs.length 0 lo = 0 ∧ HT.sIx xs.length xs.length hi = xs.length) : cutG xs lo hi = xs := by
  unfold cutG
  rw [h.1, h.2, List.drop_zero, Nat.sub_zero]
  exact List.take_length
def mSl (f : D → Option Int → Option Int → (D → Prop) → Prop) (ma : EM) (lo hi : OM) : EM := fun τ n Q => ma τ n fun x n1 => lo τ n1 fun l n2 => hi τ n2 fun u n3 => f x l u fun d => Q d n3
def dSlL : D → Option Int → Option Int → (D → Prop) → Prop := fun x lo hi P => ∃ xs, x = .list xs ∧ P (.list (cutG xs lo hi))
def dSlT : D → Option Int → Option Int → (D → Prop) → Prop := fun x lo hi P => ∃ xs, x = .tuple xs ∧ P (.tuple (cutG xs lo hi))
def dSl : D → Option Int → Option Int → (D → Prop) → Prop := fun x lo hi P => dSlT x lo hi P ∨ dSlL x lo hi P
def DoesSl (K : PySem.W.Frag) (k : Kd) (f : D → Option Int → Option Int → (D → Prop) → Prop) (r : V → Option Int → Option Int → Hp → VK → Prop) : Prop := ∀ (H F : Hp) (vx : V) (x : D) (l u : Option Int) (P : D → Prop) (Q : VK), Same F H → RepK K .bw H H F vx x → f x l u P →
  (∀ d v H' F', P d → PAdv H F H' F' → RepK K k H H' F' v d → Q v H') → r vx l u H Q
theorem e_slG {k : Kd} {f} {r : V → Option Int → Option Int → Hp → VK → Prop} {lo hi : Option Expr} {ml mh : OM} {p2 : Pos} (hr : SlR X r) (hf : DoesSl X.K k f r) (ha : E2 X .bw a ma) (hl : O2 X lo ml) (hh : O2 X hi mh) :
    E2 X k (.Subscript a (.Slice lo hi none p2) pos) (mSl f ma ml mh) := by
  refine ⟨pe_weak (pe_slice hr ha.pe hl.po hh.po) fun σ H Q ⟨A, τ, n, F, P, eK, R, hm, hq⟩ => tE_run eK R hm fun x n1 v1 H1 F1 p1 a1 r1 => ?_⟩
  refine ⟨A, τ, n1, F1, _, eK, R.step a1, p1, fun l n2 H2 F2 p2 a2 => ⟨A, τ, n2, F2, _, eK, R.step (a1.trans a2), p2, fun u n3 H3 F3 p3 a3 => ?_⟩⟩
  have a23 := a2.trans a3
  have a13 := a1.trans a23
  refine hf H3 F3 v1 x l u _ _ (R.step a13).same (bw_adv (H0 := H3) r1 a23 (R.step a1).same (R.step a1).box) p3 fun d v H4 F4 p4 a4 r4 => ?_
  exact hq d n3 v H4 F4 p4 (a13.trans (a4.adv (R.step a13).box)) (r4.h0 fun c h => a13.none_back c h)
theorem does_slL : DoesSl K .nw dSlL (rSlL K) := by
  rintro H F vx x l u P Q s rx ⟨xs, rfl, p⟩ hq
  obtain ⟨q, vs, rfl, h1, h2⟩ := bw_list s rx
  refine ⟨q, vs, rfl, h1, fun a hp => ?_⟩
  obtain ⟨b1, b2⟩ := new_nw s hp (dpAll_cut h2 l u)
  exact hq _ _ _ _ p b1 b2
theorem does_slT : DoesSl K .fz dSlT (rSlF K) := by
  rintro H F vx x l u P Q s rx ⟨xs, rfl, p⟩ hq
  have rx' := rx
  obtain ⟨q, vs, rfl, h1, h2⟩ := bw_tup s rx
  refine ⟨q, vs, rfl, h1, fun hw => ?_, fun _ a o hp ho => ?_⟩
  · rw [dpAll_len h2] at hw
    rw [cutG_all hw] at p
    refine hq _ _ H F p (PAdv.refl s) ?_
    rcases rx' with z | ⟨_, _, _, e, _⟩
    · exact z
    · cases e
  · obtain ⟨b1, b2⟩ := new_tup s hp ho (dpAll_cut h2 l u)
    exact hq _ _ _ _ p b1 b2
theorem e_slL {lo hi : Option Expr} {ml mh : OM} {p2 : Pos} (ha : E2 X .bw a ma) (hl : O2 X lo ml) (hh : O2 X hi mh) : E2 X .nw (.Subscript a (.Slice lo hi none p2) pos) (mSl dSlL ma ml mh) := e_slG sl_list does_slL ha hl hh
theorem e_slT {lo hi : Option Expr} {ml mh : OM} {p2 : Pos} (ha : E2 X .bw a ma) (hl : O2 X lo ml) (hh : O2 X hi mh) : E2 X .fz (.Subscript a (.Slice lo hi none p2) pos) (mSl dSlT ma ml mh) := e_slG sl_tupF does_slT ha hl hh
theorem does_fz {f} {r : V → Option Int → Option Int → Hp → VK → Prop} (h : DoesSl K .nw f r) : DoesSl K .fz f r := by
  intro H F vx x l u P Q s rx p hq
  refine h H F vx x l u P Q s rx p fun d v H' F' pd a r => ?_
  obtain ⟨F2, h1, h2, h3, h4⟩ := nw_fz a.sub r
  exact hq d v H' F2 pd ⟨a.keep, fun c hc => (h1 c hc).trans (a.old c hc), h2⟩ h4
theorem e_sl {lo hi : Option Expr} {ml mh : OM} {p2 : Pos} (ha : E2 X .bw a ma) (hl : O2 X lo ml) (hh : O2 X hi mh) : E2 X .fz (.Subscript a (.Slice lo hi none p2) pos) (mSl dSl ma ml mh) :=
  e_slG (sl_tupF.or sl_list) (fun H F vx x l u P Q s rx p hq => p.elim (fun p => .inl (does_slT H F vx x l u P Q s rx p hq)) fun p => .inr (does_fz does_slL H F vx x l u P Q s rx p hq)) ha hl hh
end
end TL
set_option Elab.async false
set_option linter.all false
set_option maxRecDepth 100000
set_option maxHeartbeats 4000000
namespace TL
open PySem PySem.Spec PyProof.Rows L2
section
variable {X : Cx} {K : PySem.W.Frag}

/-! ### names are stored -/
def slOf : Kd → D → Sl
  | .nw, .list xs => .ow xs
  | _, d => .d d
theorem Rel.h0some {A : Act} {τ : Ev} {n : Nat} {σ : L2.St} {H F : Hp} (R : Rel A τ n σ H F) {a : Addr} (h : H a = none) : A.H0 a = none := by
  cases e : A.H0 a with
  | none => rfl
  | some o =>
    by_cases x : A.bx = some a
    · rw [R.box a x] at h; cases h
    · rw [R.adv.keep a o e x] at h; cases h
/-- an own slot's thing stands in the heap -/
theorem Rel.own {A : Act} {τ : Ev} {n : Nat} {σ : L2.St} {H F : Hp} (R : Rel A τ n σ H F) {j : Nat} {s : Sl} {b : Addr} (e1 : τ[j]? = some (some s)) (e0 : s.own = true) (e2 : At s σ[j]? b) :
    A.H0 b = none ∧ F b = none ∧ H b ≠ none := by
  obtain ⟨v, h1, h⟩ := R.sl j _ e1
  rcases e2 with e2 | e2
  case inr =>
    cases s with
    | nl as xss =>
      obtain ⟨_, _, _, _, _, _, hd⟩ := h
      obtain ⟨g1, g2, vs, g3⟩ := hd.mem e2
      exact ⟨g1, g2, by rw [g3]; exact fun z => nomatch z⟩
    | _ => cases e2
  rw [e2] at h1
  cases h1
  cases s with
  | nl as xss =>
    obtain ⟨c, e, nd, h0, hf, hl, hd⟩ := h
    cases e
    exact ⟨h0, hf, by rw [hl]; exact fun z => nomatch z⟩
  | d x => cases e0
  | box => cases e0
  | raw w => cases e0
  | dk w => cases e0
  | dt w => cases e0
  | ow xs =>
    obtain ⟨c, ws, e, h0, hf, hl, hd⟩ := h
    cases e
    exact ⟨h0, hf, by rw [hl]; exact fun z => nomatch z⟩
  | odk xs =>
    obtain ⟨c, ws, e, h0, hf, hl, hd⟩ := h
    cases e
    exact ⟨h0, hf, by rw [hl]; exact fun z => nomatch z⟩
  | odt xs =>
    obtain ⟨c, ws, e, h0, hf, hl, hd⟩ := h
    cases e
    exact ⟨h0, hf, by rw [hl]; exact fun z => nomatch z⟩
/-- a thing is stored at slot i -/
theorem Rel.setS {A : Act} {τ : Ev} {n : Nat} {σ : L2.St} {H F : Hp} {v : V} {s : Sl} (i : Nat) (R : Rel A τ n σ H F) (hsl : SlOk A H F s v)
    (ho : s.own = true → ∀ (j : Nat) (s' : Sl) (b : Addr), j ≠ i → τ[j]? = some (some s') → s'.own = true → At s' σ[j]? b → ¬ At s (some (some v)) b) : Rel A (τ.set i (some s)) n (σ.set i (some v)) H F := by
  refine ⟨R.ok, by rw [List.length_set, List.length_set]; exact R.len, R.adv, fun j s' e => ?_, fun j l a s1 s2 hjl e1 o1 e2 o2 e3 e4 => ?_⟩
  · by_cases z : j = i
    · subst z
      have hj : j < τ.length := by
        have := (List.getElem?_eq_some_iff.mp e).1
        rwa [List.length_set] at this
      rw [List.getElem?_set_self hj] at e
      cases e
      exact ⟨v, List.getElem?_set_self (by rw [← R.len]; exact hj), hsl⟩
    · rw [List.getElem?_set_ne (Ne.symm z)] at e
      obtain ⟨w, h1, h2⟩ := R.sl j s' e
      exact ⟨w, by rw [List.getElem?_set_ne (Ne.symm z)]; exact h1, h2⟩
  · by_cases zj : j = i
    · subst zj
      have hj : j < τ.length := by
        have := (List.getElem?_eq_some_iff.mp e1).1
        rwa [List.length_set] at this
      rw [List.getElem?_set_self hj] at e1
      rw [List.getElem?_set_self (by rw [← R.len]; exact hj)] at e3
      rw [List.getElem?_set_ne hjl] at e2 e4
      cases e1
      exact ho o1 l s2 a (Ne.symm hjl) e2 o2 e4 e3
    · rw [List.getElem?_set_ne (Ne.symm zj)] at e1 e3
      by_cases zl : l = i
      · subst zl
        have hl : l < τ.length := by
          have := (List.getElem?_eq_some_iff.mp e2).1
          rwa [List.length_set] at this
        rw [List.getElem?_set_self hl] at e2
        rw [List.getElem?_set_self (by rw [← R.len]; exact hl)] at e4
        cases e2
        exact ho o2 j s1 a zj e1 o1 e3 e4
      · rw [List.getElem?_set_ne (Ne.symm zl)] at e2 e4
        exact R.dis j l a s1 s2 hjl e1 o1 e2 o2 e3 e4
/-- a result is stored at slot i; Hs: the heap ahead of the result -/
theorem Rel.set {A : Act} {τ : Ev} {n : Nat} {σ : L2.St} {H F Hs : Hp} {k : Kd} {v : V} {d : D} (i : Nat) (R : Rel A τ n σ H F) (hk : k ≠ .bw) (hs : ∀ a, Hs a = none → A.H0 a = none)
    (ho : ∀ (j : Nat) (s : Sl) (b : Addr), j ≠ i → τ[j]? = some (some s) → s.own = true → At s σ[j]? b → Hs b ≠ none)
    (r : RepK A.K k Hs H F v d) : Rel A (τ.set i (some (slOf k d))) n (σ.set i (some v)) H F := by
  cases k with
  | fz => exact R.setS i r fun z => by cases z
  | nw =>
    obtain ⟨a, vs, xs, rfl, rfl, h0, hf, h1, h2⟩ := r
    exact R.setS i ⟨a, vs, rfl, hs a h0, hf, h1, h2⟩ fun _ j s b hj e1 e2 e3 e4 => by
      rcases e4 with e4 | e4
      · cases e4; exact ho j s a hj e1 e2 e3 h0
      · cases e4
  | bw => exact absurd rfl hk
  | nn k => exact R.setS i r.1 fun z => by cases z

/-! ### statements -/
theorem takesF {X : Cx} : Takes X (fun _ _ _ _ => False) := fun _ _ ⟨_, _, _, _, _, _, _, _, _, _, _, _, _, _, _, _, z⟩ => z.elim
structure En where
  nx : Ev → Nat → Prop
  rt : D → Nat → Prop
  bk : Ev → Nat → Prop := fun _ _ => False
  ct : Ev → Nat → Prop := fun _ _ => False
  xx : Ev → XE → Nat → Prop := fun _ _ _ => False
abbrev SM := En → Ev → Nat → Prop
structure EnOk (A : Act) (kr : Kd) (W : WX) (F : Hp) (E : En) (Dd : L2.Ends) : Prop where
  nx : ∀ τ n σ H F', E.nx τ n → Rel A τ n σ H F' → Same F F' → Dd.nx σ H
  bk : ∀ τ n σ H F', E.bk τ n → Rel A τ n σ H F' → Same F F' → Dd.bk σ H
  ct : ∀ τ n σ H F', E.ct τ n → Rel A τ n σ H F' → Same F F' → Dd.ct σ H
  rt : ∀ d n v H F', E.rt d n → Adv A.bx A.n0 n A.H0 A.F0 H F' → RepK A.K kr A.H0 H F' v d → Dd.rt v H
  xx : ∀ τ x n σ H F' cls dd, E.xx τ x n → Rel A τ n σ H F' → Same F F' → XRep A.K F' H x cls dd → W cls dd σ H
theorem EnOk.sub {A : Act} {kr : Kd} {W : WX} {F F2 : Hp} {E : En} {Dd : L2.Ends} (e : EnOk A kr W F E Dd) (s : Same F F2) : EnOk A kr W F2 E Dd :=
  ⟨fun τ n σ H F' p R q => e.nx τ n σ H F' p R (s.trans q), fun τ n σ H F' p R q => e.bk τ n σ H F' p R (s.trans q), fun τ n σ H F' p R q => e.ct τ n σ H F' p R (s.trans q), e.rt, fun τ x n σ H F' cls dd p R q => e.xx τ x n σ H F' cls dd p R (s.trans q)⟩
def tS (K : PySem.W.Frag) (kr : Kd) (W : WX) (m : SM) : TS := fun Dd σ H => ∃ A τ n F E, A.K = K ∧ Rel A τ n σ H F ∧ m E τ n ∧ EnOk A kr W F E Dd
structure S2 (X : Cx) (kr : Kd) (sts : List Stmt) (m : SM) : Prop where
  ps : ∀ W : WX, Takes X W → PSs X sts (tS X.K kr W m)
structure P2 (X : Cx) (kr : Kd) (st : Stmt) (m : SM) : Prop where
  ps : ∀ W : WX, Takes X W → PS X st (tS X.K kr W m)
theorem ps_weak {st : Stmt} {t t' : TS} (h : PS X st t) (w : ∀ Dd σ H, t' Dd σ H → t Dd σ H) : PS X st t' := ⟨fun pins s σ H Dd I q => h.run pins s σ H Dd I (w Dd σ H q)⟩
theorem pss_weak {st : List Stmt} {t t' : TS} (h : PSs X st t) (w : ∀ Dd σ H, t' Dd σ H → t Dd σ H) : PSs X st t' := ⟨fun pins s σ H Dd I q => h.run pins s σ H Dd I (w Dd σ H q)⟩
variable {kr : Kd} {st : Stmt} {rest : List Stmt} {m m' : SM} {a b : Expr} {ma mb : EM} {pos : Pos}
def sNext : SM := fun E τ n => E.nx τ n
def sSeq (m m' : SM) : SM := fun E τ n => m { E with nx := fun τ' n' => m' E τ' n' } τ n
theorem s_nil : S2 X kr [] sNext := ⟨fun Wx tk => pss_weak pss_nil fun Dd σ H ⟨A, τ, n, F, E, eK, R, p, e⟩ => e.nx τ n σ H F p R (Same.refl F)⟩
theorem s_cons (h : P2 X kr st m) (h' : S2 X kr rest m') : S2 X kr (st :: rest) (sSeq m m') :=
  ⟨fun Wx tk => pss_weak (pss_cons (h.ps Wx tk) (h'.ps Wx tk)) fun Dd σ H ⟨A, τ, n, F, E, eK, R, p, e⟩ => ⟨A, τ, n, F, _, eK, R, p, fun τ1 n1 σ1 H1 F1 p1 R1 s1 => ⟨A, τ1, n1, F1, E, eK, R1, p1, e.sub s1⟩, e.bk, e.ct, e.rt, e.xx⟩⟩
theorem s_one (h : P2 X kr st m) : S2 X kr [st] m := ⟨fun Wx tk => pss_one (h.ps Wx tk)⟩
/-- an owned list is frozen -/
def sFrz (i : Nat) (m : SM) : SM := fun E τ n => ∃ xs, τ[i]? = some (some (.ow xs)) ∧ m E (τ.set i (some (.d (.list xs)))) n
theorem Rel.frz {A : Act} {τ : Ev} {n : Nat} {σ : L2.St} {H F : Hp} (R : Rel A τ n σ H F) {i : Nat} {xs : List D} (e : τ[i]? = some (some (.ow xs))) : ∃ F', Same F F' ∧ Rel A (τ.set i (some (.d (.list xs)))) n σ H F' := by
  obtain ⟨v, h1, a, vs, rfl, h2, h3, h4, h5⟩ := R.sl i _ e
  have sf : Same F (upd F a (.lst vs)) := fun c o z => by rw [upd_ne (ne_of_none z h3)]; exact z
  have hi : i < τ.length := (List.getElem?_eq_some_iff.mp e).1
  refine ⟨upd F a (.lst vs), sf, R.ok, by rw [List.length_set]; exact R.len, ⟨R.adv.keep, fun c hc => ?_, fun c o z => ?_, R.adv.box⟩, fun j s z => ?_, fun j l b s1 s2 hjl e1 o1 e2 o2 e3 e4 => ?_⟩
  · rw [upd_ne (fun z => by subst z; exact hc h2)]; exact R.adv.old c hc
  · by_cases q : c = a
    · subst q; rw [upd_same] at z; cases z; exact h4
    · rw [upd_ne q] at z; exact R.same c o z
  · by_cases q : j = i
    · subst q
      rw [List.getElem?_set_self hi] at z
      cases z
      exact ⟨_, h1, .lst (.inl (.inl upd_same)) (dp_monoAll sf xs vs h5)⟩
    · rw [List.getElem?_set_ne (Ne.symm q)] at z
      obtain ⟨w, g1, g2⟩ := R.sl j s z
      refine ⟨w, g1, ?_⟩
      cases s with
      | d x => exact dp_mono sf x w g2
      | ow ys =>
        obtain ⟨c, ws, rfl, k1, k2, k3, k4⟩ := g2
        refine ⟨c, ws, rfl, k1, ?_, k3, dp_monoAll sf ys ws k4⟩
        rw [upd_ne]
        · exact k2
        · intro w; subst w; exact R.dis j i c _ _ q z rfl e rfl (.inl g1) (.inl h1)
      | box => exact g2
      | raw u => exact g2
      | dk kvs =>
        obtain ⟨c, ws, rfl, k1, k2⟩ := g2
        exact ⟨c, ws, rfl, sf c _ k1, k2.mono sf⟩
      | dt kvs =>
        obtain ⟨c, ws, rfl, k1, k2⟩ := g2
        exact ⟨c, ws, rfl, sf c _ k1, k2.mono sf⟩
      | odk ys =>
        obtain ⟨c, ws, rfl, k1, k2, k3, k4⟩ := g2
        refine ⟨c, ws, rfl, k1, ?_, k3, k4.mono sf⟩
        rw [upd_ne]
        · exact k2
        · intro w; subst w; exact R.dis j i c _ _ q z rfl e rfl (.inl g1) (.inl h1)
      | odt ys =>
        obtain ⟨c, ws, rfl, k1, k2, k3, k4⟩ := g2
        refine ⟨c, ws, rfl, k1, ?_, k3, k4.mono sf⟩
        rw [upd_ne]
        · exact k2
        · intro w; subst w; exact R.dis j i c _ _ q z rfl e rfl (.inl g1) (.inl h1)
      | nl as xss =>
        obtain ⟨c, rfl, nd, k1, k2, k3, k4⟩ := g2
        have ne : ∀ b, At (.nl as xss) σ[j]? b → b ≠ a := fun b hb w => by subst w; exact R.dis j i b _ _ q z rfl e rfl hb (.inl h1)
        refine ⟨c, rfl, nd, k1, ?_, k3, k4.imp fun b hb ws ys p1 p2 p3 p4 => ⟨p1, ?_, p3, dp_monoAll sf ys ws p4⟩⟩
        · rw [upd_ne (ne c (.inl g1))]
          exact k2
        · rw [upd_ne (ne b (.inr hb))]
          exact p2
  · have nj : j ≠ i := fun q => by subst q; rw [List.getElem?_set_self hi] at e1; cases e1; cases o1
    have nl : l ≠ i := fun q => by subst q; rw [List.getElem?_set_self hi] at e2; cases e2; cases o2
    rw [List.getElem?_set_ne (Ne.symm nj)] at e1
    rw [List.getElem?_set_ne (Ne.symm nl)] at e2
    exact R.dis j l b s1 s2 hjl e1 o1 e2 o2 e3 e4
theorem s_frz {sts : List Stmt} (i : Nat) (h : S2 X kr sts m) : S2 X kr sts (sFrz i m) := by
  refine ⟨fun Wx tk => pss_weak (h.ps Wx tk) fun Dd σ H ⟨A, τ, n, F, E, eK, R, ⟨xs, e, p⟩, ed⟩ => ?_⟩
  obtain ⟨F', s, R'⟩ := R.frz e
  exact ⟨A, _, n, F', E, eK, R', p, ed.sub s⟩
def sRet (m : EM) : SM := fun E τ n => m τ n E.rt
theorem p_ret (h : E2 X kr a ma) : P2 X kr (.Return (some a) pos) (sRet ma) := by
  refine ⟨fun Wx tk => ps_weak (ps_ret h.pe) fun Dd σ H ⟨A, τ, n, F, E, eK, R, p, e⟩ => tE_run eK R p fun d n' v H' F' p1 a1 r1 => ?_⟩
  rw [← eK] at r1
  exact e.rt d n' v H' F' p1 (R.adv.trans a1) (r1.h0 fun c h => R.h0some h)
/-- the owned list of slot i is handed back -/
def sRetO (i : Nat) : SM := fun E τ n => ∃ xs, τ[i]? = some (some (.ow xs)) ∧ E.rt (.list xs) n
theorem p_retO {i : Nat} (h : PE X a (tVar i)) : P2 X .nw (.Return (some a) pos) (sRetO i) := by
  refine ⟨fun Wx tk => ps_weak (ps_ret h) fun Dd σ H ⟨A, τ, n, F, E, eK, R, ⟨xs, e, p⟩, ed⟩ => ?_⟩
  obtain ⟨v, h1, a, vs, rfl, h2, h3, h4, h5⟩ := R.sl i _ e
  exact ⟨_, h1, ed.rt _ n _ H F p R.adv ⟨a, vs, xs, rfl, rfl, h2, h3, h4, h5⟩⟩
def sRetN : SM := fun E _ n => E.rt .none n
theorem p_retN : P2 X .fz (.Return none pos) sRetN := ⟨fun Wx tk => ps_weak ps_retN fun Dd σ H ⟨A, τ, n, F, E, eK, R, p, e⟩ => e.rt .none n .non H F p R.adv .non⟩
def sIf (c : CM) (m m' : SM) : SM := fun E τ n => c τ n fun b n1 => if b = true then m E τ n1 else m' E τ n1
theorem p_if {c : Expr} {cc : CM} {as bs : List Stmt} (hc : T2 X c cc) (ha : S2 X kr as m) (hb : S2 X kr bs m') : P2 X kr (.If c as bs pos) (sIf cc m m') := by
  refine ⟨fun Wx tk => ps_weak (ps_if hc.pt (ha.ps Wx tk) (hb.ps Wx tk)) fun Dd σ H ⟨A, τ, n, F, E, eK, R, p, e⟩ => tT_go eK R p fun d n1 H1 F1 p1 a1 => ?_⟩
  cases d with
  | true => exact iteT ⟨A, τ, n1, F1, E, eK, R.step a1, by simpa using p1, e.sub (a1.fro R.same)⟩
  | false => exact iteF ⟨A, τ, n1, F1, E, eK, R.step a1, by simpa using p1, e.sub (a1.fro R.same)⟩
def sBk : SM := fun E τ n => E.bk τ n
def sCt : SM := fun E τ n => E.ct τ n
theorem p_pass : P2 X kr (.Pass pos) sNext := ⟨fun Wx tk => ps_weak ps_pass fun Dd σ H ⟨A, τ, n, F, E, eK, R, p, e⟩ => e.nx τ n σ H F p R (Same.refl F)⟩
theorem p_break : P2 X kr (.Break pos) sBk := ⟨fun Wx tk => ps_weak ps_break fun Dd σ H ⟨A, τ, n, F, E, eK, R, p, e⟩ => e.bk τ n σ H F p R (Same.refl F)⟩
theorem p_continue : P2 X kr (.Continue pos) sCt := ⟨fun Wx tk => ps_weak ps_continue fun Dd σ H ⟨A, τ, n, F, E, eK, R, p, e⟩ => e.ct τ n σ H F p R (Same.refl F)⟩
/-- an expression whose value is dropped -/
def sDrop (m : EM) : SM := fun E τ n => m τ n fun _ n' => E.nx τ n'
theorem p_expr {k : Kd} (h : E2 X k a ma) (hs : swapsWith a none pos.line X.env = pure false := by rfl) : P2 X kr (.Expr a pos) (sDrop ma) :=
  ⟨fun Wx tk => ps_weak (ps_expr h.pe hs) fun Dd σ H ⟨A, τ, n, F, E, eK, R, p, e⟩ => tE_run eK R p fun d n' v H' F' p1 a1 r1 => e.nx τ n' σ H' F' p1 (R.step a1) (a1.fro R.same)⟩

/-! ### targets -/
abbrev GM := D → Ev → Nat → (Ev → Nat → Prop) → Prop
abbrev GMs := List D → Ev → Nat → (Ev → Nat → Prop) → Prop
/-- no new own slot -/
def OwnSame (τ τ' : Ev) : Prop := ∀ (i : Nat) (s : Sl), τ'[i]? = some (some s) → s.own = true → τ[i]? = some (some s)
theorem OwnSame.refl (τ : Ev) : OwnSame τ τ := fun _ _ e _ => e
theorem OwnSame.trans {τ τ1 τ2 : Ev} (a : OwnSame τ τ1) (b : OwnSame τ1 τ2) : OwnSame τ τ2 := fun i s e o => a i s (b i s e o) o
theorem OwnSame.set {τ : Ev} (i : Nat) (d : D) : OwnSame τ (τ.set i (some (.d d))) := fun j s e o => by
  by_cases z : j = i
  · subst z
    have hj : j < τ.length := by
      have := (List.getElem?_eq_some_iff.mp e).1
      rwa [List.length_set] at this
    rw [List.getElem?_set_self hj] at e
    cases e
    cases o
  · rwa [List.getElem?_set_ne (Ne.symm z)] at e
def tG (K : PySem.W.Frag) (ws : List Nat) (g : GM) : TG := fun v σ H Q => ∃ A τ n F P d, A.K = K ∧ Rel A τ n σ H F ∧ Dp K F v d ∧ g d τ n P ∧ ∀ τ' n' σ' H' F', P τ' n' → Rel A τ' n' σ' H' F' → Same F F' → Adv A.bx n n' H F H' F' → ((∀ vs, (∀ i ∈ ws, i ∈ vs) → wipe σ' vs = wipe σ vs) ∧ OwnSame τ τ') → Q σ' H'
def tGs (K : PySem.W.Frag) (ws : List Nat) (g : GMs) : TGs := fun vs σ H Q => ∃ A τ n F P ds, A.K = K ∧ Rel A τ n σ H F ∧ DpAll K F vs ds ∧ g ds τ n P ∧ ∀ τ' n' σ' H' F', P τ' n' → Rel A τ' n' σ' H' F' → Same F F' → Adv A.bx n n' H F H' F' → ((∀ vs, (∀ i ∈ ws, i ∈ vs) → wipe σ' vs = wipe σ vs) ∧ OwnSame τ τ') → Q σ' H'
structure G2 (X : Cx) (ws : List Nat) (e : Expr) (g : GM) : Prop where
  pg : PG X e (tG X.K ws g)
structure Gs2 (X : Cx) (ws : List Nat) (es : List Expr) (g : GMs) : Prop where
  pg : PGs X es (tGs X.K ws g)
theorem wipe_set {σ : L2.St} {i : Nat} {x : Option V} : ∀ {vs : List Nat}, i ∈ vs → wipe (σ.set i x) vs = wipe σ vs
  | [], h => by cases h
  | v :: vs, h => by
    unfold wipe
    by_cases hv : i ∈ vs
    · rw [wipe_set hv]
    · have e : i = v := (List.mem_cons.mp h).resolve_right hv
      subst e
      rw [wipe_out hv, List.set_set]
where
  wipe_out {σ : L2.St} {i : Nat} {x : Option V} : ∀ {vs : List Nat}, i ∉ vs → wipe (σ.set i x) vs = (wipe σ vs).set i x
    | [], _ => rfl
    | v :: vs, h => by
      unfold wipe
      have h1 : i ≠ v := fun e => h (by simp [e])
      have h2 : i ∉ vs := fun e => h (List.mem_cons_of_mem _ e)
      rw [wipe_out h2, List.set_comm _ _ h1]
theorem pg_weak {e : Expr} {t t' : TG} (h : PG X e t) (w : ∀ v σ H Q, t' v σ H Q → t v σ H Q) : PG X e t' := ⟨fun pins s σ H v u Q I r q => h.run pins s σ H v u Q I r (w v σ H Q q)⟩
theorem pgs_weak {e : List Expr} {t t' : TGs} (h : PGs X e t) (w : ∀ v σ H Q, t' v σ H Q → t v σ H Q) : PGs X e t' := ⟨fun pins s σ H v u Q I r q => h.run pins s σ H v u Q I r (w v σ H Q q)⟩
def gN (i : Nat) : GM := fun d τ n Q => Q (τ.set i (some (.d d))) n
def gsNil : GMs := fun ds τ n Q => ds = [] ∧ Q τ n
def gsCons (g : GM) (r : GMs) : GMs := fun ds τ n Q => ∃ d ds', ds = d :: ds' ∧ g d τ n fun τ1 n1 => r ds' τ1 n1 Q
def parts : D → Option (List D)
  | .tuple ds => some ds
  | .dict [(.dict [], .dict []), (x, y)] => some [x, y]
  | _ => none
def gT (k : Nat) (g : GMs) : GM := fun d τ n Q => ∃ ds, parts d = some ds ∧ ds.length = k ∧ g ds τ n Q
theorem g_name {i : Nat} {e : Expr} (h : PG X e (gName i)) : G2 X [i] e (gN i) := ⟨pg_weak h fun v σ H Q ⟨A, τ, n, F, P, d, eK, R, r, p, hq⟩ => by
  rw [← eK] at r
  exact hq _ n _ H F p (R.set (k := .fz) (Hs := H) i (by intro z; cases z) (fun a h => R.h0some h) (fun j s b _ e1 e0 e2 => (R.own e1 e0 e2).2.2) r) (Same.refl F) (Adv.refl R.same R.box) ⟨fun vs h => wipe_set (h i (by simp)), OwnSame.set i d⟩⟩
theorem gs_nil : Gs2 X [] [] gsNil := ⟨pgs_weak pgs_nil fun vs σ H Q ⟨A, τ, n, F, P, ds, eK, R, r, ⟨e, p⟩, hq⟩ => by
  subst e
  cases r
  exact ⟨rfl, hq τ n σ H F p R (Same.refl F) (Adv.refl R.same R.box) ⟨fun _ _ => rfl, OwnSame.refl τ⟩⟩⟩
theorem gs_cons {e : Expr} {es : List Expr} {g : GM} {r : GMs} {w1 w2 : List Nat} (h : G2 X w1 e g) (hr : Gs2 X w2 es r) (hs : (assignEach (e :: es) X.env).map (·.2) = assign e X.env :: (assignEach es X.env).map (·.2) := by rfl) : Gs2 X (w1 ++ w2) (e :: es) (gsCons g r) :=
  ⟨pgs_weak (pgs_cons h.pg hr.pg hs) fun vs σ H Q ⟨A, τ, n, F, P, ds, eK, R, rp, ⟨d, ds', e, p⟩, hq⟩ => by
    subst e
    cases rp with
    | cons r1 r2 =>
      exact ⟨_, _, rfl, A, τ, n, F, _, d, eK, R, r1, p, fun τ1 n1 σ1 H1 F1 p1 R1 s1 a1 x1 => ⟨A, τ1, n1, F1, P, ds', eK, R1, dp_monoAll s1 ds' _ r2, p1, fun τ2 n2 σ2 H2 F2 p2 R2 s2 a2 x2 => hq τ2 n2 σ2 H2 F2 p2 R2 (s1.trans s2) (a1.trans a2) ⟨fun vs h => (x2.1 vs fun i z => h i (List.mem_append_right _ z)).trans (x1.1 vs fun i z => h i (List.mem_append_left _ z)), x1.2.trans x2.2⟩⟩⟩⟩
theorem g_tup {es : List Expr} {k len : Nat} {g : GMs} {ws : List Nat} (hc : X.calm = true) (h : Gs2 X ws es g) (hn : (assignEach es X.env).length = len := by rfl) (hst : (assignEach es X.env).findIdx? (·.1) = none := by rfl) : G2 X ws (.Tuple es k pos) (gT len g) :=
  ⟨pg_weak (pg_tup hc h.pg hn hst) fun v σ H Q ⟨A, τ, n, F, P, d, eK, R, r, ⟨ds, e, l, p⟩, hq⟩ => by
    cases r with
    | tup hs ha => cases e; exact ⟨_, _, rfl, seqT R.same hs.sq, (dpAll_len ha).trans l, A, τ, n, F, P, _, eK, R, ha, p, hq⟩
    | raw hs a b => cases e; exact ⟨_, _, rfl, seqT R.same hs, l, A, τ, n, F, P, _, eK, R, .cons a (.cons b .nil), p, hq⟩
    | _ => cases e⟩

/-! ### stores -/
def sAsg (m : EM) (g : GM) : SM := fun E τ n => m τ n fun d n1 => g d τ n1 E.nx
theorem p_asg {tg : Expr} {g : GM} {ws : List Nat} (h : E2 X .fz a ma) (hg : G2 X ws tg g) (hs : swapsWithSole [tg] a pos.line X.env = pure false := by rfl) (hw : swappedStores [tg] a X.env = pure none := by rfl)
    (h1 : (assignEach [tg] X.env).map (·.2) = [assign tg X.env] := by rfl) : P2 X kr (.Assign [tg] a pos) (sAsg ma g) :=
  ⟨fun Wx tk => ps_weak (ps_asg h.pe hg.pg hs hw h1) fun Dd σ H ⟨A, τ, n, F, E, eK, R, p, e⟩ => tE_run eK R p fun d n1 v H1 F1 p1 a1 r1 =>
    ⟨A, τ, n1, F1, _, d, eK, R.step a1, r1, p1, fun τ' n' σ' H' F' p' R' s' a' _ => e.nx τ' n' σ' H' F' p' R' ((a1.fro R.same).trans s')⟩⟩
/-- a name gets a result -/
def sSet (k : Kd) (i : Nat) (m : EM) : SM := fun E τ n => m τ n fun d n1 => E.nx (τ.set i (some (slOf k d))) n1
theorem Rel.set1 {A : Act} {τ : Ev} {n n1 : Nat} {σ : L2.St} {H F H1 F1 : Hp} {k : Kd} {v : V} {d : D} (i : Nat) (R : Rel A τ n σ H F) (hk : k ≠ .bw) (a1 : Adv A.bx n n1 H F H1 F1) (r : RepK A.K k H H1 F1 v d) :
    Rel A (τ.set i (some (slOf k d))) n1 (σ.set i (some v)) H1 F1 :=
  (R.step a1).set (Hs := H) i hk (fun a h => R.h0some h) (fun j s b _ e1 e0 e2 => (R.own e1 e0 e2).2.2) r
theorem p_set {k : Kd} {i : Nat} {x : Str} {pos' : Pos} (hk : k ≠ .bw) (hN : X.N.Nodup) (hi : X.N[i]? = some x) (hx : Loc X.env.scope x) (h : E2 X k a ma) (hs : swapsWith a (some (.Name x pos')) pos.line X.env = pure false := by rfl)
    (hf : X.fn x = true ∨ X.env.scope.names.lookup x = some .local := by first | exact .inl rfl | exact .inr rfl | assumption) : P2 X kr (.Assign [.Name x pos'] a pos) (sSet k i ma) :=
  ⟨fun Wx tk => ps_weak (ps_set hN hi hx h.pe hs hf) fun Dd σ H ⟨A, τ, n, F, E, eK, R, p, e⟩ => tE_run eK R p fun d n1 v H1 F1 p1 a1 r1 => by
    rw [← eK] at r1
    exact e.nx _ n1 _ H1 F1 p1 (R.set1 i hk a1 r1) (a1.fro R.same)⟩
theorem nw_step {bx : Option Addr} {n n' : Nat} {k : Kd} {H0 H F H' F' : Hp} {v : V} {d : D} (hk : k ≠ .bw) (r : RepK K k H0 H F v d) (a : Adv bx n n' H F H' F') (s : Same F H) (b : ∀ b, bx = some b → H b = some (.ext (boxP b n))) : RepK K k H0 H' F' v d := by
  cases k with
  | fz => exact dp_mono (a.fro s) d v r
  | nw =>
    obtain ⟨c, vs, xs, e1, e2, h0, hf, h1, h2⟩ := r
    refine ⟨c, vs, xs, e1, e2, h0, ?_, a.keep c _ h1 (fun z => by rw [b c z] at h1; cases h1), dp_monoAll (a.fro s) xs vs h2⟩
    rw [a.old c (by rw [h1]; exact fun z => nomatch z)]; exact hf
  | bw => exact absurd rfl hk
  | nn k =>
    obtain ⟨h1, fp, h2⟩ := r
    refine ⟨dp_mono (a.fro s) d v h1, fp, h2.mono (fun _ _ z => z) fun c hc => ?_⟩
    obtain ⟨_, u, z, zu⟩ := h2.at c hc
    have nb : bx ≠ some c := fun w => by
      rw [b c w] at z
      exact zu _ (Option.some.inj z).symm
    rw [z]
    exact a.keep c _ z nb
/-- two names at once -/
def sPar (k1 k2 : Kd) (i j : Nat) (ma mb : EM) : SM := fun E τ n => ma τ n fun x n1 => mb τ n1 fun y n2 => E.nx ((τ.set i (some (slOf k1 x))).set j (some (slOf k2 y))) n2
theorem p_par {k1 k2 : Kd} {i j : Nat} {x y : Str} {px py pt : Pos} {kt q2 pt2} (hk1 : k1 ≠ .bw) (hk2 : k2 ≠ .bw) (hc : X.calm = true) (hN : X.N.Nodup) (hi : X.N[i]? = some x) (hj : X.N[j]? = some y) (hij : i ≠ j)
    (hx : X.env.scope.names.lookup x = some .local) (hy : X.env.scope.names.lookup y = some .local) (ha : E2 X k1 a ma) (hb : E2 X k2 b mb)
    (hw : swappedStores [.Tuple [.Name x px, .Name y py] kt pt] (.Tuple [a, b] q2 pt2) X.env = pure (some [x, y]) := by rfl)
    (hs : swapsWithSole [.Tuple [.Name x px, .Name y py] kt pt] (.Tuple [a, b] q2 pt2) pos.line X.env = pure false := by rfl)
    (s1 : starEach [a, b] X.env = (false, eval a X.env) :: starEach [b] X.env := by rfl) (s2 : starEach [b] X.env = (false, eval b X.env) :: starEach [] X.env := by rfl) :
    P2 X kr (.Assign [.Tuple [.Name x px, .Name y py] kt pt] (.Tuple [a, b] q2 pt2) pos) (sPar k1 k2 i j ma mb) := by
  refine ⟨fun Wx tk => ps_weak (ps_par hc hN hi hj hij hx hy (pa_cons ha.pe (pa_cons hb.pe pa_nil s2) s1) hw hs) fun Dd σ H ⟨A, τ, n, F, E, eK, R, p, e⟩ => ?_⟩
  refine tE_run eK R p fun d1 n1 v1 H1 F1 p1 a1 r1 => tE_run eK (R.step a1) p1 fun d2 n2 v2 H2 F2 p2 a2 r2 => ?_
  rw [← eK] at r1 r2
  have a12 := a1.trans a2
  refine ⟨v1, v2, rfl, e.nx _ n2 _ H2 F2 p2 ?_ (a12.fro R.same)⟩
  have R1 : Rel A (τ.set i (some (slOf k1 d1))) n2 (σ.set i (some v1)) H2 F2 := (R.set1 i hk1 a1 r1).step a2
  refine R1.set (Hs := H1) j hk2 (fun a h => R.h0some (a1.none_back a h)) (fun l s b hl e1 e0 e2 => ((R.set1 i hk1 a1 r1).own e1 e0 e2).2.2) r2
def sPar3 (k1 k2 k3 : Kd) (i j l : Nat) (ma mb mc : EM) : SM := fun E τ n => ma τ n fun x n1 => mb τ n1 fun y n2 => mc τ n2 fun z n3 => E.nx (((τ.set i (some (slOf k1 x))).set j (some (slOf k2 y))).set l (some (slOf k3 z))) n3
/-- name op= e -/
def sAug (f : Op2) (i : Nat) (m : EM) : SM := fun E τ n => ∃ x, τ[i]? = some (some (.d x)) ∧ m τ n fun y n1 => f x y fun z => E.nx (τ.set i (some (.d z))) n1
theorem p_aug {op : Operator} {r : R2} {f : Op2} {i : Nat} {x : Str} {pos' : Pos} (hN : X.N.Nodup) (hi : X.N[i]? = some x) (hx : Loc X.env.scope x) (ho : OpR X (inplaceOp op) r) (hf : Does2 X.K .fz f r) (h : E2 X .bw a ma)
    (hfn : X.fn x = true ∨ X.env.scope.names.lookup x = some .local := by first | exact .inl rfl | exact .inr rfl | assumption) : P2 X kr (.AugAssign (.Name x pos') op a pos) (sAug f i ma) :=
  ⟨fun Wx tk => ps_weak (ps_aug (ti := r) hN hi hx h.pe (fun pins s σ H x y v u Q I r1 r2 q => ho pins s σ H x y v u Q I r1 r2 q) hfn) fun Dd σ H ⟨A, τ, n, F, E, eK, R, ⟨d, e0, p⟩, e⟩ => by
    obtain ⟨v, h1, h2⟩ := R.sl i _ e0
    refine ⟨v, h1, tE_run eK R p fun y n1 vy H1 F1 p1 a1 r1 => ?_⟩
    rw [← eK] at r1 hf
    refine hf H1 F1 v vy d y _ _ (R.step a1).same (.inl (dp_mono (a1.fro R.same) d v h2)) r1 p1 fun z vz H2 F2 p2 a2 r2 => ?_
    have a12 := a1.trans (a2.adv (R.step a1).box)
    exact e.nx _ n1 _ H2 F2 p2 (R.set1 (k := .fz) i (by intro z; cases z) a12 r2) (a12.fro R.same)⟩
theorem p_iadd {i : Nat} {x : Str} {pos' : Pos} (hN : X.N.Nodup) (hi : X.N[i]? = some x) (hx : Loc X.env.scope x) (h : E2 X .bw a ma)
    (hfn : X.fn x = true ∨ X.env.scope.names.lookup x = some .local := by first | exact .inl rfl | exact .inr rfl | assumption) : P2 X kr (.AugAssign (.Name x pos') .Add a pos) (sAug dAdd i ma) := p_aug hN hi hx iop_add (does_I0 fun _ _ _ => .int _) h hfn
theorem p_isub {i : Nat} {x : Str} {pos' : Pos} (hN : X.N.Nodup) (hi : X.N[i]? = some x) (hx : Loc X.env.scope x) (h : E2 X .bw a ma)
    (hfn : X.fn x = true ∨ X.env.scope.names.lookup x = some .local := by first | exact .inl rfl | exact .inr rfl | assumption) : P2 X kr (.AugAssign (.Name x pos') .Sub a pos) (sAug dSub i ma) := p_aug hN hi hx iop_sub (does_I0 fun _ _ _ => .int _) h hfn
end
end TL
set_option Elab.async false
set_option linter.all false
set_option maxRecDepth 100000
set_option maxHeartbeats 4000000
namespace TL
open PySem PySem.Spec PyProof.Rows L2
/-! ### enumerate(t) of a tuple -/
theorem meets_enum_new1 {v : Value} {o : Obj} {H : Heap → Prop} (B : Begins v o H) :
    Meets (Builtin.«enumerate.__new__» ⟨[.type "enumerate", v], []⟩) (fun _ R s => H s.heap ∧
      R (.ok (.ret (.ref (s.heap.push o).objs.size))) { s with heap := (s.heap.push o).push { cls := .type "enumerate", data := .fields #[.none, .bool false, .ref s.heap.objs.size, rawInt 0, .none, .none] } }) :=
  .of_wp fun prog w A R s h => by
    obtain ⟨hp, g, d, tk, os⟩ := s; obtain ⟨h1, h⟩ := h
    have hsub := sub_enumerate
    have q1 : ∀ {A' : Around} {E : Value → Shared → Prop} {Q : Value → Shared → Prop}, Q (.ref hp.objs.size) ⟨hp.push o, g, d, tk, os⟩ → wpAny (model prog w) A' (pyIter v) Q E ⟨hp, g, d, tk, os⟩ :=
      fun q => B.iter prog w _ _ ⟨hp, g, d, tk, os⟩ _ h1 q
    wp_walk using q1
    refine wpAny_stack_any fun st => wpAny_pure ?_
    split
    · rename_i c _ _ _ _ _
      cases (c == Value.type "enumerate")
      · wp_walk using q1
        exact ⟨_, rfl, h⟩
      · wp_walk using q1
        exact ⟨_, rfl, h⟩
    · wp_walk using q1
      exact ⟨_, rfl, h⟩
theorem call_enum1 {prog : Program} {w : World} {A : Around} {E : Value → Shared → Prop} {s : Shared} {v : Value} {o : Obj} {H : Heap → Prop} {Q : Value → Shared → Prop} (B : Begins v o H) (h1 : H s.heap)
    (h : ∀ h', IsEnum h' (s.heap.objs.size + 1) s.heap.objs.size 0 .none → h'.get? s.heap.objs.size = some o → h'.objs.size = s.heap.objs.size + 2 →
      (∀ b o, s.heap.get? b = some o → h'.get? b = some o) → Q (.ref (s.heap.objs.size + 1)) { s with heap := h' }) :
    wpAny (model prog w) A (call (.type "enumerate") [v]) Q E s := by
  refine callType_new F.called_enumerate (by decide) (F.typeCall_enumerate_1 _) (F.newCall_enumerate_1 _) (fun obj => F.args_object_init_2 obj _) F.entry_enumerate_new
    (meets_enum_new1 B) ⟨h1, ?_⟩
  have hz : (s.heap.push o).objs.size = s.heap.objs.size + 1 := Heap.size_push ..
  show _ ∧ _
  rw [hz]
  have he : IsEnum ((s.heap.push o).push { cls := .type "enumerate", data := .fields #[.none, .bool false, .ref s.heap.objs.size, rawInt 0, .none, .none] }) (s.heap.objs.size + 1) s.heap.objs.size 0 .none := by
    have := Heap.get?_push_size (s.heap.push o) (o := { cls := .type "enumerate", data := .fields #[.none, .bool false, .ref s.heap.objs.size, rawInt 0, .none, .none] }) rfl
    rw [hz] at this; exact this
  refine ⟨⟨_, he, rfl⟩, h _ he (Heap.get?_push_of_some _ (Heap.get?_push_size _ B.free)) (by rw [Heap.size_push, hz]) fun b o x => Heap.get?_push_of_some _ (Heap.get?_push_of_some _ x)⟩
theorem enum_endT {prog : Program} {w : World} {A : Around} {E : Value → Shared → Prop} {s : Shared} {e it t : Addr} {i : Nat} {k : Int} {items : Array Value} {old : Value} {Q : Option Value → Shared → Prop}
    (hh : A.handled = none) (he : IsEnum s.heap e it k old) (hit : s.heap.IsTupleIter it t i) (ht : s.heap.IsTuple t items) (hx : items[i]? = none)
    (hQ : ∀ h', Heap.ExtBut it s.heap h' → Q none { s with heap := h' }) : wpAny (model prog w) A (pyNext (.ref e)) Q E s := by
  have hT : s.TypeIs (.ref e) "enumerate" := ⟨_, he, rfl⟩
  unfold pyNext
  refine wpAny_bind (wpAny_attempt (wpAny_callSpecial?_slot (name := Str.ofString "__next__") hT F.slot_enumerate_next
    (wpAny_call_entry F.slot_enumerate_next hT F.entry_enumerate_next ?_ (F.args_enumerate_next_1 _))))
  show wpAny _ _ (field (.ref e) 2 >>= _) _ _ _
  refine wpAny_bind (wpAny_field he rfl (x := .ref it) rfl ?_)
  refine wpAny_bind (wpAny_nextOf_tuple_end (by show A.handled = none; exact hh) hit ht hx fun h' x he' hx' => ?_)
  obtain ⟨o, ho, hc⟩ := hx'
  refine wpAny_bind (wpAny_isInstance (T := "StopIteration") (b := true) ⟨o, ho, hc⟩ isSubtype_stop ?_)
  exact wpAny_pure (hQ _ he')
/-- the tuple at a, each item in a new pair -/
def IteT (K : PySem.W.Frag) (a : Addr) : It :=
  ⟨fun i H => ∃ (xs : List V) (x : V), SqT K H a xs ∧ xs[i]? = some x, fun i H v H' => ∃ T x, v = .ref T ∧ H T = none ∧ H' = upd H T (.tup [.int (i : Nat), x]) ∧ ∀ xs, SqT K H a xs → xs[i]? = some x, fun i H => ∃ xs : List V, SqT K H a xs ∧ xs.length ≤ i⟩
theorem turn_enumT {P : Program} {w : World} {K : PySem.W.Frag} {elts : List Expr} {kk : Nat} {tpos : Pos} (a e it : Addr) (hai : a ≠ it) (hae : a ≠ e) :
    Turn P w K (.Tuple elts kk tpos) (IteT K a) [e, it] e (fun i h => (∃ old, IsEnum h e it ((i : Nat) : Int) old) ∧ h.IsTupleIter it a i ∧ e ≠ it) where
  mem := by simp
  obj := fun i h st b hb => by
    obtain ⟨⟨old, he⟩, ⟨o, ho, hc, hd⟩, _⟩ := st
    have e' : b = e ∨ b = it := by simpa using hb
    rcases e' with z | z
    · rw [z]; exact ⟨_, he, fun v q => nomatch q⟩
    · rw [z]; exact ⟨o, ho, fun v q => by rw [hd] at q; cases q⟩
  keep := fun i h h' st k => let ⟨⟨old, he⟩, hi, hne⟩ := st; ⟨⟨old, k e (by simp) _ he⟩, hi.at fun o q => k it (by simp) o q, hne⟩
  item := by
    intro X hP hw hK hc i pins s σ H E I hf st hg
    subst hP hw hK
    obtain ⟨⟨old, he⟩, hit, hne⟩ := st
    obtain ⟨xs, x, hq, hx⟩ := hg
    obtain ⟨its, rv, p, hz⟩ := I.tuple hq
    obtain ⟨u, hu, ru⟩ := rv.get hx
    have hel : e < s.heap.objs.size := Heap.lt_size he
    have hil : it < s.heap.objs.size := by obtain ⟨_, q, _⟩ := hit; exact Heap.lt_size q
    have hlt : i < its.toArray.size := by
      have := (List.getElem?_eq_some_iff.mp hu).1
      simpa using this
    refine wpAny_pyNext_enum_itemD (Draws.tuple (A := X.A.in1) (by show X.A.handled = none; exact I.ok.hd hc) it a hai its.toArray) he ⟨hit, (show s.heap.IsTuple a its.toArray from p)⟩ hlt hne (by simp [hne, Ne.symm hae]) fun y h' tk hy ho hit' hT hsz hk => ?_
    have hyu : y = u := by
      have h1 : its.toArray[i]? = some y := hy
      have h2 : its.toArray[i]? = some u := by simpa using hu
      rw [h1] at h2
      exact Option.some.inj h2
    subst hyu
    refine ⟨_, rfl, wpAny_letOwnedTupleGo_enum (s := { s with heap := h', toks := tk + 1 }) ho fun h'' he' sb => ?_⟩
    have hT2 : h''.get? s.heap.objs.size = some { cls := .type "tuple", data := .seq #[.int i tk, y] } := (sb.2 _ (Nat.ne_of_gt hel)).trans hT
    have new : ObjOk X.prog X.w (upd H s.heap.objs.size (.tup [.int (i : Nat), x])) h'' s.heap.objs.size (.tup [.int (i : Nat), x]) :=
      ⟨by show 2 ≤ sizeLine; decide, [.int i tk, y], .cons ⟨_, rfl⟩ (.cons ru .nil), ⟨_, hT2, rfl, _, rfl⟩⟩
    have I1 : Inv X pins σ (upd H s.heap.objs.size (.tup [.int (i : Nat), x])) { s with heap := h'', toks := tk + 1 } :=
      I.turnedNew (ch := [e, it]) (fun b ob hb q => (sb.2 b (fun z => hb (by simp [z]))).trans (hk b ob (fun z => hb (by simp [z])) (fun z => hb (by simp [z])) q)) hf (Nat.le_refl _) new
    refine ⟨.ref s.heap.objs.size, _, I1, rfl, ⟨_, x, rfl, I.hok.fresh (Nat.le_refl _), rfl, fun ys hy => by rw [I.tuple_inj hy hq]; exact hx⟩, ⟨⟨y, ?_⟩, hit'.1.at fun o q => (sb.2 it (Ne.symm hne)).trans q, hne⟩, fun b hb => ?_⟩
    · have e1 : ((i + 1 : Nat) : Int) = (i : Int) + 1 := by omega
      rw [e1]; exact he'
    · have hb' : b < s.heap.objs.size := by
        have e' : b = e ∨ b = it := by simpa using hb
        rcases e' with z | z
        · rw [z]; exact hel
        · rw [z]; exact hil
      rw [upd_ne (Nat.ne_of_lt hb')]
      exact (hf b hb).1
  done := by
    intro X hP hw hK hc i pins s σ H E I hf st hg
    subst hP hw hK
    obtain ⟨⟨old, he⟩, hit, hne⟩ := st
    obtain ⟨xs, hq, hx⟩ := hg
    obtain ⟨its, rv, p, hz⟩ := I.tuple hq
    obtain ⟨f0, f1, f2, f3, f4, f5⟩ := hf it (by simp)
    have hl := rv.length
    exact enum_endT (I.ok.hd hc) he hit (show s.heap.IsTuple a its.toArray from p) (by simp; omega) fun h' eb => ⟨rfl, I.turned (t' := s.toks) (fun b o hb q => eb b o hb q) f0 f1 f3 f4 f5⟩
  self := fun A i s Q E st h => let ⟨⟨_, he⟩, _⟩ := st; wpAny_pyIter_enum he h

section
variable {X : Cx} {K : PySem.W.Frag} {tg : Expr}
/-- enumerate of a list or a tuple -/
def iEnumS (K : PySem.W.Frag) (ta : TA) : TI := fun σ H R => ta σ H fun vs H1 => ∃ a xs, vs = [.ref a] ∧ ((SqL K H1 a xs ∧ R (Ite K a) H1) ∨ (SqT K H1 a xs ∧ R (IteT K a) H1))
theorem pi_enumS {e : Expr} {ta : TA} {p pos tpos : Pos} {elts : List Expr} {kk : Nat} (hg : Gl X "enumerate") (hm : X.mg "enumerate" = none) (ha : PA X [e] ta) (hs : starEach [e] X.env = [(false, eval e X.env)] := by rfl) :
    PI X (.Tuple elts kk tpos) (.Call (.Name "enumerate" p) [e] [] pos) (iEnumS X.K ta) := by
  refine ⟨fun pins s σ H R I h => ?_⟩
  refine Call_ (ld_blt I hg hm boot_enumerate (PyProof.Rows.callWith_type1 (thn (ha.run pos pins s σ H _ I h) fun us s1 ⟨vs, H1, I1, r1, q1⟩ => ?_) hs rfl))
  obtain ⟨a, xs, ex, hq⟩ := q1
  subst ex
  cases r1 with
  | cons r rr =>
    cases rr
    cases r
    have fresh : ∀ b, b ∈ [s1.heap.objs.size + 1, s1.heap.objs.size] → FpOk X pins H1 b := fun b hb => by
      have e' : b = s1.heap.objs.size + 1 ∨ b = s1.heap.objs.size := by simpa using hb
      have hle : s1.heap.objs.size ≤ b := by
        rcases e' with z | z
        · rw [z]; exact Nat.le_add_right _ _
        · rw [z]; exact Nat.le_refl _
      exact I1.fpOk hle (I1.hok.fresh hle)
    rcases hq with ⟨hq, q⟩ | ⟨hq, q⟩
    · obtain ⟨its, rv, p', hz⟩ := I1.list hq
      refine call_enumerate_list p'.isList fun h' he hit hsz hk => wpAny_pyIter_enum he ?_
      have I2 : Inv X pins σ H1 { s1 with heap := h' } := I1.kept (t' := s1.toks) hk
      exact ⟨s1.heap.objs.size + 1, [s1.heap.objs.size + 1, s1.heap.objs.size], _, _, H1, rfl, I2, turn_enum a (s1.heap.objs.size + 1) s1.heap.objs.size, ⟨⟨.none, he⟩, hit, Nat.succ_ne_self _⟩, fresh, q⟩
    · obtain ⟨its, rv, p', hz⟩ := I1.tuple hq
      have hlt : a < s1.heap.objs.size := let ⟨o, ho, _⟩ := p'; Heap.lt_size ho
      refine call_enum1 (begins_tuple a its.toArray) p' fun h' he hit hsz hk => wpAny_pyIter_enum he ?_
      have I2 : Inv X pins σ H1 { s1 with heap := h' } := I1.kept (t' := s1.toks) hk
      exact ⟨s1.heap.objs.size + 1, [s1.heap.objs.size + 1, s1.heap.objs.size], _, _, H1, rfl, I2, turn_enumT a (s1.heap.objs.size + 1) s1.heap.objs.size (Nat.ne_of_lt hlt) (Nat.ne_of_lt (Nat.lt_succ_of_lt hlt)), ⟨⟨.none, he⟩, ⟨_, hit, rfl, rfl⟩, Nat.succ_ne_self _⟩, fresh, q⟩
/-- a list or a tuple is walked -/
def iSeq (K : PySem.W.Frag) (tl : TE) : TI := fun σ H R => tl σ H fun x H1 => ∃ a xs, x = .ref a ∧ ((SqL K H1 a xs ∧ R (Itl K a) H1) ∨ (SqT K H1 a xs ∧ R (Itt K a) H1))
theorem pi_seq {l : Expr} {tl : TE} (hl : PE X l tl) : PI X tg l (iSeq X.K tl) := by
  refine ⟨fun pins s σ H R I h => ?_⟩
  refine thn (hl.run pins s σ H _ I h) fun v s1 ⟨x, H1, I1, r1, q1⟩ => ?_
  obtain ⟨a, xs, e, hq⟩ := q1
  subst e
  cases r1
  have fresh : ∀ b, b ∈ [s1.heap.objs.size] → FpOk X pins H1 b := fun b hb => by
    have e : b = s1.heap.objs.size := by simpa using hb
    subst e
    exact I1.fpOk (Nat.le_refl _) (I1.hok.fresh (Nat.le_refl _))
  rcases hq with ⟨hq, q⟩ | ⟨hq, q⟩
  · obtain ⟨its, rv, p, hz⟩ := I1.list hq
    refine wpAny_pyIter_list p.isList ?_
    exact ⟨s1.heap.objs.size, [s1.heap.objs.size], _, _, H1, rfl, I1.kept (t' := s1.toks) fun b o e => Heap.get?_push_of_some _ e, turn_list a _, ⟨_, Heap.get?_push_size _ rfl, rfl, rfl⟩, fresh, q⟩
  · obtain ⟨its, rv, p, hz⟩ := I1.tuple hq
    refine wpAny_pyIter_tuple (show s1.heap.IsTuple a its.toArray from p) ?_
    exact ⟨s1.heap.objs.size, [s1.heap.objs.size], _, _, H1, rfl, I1.kept (t' := s1.toks) fun b o e => Heap.get?_push_of_some _ e, turn_tuple a _, ⟨_, Heap.get?_push_size _ rfl, rfl, rfl⟩, fresh, q⟩
end
end TL
set_option Elab.async false
set_option linter.all false
set_option maxRecDepth 100000
set_option maxHeartbeats 4000000
namespace TL
open PySem PySem.Spec PyProof.Rows L2
section
variable {X : Cx} {K : PySem.W.Frag} {tg iter : Expr} {a b : Expr} {ma mb mc : EM} {p pos tpos : Pos} {kr : Kd}

/-! ### what is walked -/
/-- J yields the items, as long as what was frozen at F1 is so -/
def YF (K : PySem.W.Frag) (J : It) (items : List D) (F1 : Hp) : Prop := ∀ (i : Nat) (H F : Hp), Same F1 F → Same F H →
  (∀ d, items[i]? = some d → J.go i H ∧ ∀ x H2, J.yld i H x H2 → ∃ F2, PAdv H F H2 F2 ∧ Dp K F2 x d) ∧ (items.length ≤ i → J.stop i H)
/-- .. as long as the heap H1 stands but for the box -/
def YH (K : PySem.W.Frag) (J : It) (items : List D) (bx : Option Addr) (n1 : Nat) (H1 F1 : Hp) : Prop := ∀ (i n : Nat) (H F : Hp), Adv bx n1 n H1 F1 H F →
  (∀ d, items[i]? = some d → J.go i H ∧ ∀ x H2, J.yld i H x H2 → ∃ F2, PAdv H F H2 F2 ∧ Dp K F2 x d) ∧ (items.length ≤ i → J.stop i H)
theorem YF.yh {J : It} {items : List D} {bx : Option Addr} {n1 : Nat} {H1 F1 : Hp} (h : YF K J items F1) (s : Same F1 H1) : YH K J items bx n1 H1 F1 := fun i n H F a => h i H F (a.fro s) a.sub
abbrev IM := Ev → Nat → (List D → Nat → Prop) → Prop
def tIF (K : PySem.W.Frag) (m : IM) : TI := fun σ H R => ∃ A τ n F P, A.K = K ∧ Rel A τ n σ H F ∧ m τ n P ∧ ∀ items n' J H' F', P items n' → Adv A.bx n n' H F H' F' → YF K J items F' → R J H'
def tIH (K : PySem.W.Frag) (m : IM) : TI := fun σ H R => ∃ A τ n F P, A.K = K ∧ Rel A τ n σ H F ∧ m τ n P ∧ ∀ items n' J H' F', P items n' → Adv A.bx n n' H F H' F' → YH K J items A.bx n' H' F' → R J H'
/-- what a for walks; what a comprehension walks -/
structure I2 (X : Cx) (tg iter : Expr) (m : IM) : Prop where
  pi : PI X tg iter (tIF X.K m)
structure J2 (X : Cx) (tg iter : Expr) (m : IM) : Prop where
  pi : PI X tg iter (tIH X.K m)
theorem pi_weak {t t' : TI} (h : PI X tg iter t) (w : ∀ σ H Q, t' σ H Q → t σ H Q) : PI X tg iter t' := ⟨fun pins s σ H Q I q => h.run pins s σ H Q I (w σ H Q q)⟩
theorem I2.j {m : IM} (h : I2 X tg iter m) : J2 X tg iter m := ⟨pi_weak h.pi fun σ H R ⟨A, τ, n, F, P, eK, Rl, hm, hq⟩ => ⟨A, τ, n, F, P, eK, Rl, hm, fun items n' J H' F' p a y => hq items n' J H' F' p a (y.yh a.sub)⟩⟩
/-- the items of a list or a tuple -/
def dItems (d : D) (P : List D → Prop) : Prop := (∃ xs, d = .list xs ∧ P xs) ∨ ∃ xs, d = .tuple xs ∧ P xs
def iIt (m : EM) : IM := fun τ n Q => m τ n fun d n' => dItems d fun xs => Q xs n'
theorem itl_go {H F : Hp} {a : Addr} {vs : List V} {items : List D} (h : SqL K H a vs) (hd : DpAll K F vs items) (s : Same F H) (inj : ∀ vs', SqL K H a vs' → vs' = vs) (i : Nat) :
    (∀ d, items[i]? = some d → (Itl K a).go i H ∧ ∀ x H2, (Itl K a).yld i H x H2 → ∃ F2, PAdv H F H2 F2 ∧ Dp K F2 x d) ∧ (items.length ≤ i → (Itl K a).stop i H) := by
  refine ⟨fun d e => ?_, fun hl => ⟨vs, h, by rw [dpAll_len hd]; exact hl⟩⟩
  obtain ⟨v, e1, e2⟩ := dpAll_get hd e
  refine ⟨⟨vs, v, h, e1⟩, fun x H2 ⟨eH, hy⟩ => ?_⟩
  subst eH
  have := hy vs h
  rw [e1] at this
  cases this
  exact ⟨F, PAdv.refl s, e2⟩
theorem itl_yf {F : Hp} {a : Addr} {vs : List V} {items : List D} (h : SqL K F a vs) (hd : DpAll K F vs items) : YF K (Itl K a) items F := fun i H F2 s1 s2 => by
  have hH : SqL K H a vs := s2.seq (s1.seq h)
  refine ⟨fun d e => ?_, fun hl => ⟨vs, hH, by rw [dpAll_len hd]; exact hl⟩⟩
  obtain ⟨v, e1, e2⟩ := dpAll_get hd e
  refine ⟨⟨vs, v, hH, e1⟩, fun x H2 ⟨eH, hy⟩ => ?_⟩
  subst eH
  have := hy vs hH
  rw [e1] at this
  cases this
  exact ⟨F2, PAdv.refl s2, dp_mono s1 d _ e2⟩
theorem itt_yf {F : Hp} {a : Addr} {vs : List V} {items : List D} (h : SqT K F a vs) (hd : DpAll K F vs items) : YF K (Itt K a) items F := fun i H F2 s1 s2 => by
  have hH : SqT K H a vs := seqT s2 (seqT s1 h)
  refine ⟨fun d e => ?_, fun hl => ⟨vs, hH, by rw [dpAll_len hd]; exact hl⟩⟩
  obtain ⟨v, e1, e2⟩ := dpAll_get hd e
  refine ⟨⟨vs, v, hH, e1⟩, fun x H2 ⟨eH, hy⟩ => ?_⟩
  subst eH
  have := hy vs hH
  rw [e1] at this
  cases this
  exact ⟨F2, PAdv.refl s2, dp_mono s1 d _ e2⟩
theorem itl_yh {bx : Option Addr} {n : Nat} {H F : Hp} {a : Addr} {vs : List V} {items : List D} (h : H a = some (.lst vs)) (hd : DpAll K F vs items) (s : Same F H) (bxh : ∀ b, bx = some b → H b = some (.ext (boxP b n))) : YH K (Itl K a) items bx n H F := fun i n2 H2 F2 ad => by
  have hH : SqL K H2 a vs := .inl (.inl (ad.keep a _ h fun z => by rw [bxh a z] at h; cases h))
  refine ⟨fun d e => ?_, fun hl => ⟨vs, hH, by rw [dpAll_len hd]; exact hl⟩⟩
  obtain ⟨v, e1, e2⟩ := dpAll_get hd e
  refine ⟨⟨vs, v, hH, e1⟩, fun x H3 ⟨eH, hy⟩ => ?_⟩
  subst eH
  have := hy vs hH
  rw [e1] at this
  cases this
  exact ⟨F2, PAdv.refl ad.sub, dp_mono (ad.fro s) d _ e2⟩
/-- for x in e: e a frozen list or tuple -/
theorem i_seq (h : E2 X .fz iter ma) : I2 X tg iter (iIt ma) := by
  refine ⟨pi_weak (pi_seq h.pe) fun σ H R ⟨A, τ, n, F, P, eK, Rl, hm, hq⟩ => tE_run eK Rl hm ?_⟩
  rintro d n' v H' F' (⟨xs, rfl, p⟩ | ⟨xs, rfl, p⟩) ad r
  · cases r with
    | lst hs ha => exact ⟨_, _, rfl, .inl ⟨ad.sub.seq hs, hq xs n' _ H' F' p ad (itl_yf hs ha)⟩⟩
  · cases r with
    | tup hs ha => exact ⟨_, _, rfl, .inr ⟨seqT ad.sub hs.sq, hq xs n' _ H' F' p ad (itt_yf hs.sq ha)⟩⟩
/-- [.. for x in e], e read now -/
theorem j_seq (h : E2 X .bw iter ma) : J2 X tg iter (iIt ma) := by
  refine ⟨pi_weak (pi_seq h.pe) fun σ H R ⟨A, τ, n, F, P, eK, Rl, hm, hq⟩ => tE_run eK Rl hm ?_⟩
  rintro d n' v H' F' hd ad r
  rcases r with r | ⟨c, vs, ys, rfl, rfl, h1, h2⟩
  · rcases hd with ⟨xs, rfl, p⟩ | ⟨xs, rfl, p⟩
    · cases r with
      | lst hs ha => exact ⟨_, _, rfl, .inl ⟨ad.sub.seq hs, hq xs n' _ H' F' p ad ((itl_yf hs ha).yh ad.sub)⟩⟩
    · cases r with
      | tup hs ha => exact ⟨_, _, rfl, .inr ⟨seqT ad.sub hs.sq, hq xs n' _ H' F' p ad ((itt_yf hs.sq ha).yh ad.sub)⟩⟩
  · rcases hd with ⟨xs, e, p⟩ | ⟨xs, e, p⟩
    · cases e
      exact ⟨_, _, rfl, .inl ⟨.inl (.inl h1), hq ys n' _ H' F' p ad (itl_yh h1 h2 ad.sub (Rl.step ad).box)⟩⟩
    · cases e
/-- range -/
def rangeD (lo : Int) (n : Nat) : List D := (List.range n).map fun k => .int (lo + (k : Nat))
theorem rangeD_get (lo : Int) (n i : Nat) : (rangeD lo n)[i]? = if i < n then some (.int (lo + (i : Nat))) else none := by
  unfold rangeD
  rw [List.getElem?_map]
  by_cases h : i < n
  · rw [List.getElem?_range h, if_pos h]; rfl
  · rw [List.getElem?_eq_none (by simpa using Nat.le_of_not_lt h), if_neg h]; rfl
theorem rangeD_len (lo : Int) (n : Nat) : (rangeD lo n).length = n := by simp [rangeD]
theorem itr_yf {F : Hp} (lo : Int) (n : Nat) : YF K (Itr lo n) (rangeD lo n) F := fun i H F2 s1 s2 => by
  refine ⟨fun d e => ?_, fun hl => ?_⟩
  · rw [rangeD_get] at e
    by_cases hi : i < n
    · rw [if_pos hi] at e
      cases e
      refine ⟨hi, fun x H2 ⟨e1, e2⟩ => ?_⟩
      subst e1 e2
      exact ⟨F2, PAdv.refl s2, .int _⟩
    · rw [if_neg hi] at e; cases e
  · rw [rangeD_len] at hl; exact hl
def iR1 (m : EM) : IM := fun τ n Q => m τ n fun d n' => ∃ j, d = .int j ∧ (-(2 ^ 62) ≤ j ∧ j < 2 ^ 62) ∧ Q (rangeD 0 j.toNat) n'
def iR2 (m m' : EM) : IM := fun τ n Q => m τ n fun d n1 => m' τ n1 fun d' n2 => ∃ i j, d = .int i ∧ d' = .int j ∧ (-(2 ^ 62) ≤ i ∧ i < 2 ^ 62 ∧ -(2 ^ 62) ≤ j ∧ j < 2 ^ 62) ∧ Q (rangeD i (j - i).toNat) n2
theorem i_range1 (hg : Gl X "range") (hm : X.mg "range" = none) (h : E2 X .bw a ma) (hs : starEach [a] X.env = [(false, eval a X.env)] := by rfl) (hs' : starEach [a] X.env = (false, eval a X.env) :: starEach [] X.env := by rfl) : I2 X tg (.Call (.Name "range" p) [a] [] pos) (iR1 ma) := by
  refine ⟨pi_weak (pi_range1 hg hm (pa_cons h.pe pa_nil hs') hs) fun σ H R ⟨A, τ, n, F, P, eK, Rl, hm, hq⟩ => tE_run eK Rl hm ?_⟩
  rintro d n' v H' F' ⟨j, rfl, ⟨h1, h2⟩, q⟩ ad r
  exact ⟨j, by rw [bw_int r], h1, h2, hq _ n' _ H' F' q ad (itr_yf 0 j.toNat)⟩
theorem i_range2 (hg : Gl X "range") (hm : X.mg "range" = none) (h : E2 X .bw a ma) (h' : E2 X .bw b mb) (hs : starEach [a, b] X.env = [(false, eval a X.env), (false, eval b X.env)] := by rfl) (hs2 : starEach [b] X.env = [(false, eval b X.env)] := by rfl)
    (t1 : starEach [a, b] X.env = (false, eval a X.env) :: starEach [b] X.env := by rfl) (t2 : starEach [b] X.env = (false, eval b X.env) :: starEach [] X.env := by rfl) : I2 X tg (.Call (.Name "range" p) [a, b] [] pos) (iR2 ma mb) := by
  refine ⟨pi_weak (pi_range2 hg hm (pa_cons h.pe (pa_cons h'.pe pa_nil t2) t1) hs hs2) fun σ H R ⟨A, τ, n, F, P, eK, Rl, hm, hq⟩ => tE_run eK Rl hm fun d1 n1 v1 H1 F1 p1 a1 r1 => tE_run eK (Rl.step a1) p1 ?_⟩
  rintro d n' v H' F' ⟨i, j, rfl, rfl, q1, q⟩ ad r
  exact ⟨i, j, by rw [bw_int r1, bw_int r], q1, hq _ n' _ H' F' q (a1.trans ad) (itr_yf i (j - i).toNat)⟩
/-- range(a, b, -1) -/
def downD (hi : Int) (n : Nat) : List D := (List.range n).map fun k => .int (hi - (k : Nat))
def iR3 (m m' m'' : EM) : IM := fun τ n Q => m τ n fun d n1 => m' τ n1 fun d' n2 => m'' τ n2 fun d'' n3 => ∃ i j, d = .int i ∧ d' = .int j ∧ d'' = .int (-1) ∧ (-(2 ^ 62) ≤ i ∧ i < 2 ^ 62 ∧ -(2 ^ 62) ≤ j ∧ j < 2 ^ 62) ∧ Q (downD i (i - j).toNat) n3
theorem itc_yf {F : Hp} (hi : Int) (n : Nat) : YF K (Itc hi (-1) n) (downD hi n) F := fun i H F2 s1 s2 => by
  refine ⟨fun d e => ?_, fun hl => ?_⟩
  · unfold downD at e
    rw [List.getElem?_map] at e
    by_cases h : i < n
    · rw [List.getElem?_range h] at e
      cases e
      refine ⟨h, fun x H2 ⟨e1, e2⟩ => ?_⟩
      subst e1 e2
      refine ⟨F2, PAdv.refl s2, ?_⟩
      rw [show hi + (i : Int) * (-1) = hi - i by omega]
      exact .int _
    · rw [List.getElem?_eq_none (by simpa using Nat.le_of_not_lt h)] at e; cases e
  · have : n ≤ i := by simpa [downD] using hl
    exact this
theorem i_range3 {c : Expr} (hg : Gl X "range") (hm : X.mg "range" = none) (h : E2 X .bw a ma) (h' : E2 X .bw b mb) (h'' : E2 X .bw c mc) (hs : starEach [a, b, c] X.env = (false, eval a X.env) :: starEach [b, c] X.env := by rfl)
    (t2 : starEach [b, c] X.env = (false, eval b X.env) :: starEach [c] X.env := by rfl) (t3 : starEach [c] X.env = (false, eval c X.env) :: starEach [] X.env := by rfl)
    (hpl : (backTo pos (starEach [b, c] X.env)).any (·.1) = false := by rfl) : I2 X tg (.Call (.Name "range" p) [a, b, c] [] pos) (iR3 ma mb mc) := by
  refine ⟨pi_weak (pi_range3 hg hm (pa_cons h.pe (pa_cons h'.pe (pa_cons h''.pe pa_nil t3) t2) hs) hs hpl) fun σ H R ⟨A, τ, n, F, P, eK, Rl, hm, hq⟩ => tE_run eK Rl hm fun d1 n1 v1 H1 F1 p1 a1 r1 => tE_run eK (Rl.step a1) p1 fun d2 n2 v2 H2 F2 p2 a2 r2 => tE_run eK (Rl.step (a1.trans a2)) p2 ?_⟩
  rintro d n' v H' F' ⟨i, j, rfl, rfl, rfl, q1, q⟩ ad r
  exact ⟨i, j, -1, (i - j).toNat, by rw [bw_int r1, bw_int r2, bw_int r], RgC.neg q1.1 q1.2.1 q1.2.2.1 q1.2.2.2, hq _ n' _ H' F' q ((a1.trans a2).trans ad) (itc_yf i (i - j).toNat)⟩
/-- enumerate -/
def enumD : Nat → List D → List D
  | _, [] => []
  | k, x :: r => rawP (.int (k : Nat)) x :: enumD (k + 1) r
theorem enumD_get : ∀ (k : Nat) (xs : List D) (i : Nat), (enumD k xs)[i]? = (xs[i]?).map fun x => rawP (.int ((k + i : Nat) : Int)) x
  | _, [], _ => by simp [enumD]
  | k, x :: r, 0 => by simp [enumD]
  | k, x :: r, i + 1 => by
    rw [enumD, List.getElem?_cons_succ, List.getElem?_cons_succ, enumD_get (k + 1) r i, show k + 1 + i = k + (i + 1) by omega]
theorem enumD_len : ∀ (k : Nat) (xs : List D), (enumD k xs).length = xs.length
  | _, [] => rfl
  | k, _ :: r => congrArg Nat.succ (enumD_len (k + 1) r)
def iEn (m : EM) : IM := fun τ n Q => m τ n fun d n' => dItems d fun xs => Q (enumD 0 xs) n'
theorem pair_yield {H F : Hp} {T : Addr} {v1 v2 : V} {d1 d2 : D} (s : Same F H) (hT : H T = none) (h1 : Dp K F v1 d1) (h2 : Dp K F v2 d2) : ∃ F2, PAdv H F (upd H T (.tup [v1, v2])) F2 ∧ Dp K F2 (.ref T) (rawP d1 d2) := by
  obtain ⟨b1, b2⟩ := new_raw s hT h1 h2
  exact ⟨_, b1, b2⟩
theorem ite_yf {F : Hp} {a : Addr} {vs : List V} {items : List D} (h : SqL K F a vs) (hd : DpAll K F vs items) : YF K (Ite K a) (enumD 0 items) F := fun i H F2 s1 s2 => by
  have hH : SqL K H a vs := s2.seq (s1.seq h)
  refine ⟨fun d e => ?_, fun hl => ⟨vs, hH, by rw [dpAll_len hd]; rwa [enumD_len] at hl⟩⟩
  rw [enumD_get] at e
  cases q : items[i]? with
  | none => rw [q] at e; cases e
  | some x =>
    rw [q] at e
    cases e
    obtain ⟨v, e1, e2⟩ := dpAll_get hd q
    refine ⟨⟨vs, v, hH, e1⟩, ?_⟩
    rintro x' H2 ⟨T, w, rfl, hT, rfl, hy⟩
    have := hy vs hH
    rw [e1] at this
    cases this
    exact pair_yield s2 hT (by rw [Nat.zero_add]; exact .int _) (dp_mono s1 x _ e2)
theorem iteT_yf {F : Hp} {a : Addr} {vs : List V} {items : List D} (h : SqT K F a vs) (hd : DpAll K F vs items) : YF K (IteT K a) (enumD 0 items) F := fun i H F2 s1 s2 => by
  have hH : SqT K H a vs := seqT s2 (seqT s1 h)
  refine ⟨fun d e => ?_, fun hl => ⟨vs, hH, by rw [dpAll_len hd]; rwa [enumD_len] at hl⟩⟩
  rw [enumD_get] at e
  cases q : items[i]? with
  | none => rw [q] at e; cases e
  | some x =>
    rw [q] at e
    cases e
    obtain ⟨v, e1, e2⟩ := dpAll_get hd q
    refine ⟨⟨vs, v, hH, e1⟩, ?_⟩
    rintro x' H2 ⟨T, w, rfl, hT, rfl, hy⟩
    have := hy vs hH
    rw [e1] at this
    cases this
    exact pair_yield s2 hT (by rw [Nat.zero_add]; exact .int _) (dp_mono s1 x _ e2)
theorem ite_yh {bx : Option Addr} {n : Nat} {H F : Hp} {a : Addr} {vs : List V} {items : List D} (h : H a = some (.lst vs)) (hd : DpAll K F vs items) (s : Same F H) (bxh : ∀ b, bx = some b → H b = some (.ext (boxP b n))) : YH K (Ite K a) (enumD 0 items) bx n H F := fun i n2 H2 F2 ad => by
  have hH : SqL K H2 a vs := .inl (.inl (ad.keep a _ h fun z => by rw [bxh a z] at h; cases h))
  refine ⟨fun d e => ?_, fun hl => ⟨vs, hH, by rw [dpAll_len hd]; rwa [enumD_len] at hl⟩⟩
  rw [enumD_get] at e
  cases q : items[i]? with
  | none => rw [q] at e; cases e
  | some x =>
    rw [q] at e
    cases e
    obtain ⟨v, e1, e2⟩ := dpAll_get hd q
    refine ⟨⟨vs, v, hH, e1⟩, ?_⟩
    rintro x' H3 ⟨T, w, rfl, hT, rfl, hy⟩
    have := hy vs hH
    rw [e1] at this
    cases this
    exact pair_yield ad.sub hT (by rw [Nat.zero_add]; exact .int _) (dp_mono (ad.fro s) x _ e2)
theorem i_enum {elts : List Expr} {kk : Nat} (hg : Gl X "enumerate") (hm : X.mg "enumerate" = none) (h : E2 X .fz a ma) (hs : starEach [a] X.env = [(false, eval a X.env)] := by rfl) (hs' : starEach [a] X.env = (false, eval a X.env) :: starEach [] X.env := by rfl) :
    I2 X (.Tuple elts kk tpos) (.Call (.Name "enumerate" p) [a] [] pos) (iEn ma) := by
  refine ⟨pi_weak (pi_enumS hg hm (pa_cons h.pe pa_nil hs') hs) fun σ H R ⟨A, τ, n, F, P, eK, Rl, hm, hq⟩ => tE_run eK Rl hm ?_⟩
  rintro d n' v H' F' (⟨xs, rfl, q⟩ | ⟨xs, rfl, q⟩) ad r
  · cases r with
    | lst hs ha => exact ⟨_, _, rfl, .inl ⟨ad.sub.seq hs, hq _ n' _ H' F' q ad (ite_yf hs ha)⟩⟩
  · cases r with
    | tup hs ha => exact ⟨_, _, rfl, .inr ⟨seqT ad.sub hs.sq, hq _ n' _ H' F' q ad (iteT_yf hs.sq ha)⟩⟩
theorem j_enum {elts : List Expr} {kk : Nat} (hg : Gl X "enumerate") (hm : X.mg "enumerate" = none) (h : E2 X .bw a ma) (hs : starEach [a] X.env = [(false, eval a X.env)] := by rfl) (hs' : starEach [a] X.env = (false, eval a X.env) :: starEach [] X.env := by rfl) :
    J2 X (.Tuple elts kk tpos) (.Call (.Name "enumerate" p) [a] [] pos) (iEn ma) := by
  refine ⟨pi_weak (pi_enumS hg hm (pa_cons h.pe pa_nil hs') hs) fun σ H R ⟨A, τ, n, F, P, eK, Rl, hm, hq⟩ => tE_run eK Rl hm ?_⟩
  rintro d n' v H' F' hd ad r
  rcases r with r | ⟨c, vs, ys, rfl, rfl, h1, h2⟩
  · rcases hd with ⟨xs, rfl, q⟩ | ⟨xs, rfl, q⟩
    · cases r with
      | lst hs ha => exact ⟨_, _, rfl, .inl ⟨ad.sub.seq hs, hq _ n' _ H' F' q ad ((ite_yf hs ha).yh ad.sub)⟩⟩
    · cases r with
      | tup hs ha => exact ⟨_, _, rfl, .inr ⟨seqT ad.sub hs.sq, hq _ n' _ H' F' q ad ((iteT_yf hs.sq ha).yh ad.sub)⟩⟩
  · rcases hd with ⟨xs, e, q⟩ | ⟨xs, e, q⟩
    · cases e
      exact ⟨_, _, rfl, .inl ⟨.inl (.inl h1), hq _ n' _ H' F' q ad (ite_yh h1 h2 ad.sub (Rl.step ad).box)⟩⟩
    · cases e

/-! ### for -/
def forD : List D → GM → SM → En → Ev → Nat → Prop
  | [], _, _, E, τ, n => E.nx τ n
  | x :: r, g, b, E, τ, n => g x τ n fun τ1 n1 => b { E with nx := fun τ2 n2 => forD r g b E τ2 n2, ct := fun τ2 n2 => forD r g b E τ2 n2, bk := E.nx } τ1 n1
def sFor (mi : IM) (g : GM) (b : SM) : SM := fun E τ n => mi τ n fun items n1 => forD items g b E τ n1
theorem p_for {body : List Stmt} {mi : IM} {g : GM} {m : SM} {ws : List Nat} (hp : PassesOwn (model X.prog X.w) X.A X.env X.xe) (hc : X.calm = true) (hi : I2 X tg iter mi) (hg : G2 X ws tg g) (hb : S2 X kr body m)
    (hs : ∀ x, foldedSetIterable iter X.env x = pure x := by intro _; rfl) : P2 X kr (.For tg iter body [] pos) (sFor mi g m) := by
  refine ⟨fun Wx tk => ps_weak (ps_for hp hc hi.pi hg.pg (hb.ps Wx tk) hs) fun Dd σ H ⟨A, τ, n, F, E, eK, R, p, e⟩ => ⟨A, τ, n, F, _, eK, R, p, fun items n1 J H1 F1 p1 a1 y => ?_⟩⟩
  refine ⟨fun i k σ2 H2 => ∃ τ2 n2 F2, k = items.length - i ∧ i ≤ items.length ∧ Rel A τ2 n2 σ2 H2 F2 ∧ Same F1 F2 ∧ forD (items.drop i) g m E τ2 n2, ⟨items.length, τ, n1, F1, rfl, Nat.zero_le _, R.step a1, Same.refl F1, by rw [List.drop_zero]; exact p1⟩, ?_⟩
  rintro i k σ2 H2 ⟨τ2, n2, F2, rfl, hi, R2, s2, q⟩
  obtain ⟨y1, y2⟩ := y i H2 F2 s2 R2.same
  by_cases hl : i < items.length
  · have ed : items.drop i = items[i] :: items.drop (i + 1) := List.drop_eq_getElem_cons hl
    rw [ed] at q
    obtain ⟨g1, g2⟩ := y1 items[i] (List.getElem?_eq_getElem hl)
    refine .inr ⟨g1, fun σ' H' => ∃ τ3 n3 F3, Rel A τ3 n3 σ' H' F3 ∧ Same F2 F3 ∧ forD (items.drop (i + 1)) g m E τ3 n3, ?_, ?_⟩
    · rintro σ' H' ⟨τ3, n3, F3, R3, s3, q3⟩
      exact ⟨items.length - (i + 1), by omega, τ3, n3, F3, rfl, hl, R3, s2.trans s3, q3⟩
    · intro x H3 hy
      obtain ⟨F3, a3, d3⟩ := g2 x H3 hy
      have R3 := R2.step (a3.adv R2.box)
      have f23 := a3.fro R2.same
      refine ⟨A, τ2, n2, F3, _, items[i], eK, R3, d3, q, fun τ4 n4 σ4 H4 F4 p4 R4 s4 _ _ => ⟨A, τ4, n4, F4, _, eK, R4, p4, ?_⟩⟩
      have f14 : Same F F4 := (a1.fro R.same).trans (s2.trans (f23.trans s4))
      refine ⟨fun τ5 n5 σ5 H5 F5 p5 R5 s5 => ⟨τ5, n5, F5, R5, f23.trans (s4.trans s5), p5⟩, fun τ5 n5 σ5 H5 F5 p5 R5 s5 => e.nx τ5 n5 σ5 H5 F5 p5 R5 (f14.trans s5), fun τ5 n5 σ5 H5 F5 p5 R5 s5 => ⟨τ5, n5, F5, R5, f23.trans (s4.trans s5), p5⟩, e.rt, fun τ5 x5 n5 σ5 H5 F5 cls dd p5 R5 s5 => e.xx τ5 x5 n5 σ5 H5 F5 cls dd p5 R5 (f14.trans s5)⟩
  · have ei : i = items.length := by omega
    subst ei
    rw [List.drop_length] at q
    exact .inl ⟨y2 (Nat.le_refl _), e.nx τ2 n2 σ2 H2 F2 q R2 ((a1.fro R.same).trans s2)⟩

/-! ### while -/
def sWh (c : CM) (b : SM) : SM := fun E τ n => ∃ W : Nat → Ev → Nat → Prop, (∃ k, W k τ n) ∧ ∀ k τ n, W k τ n → c τ n fun t n1 => if t = true then b { E with nx := fun τ' n' => ∃ k', k' < k ∧ W k' τ' n', ct := fun τ' n' => ∃ k', k' < k ∧ W k' τ' n', bk := E.nx } τ n1 else E.nx τ n1
theorem p_while {c : Expr} {body : List Stmt} {cc : CM} {m : SM} (hp : PassesOwn (model X.prog X.w) X.A X.env X.xe) (hc : T2 X c cc) (hb : S2 X kr body m) : P2 X kr (.While c body [] pos) (sWh cc m) := by
  refine ⟨fun Wx tk => ps_weak (ps_while hp hc.pt (hb.ps Wx tk)) fun Dd σ H ⟨A, τ, n, F, E, eK, R, ⟨W, ⟨k0, w0⟩, turn⟩, e⟩ => ?_⟩
  refine ⟨fun k σ2 H2 => ∃ τ2 n2 F2, Rel A τ2 n2 σ2 H2 F2 ∧ Same F F2 ∧ W k τ2 n2, ⟨k0, τ, n, F, R, Same.refl F, w0⟩, ?_⟩
  rintro k σ2 H2 ⟨τ2, n2, F2, R2, s2, w2⟩
  refine tT_go eK R2 (turn k τ2 n2 w2) fun t n3 H3 F3 p3 a3 => ?_
  have R3 := R2.step a3
  have f3 := s2.trans (a3.fro R2.same)
  cases t with
  | true =>
    rw [if_pos rfl] at p3 ⊢
    refine ⟨fun σ' H' => ∃ k', k' < k ∧ ∃ τ4 n4 F4, Rel A τ4 n4 σ' H' F4 ∧ Same F F4 ∧ W k' τ4 n4, fun σ' H' h => h, A, τ2, n3, F3, _, eK, R3, p3, ?_⟩
    refine ⟨fun τ5 n5 σ5 H5 F5 ⟨k', h1, h2⟩ R5 s5 => ⟨k', h1, τ5, n5, F5, R5, f3.trans s5, h2⟩, fun τ5 n5 σ5 H5 F5 p5 R5 s5 => e.nx τ5 n5 σ5 H5 F5 p5 R5 (f3.trans s5), fun τ5 n5 σ5 H5 F5 ⟨k', h1, h2⟩ R5 s5 => ⟨k', h1, τ5, n5, F5, R5, f3.trans s5, h2⟩, e.rt, fun τ5 x5 n5 σ5 H5 F5 cls dd p5 R5 s5 => e.xx τ5 x5 n5 σ5 H5 F5 cls dd p5 R5 (f3.trans s5)⟩
  | false =>
    rw [if_neg Bool.false_ne_true] at p3 ⊢
    exact e.nx τ2 n3 σ2 H3 F3 p3 R3 f3
end
end TL
set_option Elab.async false
set_option linter.all false
set_option maxRecDepth 100000
set_option maxHeartbeats 4000000
namespace TL
open PySem PySem.Spec PyProof.Rows L2
section
variable {X : Cx} {K : PySem.W.Frag} {tg iter : Expr} {a b : Expr} {ma mb mc : EM} {p pos tpos : Pos} {kr : Kd}

/-! ### comprehensions -/
def wipeE (τ : Ev) : List Nat → Ev
  | [] => τ
  | v :: vs => (wipeE τ vs).set v none
theorem wipeE_len (τ : Ev) : ∀ vs, (wipeE τ vs).length = τ.length
  | [] => rfl
  | v :: vs => by unfold wipeE; rw [List.length_set, wipeE_len τ vs]
theorem wipeE_some {τ : Ev} {i : Nat} {s : Sl} : ∀ {vs : List Nat}, (wipeE τ vs)[i]? = some (some s) → τ[i]? = some (some s) ∧ i ∉ vs
  | [], h => ⟨h, by simp⟩
  | v :: vs, h => by
    unfold wipeE at h
    by_cases hi : v = i
    · subst hi
      by_cases hv : v < (wipeE τ vs).length
      · rw [List.getElem?_set_self hv] at h; cases h
      · rw [List.getElem?_eq_none (by simpa using hv)] at h; cases h
    · rw [List.getElem?_set_ne hi] at h
      obtain ⟨h1, h2⟩ := wipeE_some h
      exact ⟨h1, by simp only [List.mem_cons, not_or]; exact ⟨fun e => hi e.symm, h2⟩⟩
theorem wipe_get {σ : L2.St} {i : Nat} : ∀ {vs : List Nat}, i ∉ vs → (wipe σ vs)[i]? = σ[i]?
  | [], _ => rfl
  | v :: vs, h => by
    unfold wipe
    rw [List.getElem?_set_ne (fun e => h (by simp [e]))]
    exact wipe_get fun e => h (List.mem_cons_of_mem _ e)
theorem Rel.wipe {A : Act} {τ : Ev} {n : Nat} {σ : L2.St} {H F : Hp} (R : Rel A τ n σ H F) (vs : List Nat) : Rel A (wipeE τ vs) n (wipe σ vs) H F := by
  refine ⟨R.ok, by rw [wipeE_len, wipe_length]; exact R.len, R.adv, fun i s e => ?_, fun i j a s s' hij e1 o1 e2 o2 e3 e4 => ?_⟩
  · obtain ⟨h1, h2⟩ := wipeE_some e
    obtain ⟨v, g1, g2⟩ := R.sl i s h1
    exact ⟨v, by rw [wipe_get h2]; exact g1, g2⟩
  · obtain ⟨h1, h2⟩ := wipeE_some e1
    obtain ⟨h3, h4⟩ := wipeE_some e2
    rw [wipe_get h2] at e3
    rw [wipe_get h4] at e4
    exact R.dis i j a s s' hij h1 o1 h3 o2 e3 e4
structure C2 (X : Cx) (ifs : List Expr) (c : CM) : Prop where
  pt : PTs X ifs (tT X.K c)
def cYes : CM := fun _ n Q => Q true n
theorem pts_weak {ifs : List Expr} {t t' : TT} (h : PTs X ifs t) (w : ∀ σ H Q, t' σ H Q → t σ H Q) : PTs X ifs t' := ⟨fun pins s σ H Q I q => h.run pins s σ H Q I (w σ H Q q)⟩
theorem c_nil : C2 X [] cYes := ⟨pts_weak pts_nil fun σ H Q ⟨A, τ, n, F, P, eK, R, p, hq⟩ => hq true n H F p (Adv.refl R.same R.box)⟩
theorem c_one {c : Expr} {cc : CM} (h : T2 X c cc) : C2 X [c] cc := ⟨pts_one h.pt⟩
def lcD (g : GM) (c : CM) (me : EM) (τw : Ev) : List D → List D → Nat → (D → Nat → Prop) → Prop
  | [], acc, n, Q => Q (.list acc) n
  | x :: r, acc, n, Q => g x τw n fun τ1 n1 => c τ1 n1 fun b n2 => if b = true then me τ1 n2 fun y n3 => acc.length < sizeLine ∧ lcD g c me τw r (acc ++ [y]) n3 Q else lcD g c me τw r acc n2 Q
def mLc (mi : IM) (g : GM) (c : CM) (me : EM) (vs : List Nat) : EM := fun τ n Q => mi τ n fun items n1 => lcD g c me (wipeE τ vs) items [] n1 Q
/-- the new list under way -/
structure LcI (A : Act) (bx : Option Addr) (n1 : Nat) (H1 F1 : Hp) (D0 : Addr) (acc : List D) (n : Nat) (H F : Hp) : Prop where
  adv : Adv bx n1 n H1 F1 H F
  fr : F D0 = none
  at_ : ∃ vs, H D0 = some (.lst vs) ∧ DpAll A.K F vs acc
theorem LcI.step {A : Act} {bx : Option Addr} {n1 n n' : Nat} {H1 F1 H F H' F' : Hp} {D0 : Addr} {acc : List D} (L : LcI A bx n1 H1 F1 D0 acc n H F) (ad : Adv bx n n' H F H' F') : LcI A bx n1 H1 F1 D0 acc n' H' F' := by
  obtain ⟨vs, h1, h2⟩ := L.at_
  have hb : bx ≠ some D0 := fun z => by rw [L.adv.box D0 z] at h1; cases h1
  refine ⟨L.adv.trans ad, ?_, vs, ad.keep D0 _ h1 hb, dp_monoAll (ad.fro L.adv.sub) acc vs h2⟩
  rw [ad.old D0 (by rw [h1]; exact fun z => nomatch z)]
  exact L.fr
theorem lc_read {A : Act} {τ : Ev} {n1 : Nat} {σ : L2.St} {H1 F1 : Hp} {vs : List Nat} {J : It} {items : List D} {g : GM} {c : CM} {me : EM} {ws : List Nat} {P : D → Nat → Prop} {Qd : Addr → Hp → Prop} (R : Rel A τ n1 σ H1 F1) (hw : ∀ i ∈ ws, i ∈ vs)
    (y : YH A.K J items A.bx n1 H1 F1) (h : lcD g c me (wipeE τ vs) items [] n1 P)
    (hq : ∀ D0 acc n' H' F', H1 D0 = none → P (.list acc) n' → LcI A A.bx n1 H1 F1 D0 acc n' H' F' → Qd D0 H') :
    ∀ D0, H1 D0 = none → ∃ W : Nat → Nat → Hp → Prop, (∃ m, W 0 m (upd H1 D0 (.lst []))) ∧ ∀ i m H, W i m H →
  (J.stop i H ∧ Qd D0 H) ∨ (J.go i H ∧ ∃ Nx : Hp → Prop, (∀ H', Nx H' → ∃ m', m' < m ∧ W (i + 1) m' H') ∧ ∀ x H', J.yld i H x H' → tG A.K ws g x (L2.wipe σ vs) H' fun σ2 H2 => L2.wipe σ2 vs = L2.wipe σ vs ∧ tT A.K c σ2 H2 fun b H3 =>
    if b = true then tE A.K .fz me σ2 H3 fun y H4 => ∃ acc, H4 D0 = some (.lst acc) ∧ acc.length < sizeLine ∧ Nx (upd H4 D0 (.lst (acc ++ [y]))) else Nx H3) := by
  intro D0 hD0
  have hF1 : F1 D0 = none := by
    cases e : F1 D0 with
    | none => rfl
    | some o => rw [R.same D0 o e] at hD0; cases hD0
  refine ⟨fun i m H => ∃ acc n F, m = items.length - i ∧ i ≤ items.length ∧ LcI A A.bx n1 H1 F1 D0 acc n H F ∧ lcD g c me (wipeE τ vs) (items.drop i) acc n P, ⟨items.length, [], n1, F1, rfl, Nat.zero_le _, ⟨(PAdv.new' R.same hD0).adv R.box, hF1, [], upd_same, .nil⟩, by rw [List.drop_zero]; exact h⟩, ?_⟩
  rintro i m H ⟨acc, n, F, rfl, hi, L, q⟩
  obtain ⟨y1, y2⟩ := y i n H F L.adv
  by_cases hl : i < items.length
  · have ed : items.drop i = items[i] :: items.drop (i + 1) := List.drop_eq_getElem_cons hl
    rw [ed] at q
    obtain ⟨g1, g2⟩ := y1 items[i] (List.getElem?_eq_getElem hl)
    refine .inr ⟨g1, fun H' => ∃ acc n F, LcI A A.bx n1 H1 F1 D0 acc n H' F ∧ lcD g c me (wipeE τ vs) (items.drop (i + 1)) acc n P, ?_, ?_⟩
    · rintro H' ⟨acc', n', F', L', q'⟩
      exact ⟨items.length - (i + 1), by omega, acc', n', F', rfl, hl, L', q'⟩
    · intro x H2 hy
      obtain ⟨F2, a2, d2⟩ := g2 x H2 hy
      have L2' := L.step (a2.adv (R.step L.adv).box)
      have R2 := (R.step L2'.adv).wipe vs
      refine ⟨A, wipeE τ vs, n, F2, _, items[i], rfl, R2, d2, q, fun τ3 n3 σ3 H3 F3 p3 R3 s3 a3 x3 => ⟨?_, ?_⟩⟩
      · rw [x3.1 vs hw]
        exact wipe_wipe σ vs
      · have L3 := L2'.step a3
        refine tT_go rfl R3 p3 fun t n4 H4 F4 p4 a4 => ?_
        have L4 := L3.step a4
        cases t with
        | true =>
          rw [if_pos rfl] at p4 ⊢
          refine tE_run rfl (R3.step a4) p4 fun d n5 v H5 F5 p5 a5 r5 => ?_
          obtain ⟨hz, p5⟩ := p5
          have L5 := L4.step a5
          obtain ⟨ws5, h51, h52⟩ := L5.at_
          refine ⟨ws5, h51, by rw [dpAll_len h52]; exact hz, acc ++ [d], n5, F5, ⟨⟨fun c o e hb => ?_, L5.adv.old, fun c o e => ?_, fun b hb => ?_⟩, L5.fr, ws5 ++ [v], upd_same, dpAll_append h52 (.cons r5 .nil)⟩, p5⟩
          · rw [upd_ne (ne_of_none e hD0)]; exact L5.adv.keep c o e hb
          · rw [upd_ne (ne_of_none e L5.fr)]; exact L5.adv.sub c o e
          · rw [upd_ne (fun z => by subst z; rw [L5.adv.box b hb] at h51; cases h51)]; exact L5.adv.box b hb
        | false =>
          rw [if_neg Bool.false_ne_true] at p4 ⊢
          exact ⟨acc, n4, F4, L4, p4⟩
  · have ei : i = items.length := by omega
    subst ei
    rw [List.drop_length] at q
    exact .inl ⟨y2 (Nat.le_refl _), hq D0 acc n H F hD0 q L⟩
where
  wipe_wipe (σ : L2.St) (vs : List Nat) : L2.wipe (L2.wipe σ vs) vs = L2.wipe σ vs := by
    apply List.ext_getElem?
    intro i
    by_cases h : i ∈ vs
    · rw [wget σ vs h, wget (L2.wipe σ vs) vs h, wipe_length]
    · rw [wipe_get h]
  wget (σ : L2.St) : ∀ (vs : List Nat) {i : Nat}, i ∈ vs → (L2.wipe σ vs)[i]? = if i < σ.length then some none else none
    | [], i, h => by cases h
    | v :: vs, i, h => by
      unfold L2.wipe
      by_cases e : v = i
      · subst e
        by_cases hl : v < σ.length
        · rw [List.getElem?_set_self (by rw [wipe_length]; exact hl), if_pos hl]
        · rw [List.getElem?_eq_none (by rw [List.length_set, wipe_length]; omega), if_neg hl]
      · rw [List.getElem?_set_ne e]
        exact wget σ vs ((List.mem_cons.mp h).resolve_left (Ne.symm e))
theorem e_lc {elt : Expr} {ifs : List Expr} {scope : Scope} {own : List (Str × Nat)} {mi : IM} {g : GM} {c : CM} {me : EM} {ws : List Nat} (hc : X.calm = true) (hN : X.N.Nodup) (hi : J2 X tg iter mi) (ok : BlkOk X.N X.env.scope scope own)
    (hg : ∀ (s : Shared) (H : Hp) (C : Addr) (cl : List (Str × Addr)) (fp : List Addr), G2 (X.blk s H scope (compEnvC scope cl C X.env) fp) ws tg g) (ht : ∀ (s : Shared) (H : Hp) (C : Addr) (cl : List (Str × Addr)) (fp : List Addr), C2 (X.blk s H scope (compEnvC scope cl C X.env) fp) ifs c)
    (he : ∀ (s : Shared) (H : Hp) (C : Addr) (cl : List (Str × Addr)) (fp : List Addr), E2 (X.blk s H scope (compEnvC scope cl C X.env) fp) .fz elt me) (hw : ∀ i ∈ ws, i ∈ own.map (·.2) := by decide) (hs : ∀ x, foldedSetIterable iter X.env x = pure x := by intro _; rfl) :
    E2 X .nw (.ListComp elt [⟨tg, iter, ifs, 0⟩] scope pos) (mLc mi g c me (own.map (·.2))) := by
  refine ⟨pe_weak (pe_lc (te := tE X.K .fz me) (g := tG X.K ws g) (tt := tT X.K c) hc hN hi.pi ok (fun s H C cl fp => (hg s H C cl fp).pg) (fun s H C cl fp => (ht s H C cl fp).pt) (fun s H C cl fp => (he s H C cl fp).pe) hs) fun σ H Q ⟨A, τ, n, F, P, eK, R, hm, hq⟩ => ⟨A, τ, n, F, _, eK, R, hm, fun items n1 J H1 F1 p1 a1 y => ?_⟩⟩
  have eK' : A.K = X.K := eK
  have := lc_read (Qd := fun D0 H' => Q (.ref D0) H') (R.step a1) hw (eK'.symm ▸ y) p1 fun D0 acc n' H' F' hD p' L => by
    obtain ⟨vs, h1, h2⟩ := L.at_
    exact hq _ n' _ H' F' p' (a1.trans L.adv) ⟨D0, vs, acc, rfl, rfl, a1.none_back D0 hD, L.fr, h1, eK' ▸ h2⟩
  rw [eK'] at this
  exact this
/-- name = [..] of one line, the name a local -/
theorem p_setLc {k : Kd} {i : Nat} {y : Str} {py spos : Pos} {elt : Expr} {ifs : List Expr} {scope : Scope} {own : List (Str × Nat)} {mi : IM} {g : GM} {c : CM} {me : EM} {ws : List Nat} (hk : k = .fz ∨ k = .nw) (hc : X.calm = true) (hN : X.N.Nodup) (hy : X.N[i]? = some y) (hyl : X.env.scope.names.lookup y = some .local)
    (hi : J2 X tg iter mi) (ok : BlkOk X.N X.env.scope scope own)
    (hg : ∀ (s : Shared) (H : Hp) (C : Addr) (cl : List (Str × Addr)) (fp : List Addr), G2 (X.blk s H scope (compEnvC scope cl C X.env) fp) ws tg g) (ht : ∀ (s : Shared) (H : Hp) (C : Addr) (cl : List (Str × Addr)) (fp : List Addr), C2 (X.blk s H scope (compEnvC scope cl C X.env) fp) ifs c)
    (he : ∀ (s : Shared) (H : Hp) (C : Addr) (cl : List (Str × Addr)) (fp : List Addr), E2 (X.blk s H scope (compEnvC scope cl C X.env) fp) .fz elt me)
    (hsw : swapsWith (.ListComp elt [⟨tg, iter, ifs, 0⟩] scope pos) (some (.Name y py)) spos.line X.env = pure true) (hw : ∀ i ∈ ws, i ∈ own.map (·.2) := by decide) (hs : ∀ x, foldedSetIterable iter X.env x = pure x := by intro _; rfl) :
    P2 X kr (.Assign [.Name y py] (.ListComp elt [⟨tg, iter, ifs, 0⟩] scope pos) spos) (sSet k i (mLc mi g c me (own.map (·.2)))) := by
  refine ⟨fun Wx tk => ps_weak (ps_setLc (te := tE X.K .fz me) (g := tG X.K ws g) (tt := tT X.K c) hc hN hy hyl hsw hi.pi ok (fun s H C cl fp => (hg s H C cl fp).pg) (fun s H C cl fp => (ht s H C cl fp).pt) (fun s H C cl fp => (he s H C cl fp).pe) hs) fun Dd σ H ⟨A, τ, n, F, E, eK, R, hm, e⟩ => ⟨A, τ, n, F, _, eK, R, hm, fun items n1 J H1 F1 p1 a1 yy => ?_⟩⟩
  have eK' : A.K = X.K := eK
  have := lc_read (Qd := fun D0 H' => Dd.nx (σ.set i (some (.ref D0))) H') (R.step a1) hw (eK'.symm ▸ yy) p1 fun D0 acc n' H' F' hD p' L => by
    obtain ⟨vs, h1, h2⟩ := L.at_
    have r : RepK A.K .nw H H' F' (.ref D0) (.list acc) := ⟨D0, vs, acc, rfl, rfl, a1.none_back D0 hD, L.fr, h1, h2⟩
    have ad := a1.trans L.adv
    rcases hk with rfl | rfl
    · obtain ⟨F2, g1, g2, g3, g4⟩ := nw_fz ad.sub r
      have ad2 : Adv A.bx n n' H F H' F2 := ⟨ad.keep, fun c hc => (g1 c hc).trans (ad.old c hc), g2, ad.box⟩
      exact e.nx _ n' _ H' F2 p' (R.set1 (k := .fz) i (by intro z; cases z) ad2 g4) (ad2.fro R.same)
    · exact e.nx _ n' _ H' F' p' (R.set1 (k := .nw) i (by intro z; cases z) ad r) (ad.fro R.same)
  rw [eK'] at this
  exact this

/-! ### arguments of defs -/
def kNil : AM := fun _ n Q => Q [] n
def kCons (m : EM) (r : AM) : AM := fun τ n Q => m τ n fun d n1 => r τ n1 fun ss n2 => Q (.d d :: ss) n2
def kBox (i : Nat) (r : AM) : AM := fun τ n Q => τ[i]? = some (some .box) ∧ r τ n fun ss n2 => Q (.box :: ss) n2
theorem SlArg.mono {bx : Option Addr} {F F' : Hp} (s : Same F F') {x : Sl} {v : V} (h : SlArg K bx F x v) : SlArg K bx F' x v := by
  cases x with
  | d x => exact dp_mono s x v h
  | _ => exact h
theorem a_nil : A2 X [] kNil := ⟨pa_weak pa_nil fun σ H Q ⟨A, τ, n, F, P, eK, R, p, hq⟩ => hq [] n [] H F p (Adv.refl R.same R.box) .nil⟩
theorem a_cons {es : List Expr} {m : AM} (ha : E2 X .fz a ma) (hr : A2 X es m) (hs : starEach (a :: es) X.env = (false, eval a X.env) :: starEach es X.env := by rfl) : A2 X (a :: es) (kCons ma m) := by
  refine ⟨pa_weak (pa_cons ha.pe hr.pa hs) fun σ H Q ⟨A, τ, n, F, P, eK, R, hm, hq⟩ => tE_run eK R hm fun d n1 v H1 F1 p1 a1 r1 => ?_⟩
  refine ⟨A, τ, n1, F1, _, eK, R.step a1, p1, fun ds n2 vs H2 F2 p2 a2 r2 => ?_⟩
  exact hq (.d d :: ds) n2 (v :: vs) H2 F2 p2 (a1.trans a2) (.cons (dp_mono (a2.fro a1.sub) d v r1) r2)
theorem a_box {es : List Expr} {m : AM} {i : Nat} (ha : PE X a (tVar i)) (hr : A2 X es m) (hs : starEach (a :: es) X.env = (false, eval a X.env) :: starEach es X.env := by rfl) : A2 X (a :: es) (kBox i m) := by
  refine ⟨pa_weak (pa_cons ha hr.pa hs) fun σ H Q ⟨A, τ, n, F, P, eK, R, ⟨e, hm⟩, hq⟩ => ?_⟩
  obtain ⟨v, h1, h2⟩ := R.sl i _ e
  exact ⟨v, h1, A, τ, n, F, _, eK, R, hm, fun ds n2 vs H2 F2 p2 a2 r2 => hq (.box :: ds) n2 (v :: vs) H2 F2 p2 a2 (.cons h2 r2)⟩

/-! ### defs -/
abbrev FM := List Sl → Nat → (D → Nat → Prop) → (XE → Nat → Prop) → Prop
/-- a def's promise over data -/
def Pr (K : PySem.W.Frag) (kr : Kd) (np : Nat) (m : FM) : Sp := fun vs H Q Ex => ∃ F as n bx P PX, as.length = np ∧ Same F H ∧ (∀ b, bx = some b → H b = some (.ext (boxP b n)) ∧ F b = none) ∧ Paired (SlArg K bx F) as vs ∧ m as n P PX ∧
  (∀ d n' v H' F', P d n' → Adv bx n n' H F H' F' → RepK K kr H H' F' v d → Q v H') ∧ ∀ x n' cls dd H' F', PX x n' → Adv bx n n' H F H' F' → XRep K F' H' x cls dd → Ex cls dd H'
theorem Pr.len {kr : Kd} {np : Nat} {m : FM} (vs : List V) (H : Hp) (Q : VK) (E : XK) (h : Pr K kr np m vs H Q E) : vs.length = np := by
  obtain ⟨F, as, n, bx, P, PX, hl, _, _, hp, _⟩ := h
  exact hp.length.symm.trans hl
/-- a weaker promise -/
theorem Pr.imp {kr : Kd} {np : Nat} {m m' : FM} (h : ∀ as n P PX, as.length = np → m' as n P PX → m as n P PX) (vs : List V) (H : Hp) (Q : VK) (E : XK) (q : Pr K kr np m' vs H Q E) : Pr K kr np m vs H Q E := by
  obtain ⟨F, as, n, bx, P, PX, hl, s, b, hp, hm, r⟩ := q
  exact ⟨F, as, n, bx, P, PX, hl, s, b, hp, h as n P PX hl hm, r⟩
/-- f(..) that raises nothing -/
def mCall (f : FM) (m : AM) : EM := fun τ n Q => m τ n fun ss n1 => f ss n1 Q fun _ _ => False
theorem tCall_go {kr : Kd} {np : Nat} {f : FM} {m : AM} {σ : L2.St} {H : Hp} {Q : VK} {E : XK} (h : tE K kr (mCall (fun ss n P PX => ss.length = np ∧ f ss n P PX) m) σ H Q) : tCall (Pr K kr np f) [] E (tA K m) σ H Q := by
  obtain ⟨A, τ, n, F, P, eK, R, hm, hq⟩ := h
  refine ⟨A, τ, n, F, _, eK, R, hm, fun ss n1 vs H1 F1 p1 a1 r1 => ?_⟩
  show Pr K kr np f (vs ++ []) H1 Q E
  rw [List.append_nil]
  have R1 := R.step a1
  refine ⟨F1, ss, n1, A.bx, P, fun _ _ => False, p1.1, R1.same, fun b hb => ⟨R1.box b hb, ?_⟩, r1, p1.2, fun d n' v H' F' p' a' r' => ?_, fun _ _ _ _ _ _ z => z.elim⟩
  · have h0 := R.ok.box b hb
    rw [R1.adv.old b (by rw [h0.1]; exact fun z => nomatch z)]
    exact h0.2
  · exact hq d n' v H' F' p' (a1.trans a') (r'.h0 fun c h => a1.none_back c h)
/-- the def's arguments' number is told -/
abbrev mCal (np : Nat) (f : FM) (m : AM) : EM := mCall (fun ss n P PX => ss.length = np ∧ f ss n P PX) m
theorem e_call {k : Nat} {fa : Addr} {fd : FuncData} {ps : List Str} {kr : Kd} {np : Nat} {f : FM} {m : AM} {x : Str} {es : List Expr} (G : FnOk X.prog X.w X.K X.mg X.base CX0 k fa fd ps (Pr X.K kr np f)) (hr : Room k X.A) (hg : Gl X x) (hm : X.mg x = some (.ref fa)) (hk : PySem.W.keepIn X.K (.ref fa) = true) (hb : Binds X.K fd ps [])
    (ha : A2 X (a :: es) m) (hdb : (x == ("__debug__" : Str)) = false := by decide) (he : starEach (a :: es) X.env = (false, eval a X.env) :: starEach es X.env := by rfl) (hpl : (backTo pos (starEach es X.env)).any (·.1) = false := by rfl) :
    E2 X kr (.Call (.Name x p) (a :: es) [] pos) (mCal np f m) :=
  ⟨pe_weak (pe_call G hr hg hm hk hb .nil pass0 ha.pa hdb he hpl) fun _ _ _ h => tCall_go h⟩
/-- the names of a def at its start -/
def startE (nN : Nat) (as : List Sl) : Ev := as.map some ++ List.replicate (nN - as.length) none
theorem start_rel {K : PySem.W.Frag} {N : List Str} {as : List Sl} {vs : List V} {H F : Hp} {bx : Option Addr} {n : Nat} (s : Same F H) (hb : ∀ b, bx = some b → H b = some (.ext (boxP b n)) ∧ F b = none) (hp : Paired (SlArg K bx F) as vs) :
    Rel ⟨K, H, F, bx, n⟩ (startE N.length as) n (L2.start N vs) H F := by
  have hl : as.length = vs.length := hp.length
  have key : ∀ (as : List Sl) (vs : List V), Paired (SlArg K bx F) as vs → ∀ (i : Nat) (s : Sl), as[i]? = some s → ∃ v, vs[i]? = some v ∧ SlArg K bx F s v := by
    intro as
    induction as with
    | nil => intro vs _ i s e; simp at e
    | cons x r ih =>
      intro vs h i s e
      cases h with
      | cons h1 h2 =>
        cases i with
        | zero => simp at e; subst e; exact ⟨_, rfl, h1⟩
        | succ i =>
          obtain ⟨v, g1, g2⟩ := ih _ h2 i s (by simpa using e)
          exact ⟨v, by simpa using g1, g2⟩
  have at_ : ∀ (i : Nat) (s : Sl), (startE N.length as)[i]? = some (some s) → as[i]? = some s := fun i s e => by
    unfold startE at e
    by_cases hi : i < as.length
    · rw [List.getElem?_append_left (by simpa using hi), List.getElem?_map] at e
      cases q : as[i]? with
      | none => rw [q] at e; cases e
      | some x => rw [q] at e; cases e; rfl
    · rw [List.getElem?_append_right (by simpa using Nat.le_of_not_lt hi), List.getElem?_replicate] at e
      split at e <;> cases e
  have own : ∀ (i : Nat) (s : Sl), (startE N.length as)[i]? = some (some s) → s.own = true → False := fun i s e o => by
    obtain ⟨v, _, g⟩ := key as vs hp i s (at_ i s e)
    cases s <;> first | exact g | exact absurd o (by simp [Sl.own])
  refine ⟨⟨s, hb⟩, ?_, Adv.refl s fun b h => (hb b h).1, fun i s' e => ?_, fun i j a s1 s2 _ e1 o1 _ _ _ => (own i s1 e1 o1).elim⟩
  · unfold startE L2.start
    simp [hl]
  · obtain ⟨v, g1, g2⟩ := key as vs hp i s' (at_ i s' e)
    refine ⟨v, ?_, ?_⟩
    · unfold L2.start
      rw [List.getElem?_append_left (by rw [List.length_map]; exact (List.getElem?_eq_some_iff.mp g1).1), List.getElem?_map, g1]
      rfl
    · cases s' <;> first | exact g2 | exact g2.elim
/-- what a def's body does -/
def bodyM (nN : Nat) (b : (XE → Nat → Prop) → SM) : FM := fun as n P PX => b PX { nx := fun _ n' => P .none n', rt := P } (startE nN as) n
theorem fn_ok {P : Program} {w : World} {mg : Str → Option Value} {base : Heap} {x qual : Str} {params : Arguments} {body : List Stmt} {scope : Scope} {f : Addr} {fd : FuncData} {N ps : List Str} {k : Nat} {kr : Kd} {b : SM} {mN : Nat}
    (F : FunD K x qual params body scope [] [] f fd) (S : FnScope N ps scope) (hN : N.length = mN) (hkr : kr = .fz ∨ kr = .nw)
    (hbody : ∀ (cdv : Value) (A : Around) (outer : List Env) (s : Shared) (H : Hp) (E : XK), Room k (A.deeper (envOfC qual scope s.heap.objs.size f cdv)) → S2 (cxOf CX0 P w K mg base N qual scope f cdv A outer s H E).nox kr body b)
    (hnx : kr = .nw → ∀ E τ n, b E τ n → b { E with nx := fun _ _ => False } τ n) :
    FnOk P w K mg base CX0 (k + 1) f fd ps (Pr K kr ps.length (bodyM mN fun _ => b)) := by
  refine F.ok S (fun vs H Q E h => Pr.len vs H Q E h) fun cdv A outer s H vs Q E hr h => ⟨_, ((hbody cdv A outer s H E hr).ps _ takesF).nox, ?_⟩
  obtain ⟨F0, as, n, bx, P', PX, hl, sm, hb, hp, hm, hq, hx⟩ := h
  have R := start_rel (N := N) sm hb hp
  rw [hN] at R
  rcases hkr with rfl | rfl
  · exact ⟨_, _, n, F0, _, rfl, R, hm, ⟨fun τ n' σ H' F' p' R' _ => hq .none n' .non H' F' p' R'.adv .non, fun _ _ _ _ _ z => z.elim, fun _ _ _ _ _ z => z.elim, fun d n' v H' F' p' a' r' => hq d n' v H' F' p' a' r', fun _ _ _ _ _ _ _ _ z => z.elim⟩⟩
  · exact ⟨_, _, n, F0, _, rfl, R, hnx rfl _ _ _ hm, ⟨fun _ _ _ _ _ z => z.elim, fun _ _ _ _ _ z => z.elim, fun _ _ _ _ _ z => z.elim, fun d n' v H' F' p' a' r' => hq d n' v H' F' p' a' r', fun _ _ _ _ _ _ _ _ z => z.elim⟩⟩
end
end TL
set_option Elab.async false
set_option linter.all false
set_option maxRecDepth 100000
set_option maxHeartbeats 4000000
namespace TL
open PySem PySem.Spec PyProof.Rows L2
section
variable {X : Cx} {K : PySem.W.Frag} {tg iter : Expr} {a b c e : Expr} {ma mb mc me : EM} {p pos tpos apos cpos : Pos} {kr : Kd}

/-! ### an owned list is changed -/
theorem Rel.upd {A : Act} {τ : Ev} {n : Nat} {σ : L2.St} {H F : Hp} (R : Rel A τ n σ H F) {i : Nat} {xs ys : List D} {l : Addr} {ws : List V} (e : τ[i]? = some (some (.ow xs))) (e2 : σ[i]? = some (some (.ref l))) (hd : DpAll A.K F ws ys) :
    Rel A (τ.set i (some (.ow ys))) n σ (upd H l (.lst ws)) F := by
  obtain ⟨v, h1, a, vs, rfl, h2, h3, h4, h5⟩ := R.sl i _ e
  rw [e2] at h1
  cases h1
  have hi : i < τ.length := (List.getElem?_eq_some_iff.mp e).1
  have hb : A.bx ≠ some l := fun z => by rw [R.box l z] at h4; cases h4
  refine ⟨R.ok, by rw [List.length_set]; exact R.len, ⟨fun c o z x => ?_, R.adv.old, fun c o z => ?_, fun b z => ?_⟩, fun j s z => ?_, fun j k b s1 s2 hjk e1 o1 e3 o2 e4 e5 => ?_⟩
  · rw [upd_ne (ne_of_none z h2)]; exact R.adv.keep c o z x
  · rw [upd_ne (ne_of_none z h3)]; exact R.same c o z
  · rw [upd_ne (fun q => by subst q; exact hb z)]; exact R.box b z
  · by_cases q : j = i
    · subst q
      rw [List.getElem?_set_self hi] at z
      cases z
      exact ⟨_, e2, l, ws, rfl, h2, h3, upd_same, hd⟩
    · rw [List.getElem?_set_ne (Ne.symm q)] at z
      obtain ⟨w, g1, g2⟩ := R.sl j s z
      refine ⟨w, g1, ?_⟩
      have ne : ∀ c, s.own = true → At s σ[j]? c → c ≠ l := fun c o ew ec => by subst ec; exact R.dis j i c _ _ q z o e rfl ew (.inl e2)
      cases s with
      | ow zs =>
        obtain ⟨c, us, rfl, k1, k2, k3, k4⟩ := g2
        exact ⟨c, us, rfl, k1, k2, by rw [upd_ne (ne c rfl (.inl g1))]; exact k3, k4⟩
      | odk zs =>
        obtain ⟨c, us, rfl, k1, k2, k3, k4⟩ := g2
        exact ⟨c, us, rfl, k1, k2, by rw [upd_ne (ne c rfl (.inl g1))]; exact k3, k4⟩
      | odt zs =>
        obtain ⟨c, us, rfl, k1, k2, k3, k4⟩ := g2
        exact ⟨c, us, rfl, k1, k2, by rw [upd_ne (ne c rfl (.inl g1))]; exact k3, k4⟩
      | nl as xss =>
        obtain ⟨c, rfl, nd, k1, k2, k3, k4⟩ := g2
        exact ⟨c, rfl, nd, k1, k2, by rw [upd_ne (ne c rfl (.inl g1))]; exact k3, k4.imp fun b hb us zs p1 p2 p3 p4 => ⟨p1, p2, by rw [upd_ne (ne b rfl (.inr hb))]; exact p3, p4⟩⟩
      | d x => exact g2
      | box => exact g2
      | raw x => exact g2
      | dk x => exact g2
      | dt x => exact g2
  · by_cases zj : j = i
    · subst zj
      by_cases zk : k = j
      · exact absurd zk (Ne.symm hjk)
      · rw [List.getElem?_set_ne (Ne.symm zk)] at e3
        rw [List.getElem?_set_self hi] at e1
        cases e1
        exact R.dis j k b _ s2 hjk e rfl e3 o2 e4 e5
    · rw [List.getElem?_set_ne (Ne.symm zj)] at e1
      by_cases zk : k = i
      · subst zk
        rw [List.getElem?_set_self hi] at e3
        cases e3
        exact R.dis j k b s1 _ hjk e1 o1 e rfl e4 e5
      · rw [List.getElem?_set_ne (Ne.symm zk)] at e3
        exact R.dis j k b s1 s2 hjk e1 o1 e3 o2 e4 e5
/-- expressions that change owned lists -/
abbrev XM := Ev → Nat → (D → Ev → Nat → Prop) → Prop
def tX (K : PySem.W.Frag) (m : XM) : TE := fun σ H Q => ∃ A τ n F P, A.K = K ∧ Rel A τ n σ H F ∧ m τ n P ∧ ∀ d τ' n' v H' F', P d τ' n' → Rel A τ' n' σ H' F' → Same F F' → Dp K F' v d → Q v H'
structure X2 (X : Cx) (e : Expr) (m : XM) : Prop where
  pe : PE X e (tX X.K m)
def xOf (m : EM) : XM := fun τ n Q => m τ n fun d n' => Q d τ n'
theorem x_of (h : E2 X .fz e me) : X2 X e (xOf me) := ⟨pe_weak h.pe fun σ H Q ⟨A, τ, n, F, P, eK, R, hm, hq⟩ => tE_run eK R hm fun d n' v H' F' p1 a1 r1 => hq d τ n' v H' F' p1 (R.step a1) (a1.fro R.same) r1⟩
def sX (m : XM) : SM := fun E τ n => m τ n fun _ τ' n' => E.nx τ' n'
theorem p_exprX {m : XM} (h : X2 X e m) (hs : swapsWith e none pos.line X.env = pure false := by rfl) : P2 X kr (.Expr e pos) (sX m) :=
  ⟨fun Wx tk => ps_weak (ps_expr h.pe hs) fun Dd σ H ⟨A, τ, n, F, E, eK, R, p, e⟩ => ⟨A, τ, n, F, _, eK, R, p, fun d τ' n' v H' F' p1 R1 s1 r1 => e.nx τ' n' σ H' F' p1 R1 s1⟩⟩
def sSetX (i : Nat) (m : XM) : SM := fun E τ n => m τ n fun d τ' n' => E.nx (τ'.set i (some (.d d))) n'
theorem p_setX {m : XM} {i : Nat} {x : Str} {pos' : Pos} (hN : X.N.Nodup) (hi : X.N[i]? = some x) (hx : Loc X.env.scope x) (h : X2 X e m) (hs : swapsWith e (some (.Name x pos')) pos.line X.env = pure false := by rfl)
    (hf : X.fn x = true ∨ X.env.scope.names.lookup x = some .local := by first | exact .inl rfl | exact .inr rfl | assumption) : P2 X kr (.Assign [.Name x pos'] e pos) (sSetX i m) :=
  ⟨fun Wx tk => ps_weak (ps_set hN hi hx h.pe hs hf) fun Dd σ H ⟨A, τ, n, F, E, eK, R, p, e⟩ => ⟨A, τ, n, F, _, eK, R, p, fun d τ' n' v H' F' p1 R1 s1 r1 => by
    rw [← eK] at r1
    exact e.nx _ n' _ H' F' p1 (R1.setS (s := .d d) i r1 fun z => by cases z) s1⟩⟩
/-- a method of an owned list: xs, the arguments -> the answer, the list then -/
abbrev MOp := List D → List D → (D → List D → Prop) → Prop
def DoesM (K : PySem.W.Frag) (f : MOp) (r : V → List V → Hp → VK → Prop) : Prop := ∀ (H F : Hp) (l : Addr) (vs ws : List V) (xs ds : List D) (P : D → List D → Prop) (Q : VK), H l = some (.lst vs) → DpAll K F vs xs → DpAll K F ws ds → f xs ds P →
  (∀ d ys v us, P d ys → DpAll K F us ys → Dp K F v d → Q v (upd H l (.lst us))) → r (.ref l) ws H Q
def xMt (f : MOp) (i : Nat) (m : DM) : XM := fun τ n Q => ∃ xs, τ[i]? = some (some (.ow xs)) ∧ m τ n fun ds n1 => f xs ds fun d ys => Q d (τ.set i (some (.ow ys))) n1
theorem own_tyV {A : Act} {H F : Hp} {xs : List D} {v : V} (h : SlOk A H F (.ow xs) v) : tyV K "list" v H := by
  obtain ⟨a, vs, rfl, _, _, h1, _⟩ := h
  exact .inl ⟨rfl, vs, .inl (.inl h1)⟩
theorem x_mt {o : Expr} {es : List Expr} {i : Nat} {name : Str} {id : String} {r : V → List V → Hp → VK → Prop} {f : MOp} {m : DM} (slot : Slot "list" name id) (hty : typeOf (.builtin id) = pure (.type "method_descriptor")) (hm : MtR X id r) (hf : DoesM X.K f r) (ho : PE X o (tVar i)) (ha : D2 X (a :: es) m)
    (hbase : attributeBase o name X.env (eval o X.env) = eval o X.env := by rfl)
    (hfew : ((backTo cpos (starEach (a :: es) X.env)).all (fun x => !x.1) && (backToKw cpos (keywordEach [] X.env)).all (fun x => x.1.isSome)
      && decide ((a :: es).length + ([] : List Keyword).length + (if ([] : List Keyword).isEmpty then 0 else 1) < 30)) = true := by rfl)
    (hline : (apos.endLine == cpos.line) = true := by rfl) (hs : starEach (a :: es) X.env = (false, eval a X.env) :: starEach es X.env := by rfl) (hplain : (backTo cpos (starEach es X.env)).any (·.1) = false := by rfl) :
    X2 X (.Call (.Attribute o name apos) (a :: es) [] cpos) (xMt f i m) := by
  refine ⟨pe_weak (pe_bm PySem.F.plainAttrs_list slot hty hm ho ha.pa hbase hfew hline hs hplain) fun σ H Q ⟨A, τ, n, F, P, eK, R, ⟨xs, e, hmm⟩, hq⟩ => ?_⟩
  obtain ⟨v, h1, h2⟩ := R.sl i _ e
  refine ⟨v, h1, own_tyV h2, A, τ, n, F, _, eK, R, hmm, fun ds n1 ws H1 F1 p1 a1 r1 => ?_⟩
  have R1 := R.step a1
  obtain ⟨v', h1', l, vs, rfl, g1, g2, g3, g4⟩ := R1.sl i _ e
  rw [h1] at h1'
  cases h1'
  rw [eK] at g4
  refine hf H1 F1 l vs ws xs ds _ _ g3 g4 r1 p1 fun d ys v us p2 r2 r3 => ?_
  exact hq d _ n1 v _ F1 p2 (R1.upd e h1 (eK ▸ r2)) (a1.fro R.same) r3
theorem x_mt0 {o : Expr} {i : Nat} {name : Str} {id : String} {r : V → List V → Hp → VK → Prop} {f : MOp} (slot : Slot "list" name id) (hty : typeOf (.builtin id) = pure (.type "method_descriptor")) (hm : MtR X id r) (hf : DoesM X.K f r) (ho : PE X o (tVar i))
    (hbase : attributeBase o name X.env (eval o X.env) = eval o X.env := by rfl) (hline : (apos.endLine == cpos.line) = true := by rfl) : X2 X (.Call (.Attribute o name apos) [] [] cpos) (xMt f i aNil) := by
  refine ⟨pe_weak (pe_bm0 PySem.F.plainAttrs_list slot hty hm ho hbase hline) fun σ H Q ⟨A, τ, n, F, P, eK, R, ⟨xs, e, hmm⟩, hq⟩ => ?_⟩
  obtain ⟨v, h1, h2⟩ := R.sl i _ e
  refine ⟨v, h1, own_tyV h2, ?_⟩
  obtain ⟨l, vs, rfl, g1, g2, g3, g4⟩ := h2
  rw [eK] at g4
  refine hf H F l vs [] xs [] _ _ g3 g4 .nil hmm fun d ys v us p2 r2 r3 => ?_
  exact hq d _ n v _ F p2 (R.upd e h1 (eK ▸ r2)) (Same.refl F) r3
def oApp : MOp := fun xs ds P => ∃ d, ds = [d] ∧ xs.length < sizeLine ∧ P .none (xs ++ [d])
theorem does_app : DoesM K oApp rAppend := by
  rintro H F l vs ws xs ds P Q hl h1 h2 ⟨d, rfl, hz, p⟩ hq
  cases h2 with
  | cons h2 h3 =>
    cases h3
    exact ⟨l, vs, _, rfl, rfl, hl, by rw [dpAll_len h1]; exact hz, hq _ _ _ _ p (dpAll_append h1 (.cons h2 .nil)) .non⟩
def oIns : MOp := fun xs ds P => ∃ i d, ds = [.int i, d] ∧ xs.length < sizeLine ∧ (0 ≤ i ∧ i < 2 ^ 63) ∧ P .none (xs.take i.toNat ++ [d] ++ xs.drop i.toNat)
abbrev rInsert : V → List V → Hp → VK → Prop := fun x vs H Q => ∃ (l : Addr) (xs : List V) (i : Int) (y : V), x = .ref l ∧ vs = [.int i, y] ∧ H l = some (.lst xs) ∧ xs.length < sizeLine ∧ 0 ≤ i ∧ i < 2 ^ 63 ∧
    Q .non (upd H l (.lst (xs.take i.toNat ++ [y] ++ xs.drop i.toNat)))
theorem does_ins : DoesM K oIns rInsert := by
  rintro H F l vs ws xs ds P Q hl h1 h2 ⟨i, d, rfl, hz, ⟨i1, i2⟩, p⟩ hq
  cases h2 with
  | cons h2 h3 =>
    cases h2
    cases h3 with
    | cons h3 h4 =>
      cases h4
      exact ⟨l, vs, i, _, rfl, rfl, hl, by rw [dpAll_len h1]; exact hz, i1, i2, hq _ _ _ _ p (dpAll_append (dpAll_append (dpAll_take _ h1) (.cons h3 .nil)) (dpAll_drop _ h1)) .non⟩
def oPop : MOp := fun xs ds P => ∃ d, ds = [] ∧ xs[xs.length - 1]? = some d ∧ P d xs.dropLast
theorem dpAll_dropLast {F : Hp} {vs : List V} {ds : List D} (h : DpAll K F vs ds) : DpAll K F vs.dropLast ds.dropLast := by
  rw [List.dropLast_eq_take, List.dropLast_eq_take, dpAll_len h]
  exact dpAll_take _ h
theorem does_pop : DoesM K oPop rPop := by
  rintro H F l vs ws xs ds P Q hl h1 h2 ⟨d, rfl, he, p⟩ hq
  cases h2
  rw [← dpAll_len h1] at he
  obtain ⟨v, e1, e2⟩ := dpAll_get h1 he
  exact ⟨l, vs, v, rfl, rfl, hl, e1, hq _ _ _ _ p (dpAll_dropLast h1) e2⟩
def oPopAt : MOp := fun xs ds P => ∃ i k d, ds = [.int i] ∧ (-(2 ^ 63) ≤ i ∧ i < 2 ^ 63) ∧ seqIndex? i xs.length = some k ∧ xs[k]? = some d ∧ P d (xs.eraseIdx k)
theorem does_popAt : DoesM K oPopAt rPopAt := by
  rintro H F l vs ws xs ds P Q hl h1 h2 ⟨i, k, d, rfl, ⟨i1, i2⟩, hk, he, p⟩ hq
  cases h2 with
  | cons h2 h3 =>
    cases h2
    cases h3
    obtain ⟨v, e1, e2⟩ := dpAll_get h1 he
    rw [← dpAll_len h1] at hk
    exact ⟨l, vs, i, k, v, rfl, rfl, hl, i1, i2, hk, e1, hq _ _ _ _ p (dpAll_eraseIdx k h1) e2⟩
def oRev : MOp := fun xs ds P => ds = [] ∧ P .none xs.reverse
theorem does_rev : DoesM K oRev rReverse := by
  rintro H F l vs ws xs ds P Q hl h1 h2 ⟨rfl, p⟩ hq
  cases h2
  exact ⟨l, vs, rfl, rfl, hl, hq _ _ _ _ p (dpAll_reverse h1) .non⟩
def oClr : MOp := fun xs ds P => ds = [] ∧ P .none []
theorem does_clr : DoesM K oClr rClear := by
  rintro H F l vs ws xs ds P Q hl h1 h2 ⟨rfl, p⟩ hq
  cases h2
  exact ⟨l, vs, rfl, rfl, hl, hq _ _ _ _ p .nil .non⟩
/-- xs[i] = e, xs owned at slot j -/
def sSetIx (j : Nat) (mi me : EM) : SM := fun E τ n => ∃ xs, τ[j]? = some (some (.ow xs)) ∧ me τ n fun d n1 => mi τ n1 fun y n2 => ∃ i k, y = .int i ∧ ixN xs.length i = some k ∧ E.nx (τ.set j (some (.ow (xs.set k d)))) n2
theorem p_setIx {o : Expr} {j : Nat} (ho : PE X o (tVar j)) (hi : E2 X .bw b mb) (h : E2 X .fz e me)
    (ha : ∀ v, assign (.Subscript o b tpos) X.env v = (do
      let ov ← holding [v] (eval o X.env)
      let iv ← holding [v, ov] (eval b X.env)
      standAt tpos
      holding [v, ov, iv] (setItem ov iv v)
      release [v, ov, iv] []) := by intro _; rfl)
    (hs : swapsWithSole [.Subscript o b tpos] e pos.line X.env = pure false := by rfl) (hw : swappedStores [.Subscript o b tpos] e X.env = pure none := by rfl)
    (h1 : (assignEach [.Subscript o b tpos] X.env).map (·.2) = [assign (.Subscript o b tpos) X.env] := by rfl) : P2 X kr (.Assign [.Subscript o b tpos] e pos) (sSetIx j mb me) := by
  refine ⟨fun Wx tk => ps_weak (ps_asg h.pe (pg_sub ho hi.pe set_list ha) hs hw h1) fun Dd σ H ⟨A, τ, n, F, E, eK, R, ⟨xs, e0, p⟩, e⟩ => tE_run eK R p fun d n1 v H1 F1 p1 a1 r1 => ?_⟩
  have R1 := R.step a1
  obtain ⟨w, g1, g2⟩ := R.sl j _ e0
  refine ⟨w, g1, tE_run eK R1 p1 ?_⟩
  rintro y n2 vy H2 F2 ⟨i, k, rfl, hk, p2⟩ a2 r2
  have R2 := R1.step a2
  obtain ⟨w', g1', l, vs, rfl, k1, k2, k3, k4⟩ := R2.sl j _ e0
  rw [g1] at g1'
  cases g1'
  rw [← dpAll_len k4] at hk
  refine ⟨l, vs, i, k, rfl, bw_int r2, k3, hk, e.nx _ n2 _ _ F2 p2 (R2.upd e0 g1 ?_) ((a1.trans a2).fro R.same)⟩
  exact dpAll_set (dp_mono (a2.fro a1.sub) d v (eK ▸ r1)) k k4
/-- o[lo:hi] = v of another list -/
def gSl (to tl th : TE) : TG := fun v σ H Q => to σ H fun o H1 => tl σ H1 fun x H2 => th σ H2 fun y H3 => ∃ l q xs ys a c, o = .ref l ∧ v = .ref q ∧ x = .int a ∧ y = .int c ∧ H3 l = some (.lst xs) ∧ H3 q = some (.lst ys) ∧ l ≠ q ∧ (0 ≤ a ∧ a ≤ c ∧ c ≤ xs.length) ∧ xs.length + ys.length ≤ sizeLine ∧ Q σ (upd H3 l (.lst (xs.take a.toNat ++ ys ++ xs.drop c.toNat)))
theorem pg_sl {o lo hi : Expr} {p2 : Pos} {to tl th : TE} (ho : PE X o to) (hl : PE X lo tl) (hh : PE X hi th)
    (ha : ∀ v, assign (.Subscript o (.Slice (some lo) (some hi) none p2) tpos) X.env v = (do
      let ov ← holding [v] (eval o X.env)
      let iv ← holding [v, ov] (eval (.Slice (some lo) (some hi) none p2) X.env)
      standAt tpos
      holding [v, ov, iv] (setItem ov iv v)
      release [iv, v, ov] []) := by intro _; rfl) : PG X (.Subscript o (.Slice (some lo) (some hi) none p2) tpos) (gSl to tl th) := by
  refine ⟨fun pins s σ H v u Q I r h => ?_⟩
  rw [ha]
  refine wpAny_bind (wpAny_holding (thn (ho.run pins s σ H _ I h) fun ov s1 ⟨x, H1, I1, r1, q1⟩ => ?_))
  refine wpAny_bind (wpAny_holding (wpAny_Slice ?_))
  rw [evalPart_some, evalPart_some, evalPart_none]
  refine thn (hl.run pins s1 σ H1 _ I1 q1) fun lv s2 ⟨xl, H2, I2, r2, q2⟩ => thn (hh.run pins s2 σ H2 _ I2 q2) fun hv s3 ⟨xh, H3, I3, r3, q3⟩ => wpAny_pure ?_
  obtain ⟨l, q, xs, ys, a, c, rfl, rfl, rfl, rfl, g1, g2, g3, ⟨g4, g5, g6⟩, g7, g8⟩ := q3
  cases r1
  cases r
  have I4 : Inv X pins σ H3 { s3 with heap := s3.heap.push { cls := .type "slice", data := .fields #[lv, hv, .none] } } := I3.kept (t' := s3.toks) fun b ob q => Heap.get?_push_of_some _ q
  refine wpAny_bind (wpAny_standAt (wpAny_bind (wpAny_holding (set_slice I4 g1 g2 g3 (Heap.IsSliceOf.new ..) r2 r3 g4 g5 g6 g7 fun s5 I5 => ?_))))
  exact wpAny_release ⟨σ, _, I5, g8⟩
/-- xs[lo:hi] = e, xs owned at slot j, e a list -/
def sSetSl (j : Nat) (ml mh me : EM) : SM := fun E τ n => ∃ xs, τ[j]? = some (some (.ow xs)) ∧ me τ n fun d n1 => ml τ n1 fun x n2 => mh τ n2 fun y n3 => ∃ ys lo hi, d = .list ys ∧ x = .int lo ∧ y = .int hi ∧ (0 ≤ lo ∧ lo ≤ hi ∧ hi ≤ xs.length) ∧ xs.length + ys.length ≤ sizeLine ∧ E.nx (τ.set j (some (.ow (xs.take lo.toNat ++ ys ++ xs.drop hi.toNat)))) n3
theorem p_setSl {o lo hi : Expr} {j : Nat} {p2 : Pos} {ml mh : EM} (ho : PE X o (tVar j)) (hl : E2 X .bw lo ml) (hh : E2 X .bw hi mh) (h : E2 X .nw e me)
    (hs : swapsWithSole [.Subscript o (.Slice (some lo) (some hi) none p2) tpos] e pos.line X.env = pure false := by rfl) (hw : swappedStores [.Subscript o (.Slice (some lo) (some hi) none p2) tpos] e X.env = pure none := by rfl)
    (h1 : (assignEach [.Subscript o (.Slice (some lo) (some hi) none p2) tpos] X.env).map (·.2) = [assign (.Subscript o (.Slice (some lo) (some hi) none p2) tpos) X.env] := by rfl)
    (ha : ∀ v, assign (.Subscript o (.Slice (some lo) (some hi) none p2) tpos) X.env v = (do
      let ov ← holding [v] (eval o X.env)
      let iv ← holding [v, ov] (eval (.Slice (some lo) (some hi) none p2) X.env)
      standAt tpos
      holding [v, ov, iv] (setItem ov iv v)
      release [iv, v, ov] []) := by intro _; rfl) : P2 X kr (.Assign [.Subscript o (.Slice (some lo) (some hi) none p2) tpos] e pos) (sSetSl j ml mh me) := by
  refine ⟨fun Wx tk => ps_weak (ps_asg h.pe (pg_sl ho hl.pe hh.pe ha) hs hw h1) fun Dd σ H ⟨A, τ, n, F, E, eK, R, ⟨xs, e0, p⟩, e⟩ => tE_run eK R p fun d n1 v H1 F1 p1 a1 r1 => ?_⟩
  have R1 := R.step a1
  obtain ⟨w, g1, g2⟩ := R.sl j _ e0
  refine ⟨w, g1, tE_run eK R1 p1 fun x n2 vx H2 F2 p2 a2 r2 => tE_run eK (R1.step a2) p2 ?_⟩
  rintro y n3 vy H3 F3 ⟨ys, lo', hi', rfl, rfl, rfl, hb, hz, p3⟩ a3 r3
  have a23 := a2.trans a3
  have R3 := R1.step a23
  obtain ⟨w', g1', l, vs, rfl, k1, k2, k3, k4⟩ := R3.sl j _ e0
  rw [g1] at g1'
  cases g1'
  obtain ⟨q, us, zs, ez, rfl, hq0, hqF, hq1, hq2⟩ := nw_step (by intro z; cases z) r1 a23 R1.same R1.box
  cases ez
  obtain ⟨_, _, hl0⟩ := R.own e0 rfl (.inl g1)
  have hlq : l ≠ q := fun z => by subst z; exact hl0 hq0
  refine ⟨l, q, vs, us, lo', hi', rfl, rfl, bw_int r2, bw_int r3, k3, hq1, hlq, by rw [dpAll_len k4]; exact hb, by rw [dpAll_len k4, dpAll_len hq2]; exact hz, ?_⟩
  refine e.nx _ n3 _ _ F3 p3 (R3.upd e0 g1 ?_) ((a1.trans a23).fro R.same)
  rw [eK]
  rw [eK] at k4
  exact dpAll_append (dpAll_append (dpAll_take _ k4) hq2) (dpAll_drop _ k4)
end
end TL
set_option Elab.async false
set_option linter.all false
set_option maxRecDepth 100000
set_option maxHeartbeats 4000000
namespace TL
open PySem PySem.Spec PyProof.Rows L2
section
variable {X : Cx} {K : PySem.W.Frag} {tg iter : Expr} {a b c e : Expr} {ma mb mc me : EM} {p pos tpos apos cpos : Pos} {kr : Kd} {x : Str} {fid : String}

/-! ### built-in functions of one argument -/
abbrev RN := List V → Hp → VK → Prop
def DoesF (K : PySem.W.Frag) (k : Kd) (f : Op1) (r : RN) : Prop := ∀ (H F : Hp) (vx : V) (x : D) (P : D → Prop) (Q : VK), Same F H → RepK K .bw H H F vx x → f x P →
  (∀ d v H' F', P d → PAdv H F H' F' → RepK K k H H' F' v d → Q v H') → r [vx] H Q
theorem tCB_m1 {k : Kd} {f : Op1} {r : RN} (hf : DoesF K k f r) {σ : L2.St} {H : Hp} {Q : VK} (h : tE K k (m1 f ma) σ H Q) : tCB r (tCons (tE K .bw ma) tNil) σ H Q := by
  obtain ⟨A, τ, n, F, P, eK, R, hm, hq⟩ := h
  refine tE_run eK R hm fun x n1 v1 H1 F1 p1 a1 r1 => ?_
  refine hf H1 F1 v1 x _ _ (R.step a1).same r1 p1 fun d v H3 F3 p3 a3 r3 => ?_
  exact hq d n1 v H3 F3 p3 (a1.trans (a3.adv (R.step a1).box)) (r3.h0 fun a h => a1.none_back a h)
theorem e_f1 {k : Kd} {f : Op1} {r : RN} (hc : CallR X (.builtin fid) r) (hf : DoesF X.K k f r) (hg : Gl X x) (hm : X.mg x = none) (hv : bootBuiltins x = some (.builtin fid)) (ha : E2 X .bw a ma) (hn : x ≠ "__name__" := by decide) (hdb : (x == ("__debug__" : Str)) = false := by decide)
    (he : starEach [a] X.env = (false, eval a X.env) :: starEach [] X.env := by rfl) (hpl : (backTo pos (starEach [] X.env)).any (·.1) = false := by rfl) : E2 X k (.Call (.Name x p) [a] [] pos) (m1 f ma) :=
  ⟨pe_weak (pe_callB hc hg hm hv (pa_cons ha.pe pa_nil he) hn hdb he hpl) fun _ _ _ h => tCB_m1 hf h⟩
theorem e_t1 {k : Kd} {T : String} {f : Op1} {r : RN} (hc : CallR X (.type T) r) (hf : DoesF X.K k f r) (hg : Gl X x) (hm : X.mg x = none) (hv : bootBuiltins x = some (.type T)) (ha : E2 X .bw a ma) (hn : x ≠ "__name__" := by decide) (hdb : (x == ("__debug__" : Str)) = false := by decide)
    (he : starEach [a] X.env = (false, eval a X.env) :: starEach [] X.env := by rfl) (hpl : (backTo pos (starEach [] X.env)).any (·.1) = false := by rfl) : E2 X k (.Call (.Name x p) [a] [] pos) (m1 f ma) :=
  ⟨pe_weak (pe_callTy hc hg hm hv (pa_cons ha.pe pa_nil he) hn hdb he hpl) fun _ _ _ h => tCB_m1 hf h⟩
theorem CallR.or {f : Value} {r r' : RN} (h : CallR X f r) (h' : CallR X f r') : CallR X f fun xs H Q => r xs H Q ∨ r' xs H Q := by
  intro pins s σ H xs us Q I r q
  rcases q with q | q
  · exact h pins s σ H xs us Q I r q
  · exact h' pins s σ H xs us Q I r q
def dLen : Op1 := fun x P => (∃ z, x = .str z ∧ z.length ≤ sizeLine ∧ P (.int z.length)) ∨ dItems x fun xs => P (.int xs.length)
abbrev rLen1 (K : PySem.W.Frag) : RN := fun xs H Q => ∃ x n, xs = [x] ∧ LenV K x H n ∧ Q (.int n) H
theorem does_len : DoesF K .fz dLen (rLen1 K) := by
  rintro H F vx x P Q s rx h hq
  rcases h with ⟨z, rfl, hz, p⟩ | ⟨xs, rfl, p⟩ | ⟨xs, rfl, p⟩
  · cases bw_str rx
    exact ⟨_, _, rfl, ⟨hz, rfl⟩, hq _ _ H F p (PAdv.refl s) (.int _)⟩
  · obtain ⟨l, vs, rfl, h1, h2⟩ := bw_list s rx
    exact ⟨_, vs.length, rfl, .inl ⟨vs, h1, rfl⟩, hq _ _ H F p (PAdv.refl s) (by rw [dpAll_len h2]; exact .int _)⟩
  · obtain ⟨l, vs, rfl, h1, h2⟩ := bw_tup s rx
    exact ⟨_, vs.length, rfl, .inr ⟨vs, h1, rfl⟩, hq _ _ H F p (PAdv.refl s) (by rw [dpAll_len h2]; exact .int _)⟩
theorem e_len (hg : Gl X "len") (hm : X.mg "len" = none) (ha : E2 X .bw a ma) (he : starEach [a] X.env = (false, eval a X.env) :: starEach [] X.env := by rfl) (hpl : (backTo pos (starEach [] X.env)).any (·.1) = false := by rfl) : E2 X .fz (.Call (.Name "len" p) [a] [] pos) (m1 dLen ma) :=
  e_f1 call_len does_len hg hm PySem.boot_len ha (by decide) (by decide) he hpl
def dTuple : Op1 := fun x P => dItems x fun xs => P (.tuple xs)
abbrev rTuple1 (K : PySem.W.Frag) : RN := rTupleF K
theorem does_tuple : DoesF K .fz dTuple (rTuple1 K) := by
  rintro H F vx x P Q s rx h hq
  rcases h with ⟨xs, rfl, p⟩ | ⟨xs, rfl, p⟩
  · obtain ⟨l, vs, rfl, h1, h2⟩ := bw_list s rx
    refine ⟨l, vs, rfl, .inl ⟨h1, fun q o hp ho => ?_⟩⟩
    obtain ⟨b1, b2⟩ := new_tup s hp ho h2
    exact hq _ _ _ _ p b1 b2
  · rcases rx with rx | ⟨_, _, _, e, _⟩
    · cases rx with
      | tup hs ha => exact ⟨_, _, rfl, .inr ⟨seqT s hs.sq, hq _ _ H F p (PAdv.refl s) (.tup hs ha)⟩⟩
    · cases e
theorem e_tuple (hg : Gl X "tuple") (hm : X.mg "tuple" = none) (ha : E2 X .bw a ma) (he : starEach [a] X.env = (false, eval a X.env) :: starEach [] X.env := by rfl) (hpl : (backTo pos (starEach [] X.env)).any (·.1) = false := by rfl) : E2 X .fz (.Call (.Name "tuple" p) [a] [] pos) (m1 dTuple ma) :=
  e_t1 call_tupleF does_tuple hg hm PyProof.Rows.boot_tuple ha (by decide) (by decide) he hpl
def dList : Op1 := fun x P => dItems x fun xs => P (.list xs)
abbrev rList1 (K : PySem.W.Frag) : RN := fun xs H Q => ∃ p ys, xs = [.ref p] ∧ (SqL K H p ys ∨ SqT K H p ys) ∧ ∀ l, H l = none → Q (.ref l) (upd H l (.lst ys))
theorem does_list : DoesF K .nw dList (rList1 K) := by
  rintro H F vx x P Q s rx h hq
  rcases h with ⟨xs, rfl, p⟩ | ⟨xs, rfl, p⟩
  · obtain ⟨l, vs, rfl, h1, h2⟩ := bw_list s rx
    refine ⟨l, vs, rfl, .inl h1, fun q hp => ?_⟩
    obtain ⟨b1, b2⟩ := new_nw s hp h2
    exact hq _ _ _ _ p b1 b2
  · obtain ⟨l, vs, rfl, h1, h2⟩ := bw_tup s rx
    refine ⟨l, vs, rfl, .inr h1, fun q hp => ?_⟩
    obtain ⟨b1, b2⟩ := new_nw s hp h2
    exact hq _ _ _ _ p b1 b2
theorem e_list (hg : Gl X "list") (hm : X.mg "list" = none) (ha : E2 X .bw a ma) (he : starEach [a] X.env = (false, eval a X.env) :: starEach [] X.env := by rfl) (hpl : (backTo pos (starEach [] X.env)).any (·.1) = false := by rfl) : E2 X .nw (.Call (.Name "list" p) [a] [] pos) (m1 dList ma) :=
  e_t1 call_list_of does_list hg hm PyProof.Rows.boot_list ha (by decide) (by decide) he hpl
/-- list(range(n)), tuple(range(n)) -/
def dRg (k : List D → D) : Op1 := fun x P => ∃ n, x = .int n ∧ (-(2 ^ 62) ≤ n ∧ n ≤ 2 ^ 24) ∧ P (k (rangeD 0 n.toNat))
theorem rgV_dp {F : Hp} (n : Int) : DpAll K F (rgV 0 n) (rangeD 0 n.toNat) := by
  unfold rgV rangeD
  rw [show n - 0 = n by omega]
  induction (List.range n.toNat) with
  | nil => exact .nil
  | cons i r ih => exact .cons (.int _) ih
theorem rgOk_of {n : Int} (h : -(2 ^ 62) ≤ n ∧ n ≤ 2 ^ 24) : RgOk 0 n := ⟨by omega, by omega, by omega, by omega, by omega⟩
theorem e_listRg {q qos : Pos} (hc : X.calm = true) (hg : Gl X "list") (hm : X.mg "list" = none) (hg' : Gl X "range") (hm' : X.mg "range" = none) (ha : E2 X .bw a ma) (na : starEach [a] X.env = (false, eval a X.env) :: starEach [] X.env := by rfl)
    (nb : starEach [.Call (.Name "range" q) [a] [] qos] X.env = (false, eval (.Call (.Name "range" q) [a] [] qos) X.env) :: starEach [] X.env := by rfl) : E2 X .nw (.Call (.Name "list" p) [.Call (.Name "range" q) [a] [] qos] [] pos) (m1 (dRg .list) ma) := by
  refine ⟨pe_weak (pe_listRg hc hg hm (prg_1 hg' hm' ha.pe na) nb) fun σ H Q ⟨A, τ, n, F, P, eK, R, hm, hq⟩ => tE_run eK R hm ?_⟩
  rintro d n1 v1 H1 F1 ⟨m, rfl, hb, p⟩ a1 r1
  refine ⟨m, bw_int r1, rgOk_of hb, fun q hp => ?_⟩
  obtain ⟨b1, b2⟩ := new_nw a1.sub hp (rgV_dp (K := X.K) (F := F1) m)
  exact hq _ n1 _ _ _ p (a1.trans (b1.adv (R.step a1).box)) (b2.h0 fun c h => a1.none_back c h)
theorem e_tupRg {q qos : Pos} (hc : X.calm = true) (hg : Gl X "tuple") (hm : X.mg "tuple" = none) (hg' : Gl X "range") (hm' : X.mg "range" = none) (ha : E2 X .bw a ma) (na : starEach [a] X.env = (false, eval a X.env) :: starEach [] X.env := by rfl)
    (nb : starEach [.Call (.Name "range" q) [a] [] qos] X.env = (false, eval (.Call (.Name "range" q) [a] [] qos) X.env) :: starEach [] X.env := by rfl) : E2 X .fz (.Call (.Name "tuple" p) [.Call (.Name "range" q) [a] [] qos] [] pos) (m1 (dRg .tuple) ma) := by
  refine ⟨pe_weak (pe_tupRgF hc hg hm (prg_1 hg' hm' ha.pe na) nb) fun σ H Q ⟨A, τ, n, F, P, eK, R, hm, hq⟩ => tE_run eK R hm ?_⟩
  rintro d n1 v1 H1 F1 ⟨m, rfl, hb, p⟩ a1 r1
  refine ⟨m, bw_int r1, rgOk_of hb, fun q o hp ho => ?_⟩
  obtain ⟨b1, b2⟩ := new_tup a1.sub hp ho (rgV_dp (K := X.K) (F := F1) m)
  exact hq _ n1 _ _ _ p (a1.trans (b1.adv (R.step a1).box)) b2
/-- of a list of ints, of truths -/
theorem dpAll_ints {F : Hp} : ∀ {ns : List Int} {vs : List V}, DpAll K F vs (ns.map .int) → vs = ns.map V.int
  | [], _, h => by cases h; rfl
  | n :: ns, _, h => by
    cases h with
    | cons h1 h2 => cases h1; rw [dpAll_ints h2]; rfl
theorem ints_dpAll {F : Hp} : ∀ (ns : List Int), DpAll K F (ns.map V.int) (ns.map .int)
  | [] => .nil
  | n :: ns => .cons (.int n) (ints_dpAll ns)
theorem dpAll_bls {F : Hp} : ∀ {ns : List Bool} {vs : List V}, DpAll K F vs (ns.map .bool) → vs = ns.map V.bl
  | [], _, h => by cases h; rfl
  | n :: ns, _, h => by
    cases h with
    | cons h1 h2 => cases h1; rw [dpAll_bls h2]; rfl
def dSum : Op1 := fun x P => ∃ ns : List Int, x = .list (ns.map .int) ∧ P (.int ns.sum)
theorem does_sum : DoesF K .fz dSum (rSum K) := by
  rintro H F vx x P Q s rx ⟨ns, rfl, p⟩ hq
  obtain ⟨l, vs, rfl, h1, h2⟩ := bw_list s rx
  rw [dpAll_ints h2] at h1
  exact ⟨l, ns, rfl, h1, hq _ _ H F p (PAdv.refl s) (.int _)⟩
def dAll : Op1 := fun x P => ∃ bs : List Bool, x = .list (bs.map .bool) ∧ P (.bool (bs.all id))
theorem does_all : DoesF K .fz dAll (rAll K) := by
  rintro H F vx x P Q s rx ⟨ns, rfl, p⟩ hq
  obtain ⟨l, vs, rfl, h1, h2⟩ := bw_list s rx
  rw [dpAll_bls h2] at h1
  exact ⟨l, ns, rfl, h1, hq _ _ H F p (PAdv.refl s) (.bl _)⟩
def dAny : Op1 := fun x P => ∃ bs : List Bool, x = .list (bs.map .bool) ∧ P (.bool (bs.any id))
theorem does_any : DoesF K .fz dAny (rAny K) := by
  rintro H F vx x P Q s rx ⟨ns, rfl, p⟩ hq
  obtain ⟨l, vs, rfl, h1, h2⟩ := bw_list s rx
  rw [dpAll_bls h2] at h1
  exact ⟨l, ns, rfl, h1, hq _ _ H F p (PAdv.refl s) (.bl _)⟩
def dMax1 : Op1 := fun x P => ∃ ns : List Int, x = .list (ns.map .int) ∧ 0 < ns.length ∧ ∀ m, m ∈ ns → (∀ y, y ∈ ns → y ≤ m) → P (.int m)
theorem does_max1 : DoesF K .fz dMax1 (rMax K) := by
  rintro H F vx x P Q s rx ⟨ns, rfl, hl, p⟩ hq
  obtain ⟨l, vs, rfl, h1, h2⟩ := bw_list s rx
  rw [dpAll_ints h2] at h1
  exact ⟨l, ns, rfl, h1, hl, fun m hm hx => hq _ _ H F (p m hm hx) (PAdv.refl s) (.int _)⟩
def dMin1 : Op1 := fun x P => ∃ ns : List Int, x = .list (ns.map .int) ∧ 0 < ns.length ∧ ∀ m, m ∈ ns → (∀ y, y ∈ ns → m ≤ y) → P (.int m)
theorem does_min1 : DoesF K .fz dMin1 (rMin K) := by
  rintro H F vx x P Q s rx ⟨ns, rfl, hl, p⟩ hq
  obtain ⟨l, vs, rfl, h1, h2⟩ := bw_list s rx
  rw [dpAll_ints h2] at h1
  exact ⟨l, ns, rfl, h1, hl, fun m hm hx => hq _ _ H F (p m hm hx) (PAdv.refl s) (.int _)⟩
def dSortI : Op1 := fun x P => ∃ ns : List Int, x = .list (ns.map .int) ∧ ∀ ns' : List Int, ns'.Perm ns → ns'.Pairwise (· ≤ ·) → P (.list (ns'.map .int))
theorem does_sortI : DoesF K .nw dSortI (rSortedI K) := by
  rintro H F vx x P Q s rx ⟨ns, rfl, p⟩ hq
  obtain ⟨l, vs, rfl, h1, h2⟩ := bw_list s rx
  rw [dpAll_ints h2] at h1
  refine ⟨l, ns, rfl, h1, fun ns' q g1 g2 hp => ?_⟩
  obtain ⟨b1, b2⟩ := new_nw s hp (ints_dpAll (K := K) (F := F) ns')
  exact hq _ _ _ _ (p ns' g1 g2) b1 b2
section
variable (hc : X.calm = true) (ha : E2 X .bw a ma)
include hc ha
theorem e_sum (hg : Gl X "sum") (hm : X.mg "sum" = none) (he : starEach [a] X.env = (false, eval a X.env) :: starEach [] X.env := by rfl) (hpl : (backTo pos (starEach [] X.env)).any (·.1) = false := by rfl) : E2 X .fz (.Call (.Name "sum" p) [a] [] pos) (m1 dSum ma) :=
  e_f1 (cr_sum hc) does_sum hg hm PyProof.Rows.boot_sum ha (by decide) (by decide) he hpl
theorem e_all (hg : Gl X "all") (hm : X.mg "all" = none) (he : starEach [a] X.env = (false, eval a X.env) :: starEach [] X.env := by rfl) (hpl : (backTo pos (starEach [] X.env)).any (·.1) = false := by rfl) : E2 X .fz (.Call (.Name "all" p) [a] [] pos) (m1 dAll ma) :=
  e_f1 (cr_all hc) does_all hg hm PyProof.Rows.boot_all ha (by decide) (by decide) he hpl
theorem e_any (hg : Gl X "any") (hm : X.mg "any" = none) (he : starEach [a] X.env = (false, eval a X.env) :: starEach [] X.env := by rfl) (hpl : (backTo pos (starEach [] X.env)).any (·.1) = false := by rfl) : E2 X .fz (.Call (.Name "any" p) [a] [] pos) (m1 dAny ma) :=
  e_f1 (cr_any hc) does_any hg hm PyProof.Rows.boot_any ha (by decide) (by decide) he hpl
theorem e_max1 (hg : Gl X "max") (hm : X.mg "max" = none) (he : starEach [a] X.env = (false, eval a X.env) :: starEach [] X.env := by rfl) (hpl : (backTo pos (starEach [] X.env)).any (·.1) = false := by rfl) : E2 X .fz (.Call (.Name "max" p) [a] [] pos) (m1 dMax1 ma) :=
  e_f1 (cr_max hc) does_max1 hg hm PyProof.Rows.boot_max ha (by decide) (by decide) he hpl
theorem e_min1 (hg : Gl X "min") (hm : X.mg "min" = none) (he : starEach [a] X.env = (false, eval a X.env) :: starEach [] X.env := by rfl) (hpl : (backTo pos (starEach [] X.env)).any (·.1) = false := by rfl) : E2 X .fz (.Call (.Name "min" p) [a] [] pos) (m1 dMin1 ma) :=
  e_f1 (cr_min hc) does_min1 hg hm PyProof.Rows.boot_min ha (by decide) (by decide) he hpl
omit hc in
theorem e_sortI (hg : Gl X "sorted") (hm : X.mg "sorted" = none) (he : starEach [a] X.env = (false, eval a X.env) :: starEach [] X.env := by rfl) (hpl : (backTo pos (starEach [] X.env)).any (·.1) = false := by rfl) : E2 X .nw (.Call (.Name "sorted" p) [a] [] pos) (m1 dSortI ma) :=
  e_f1 cr_sortedI does_sortI hg hm PyProof.Rows.boot_sorted ha (by decide) (by decide) he hpl
end
def dAbs : Op1 := fun x P => ∃ i, x = .int i ∧ P (.int (if i < 0 then -i else i))
theorem e_abs (hg : Gl X "abs") (hm : X.mg "abs" = none) (ha : E2 X .bw a ma) (he : starEach [a] X.env = (false, eval a X.env) :: starEach [] X.env := by rfl) (hpl : (backTo pos (starEach [] X.env)).any (·.1) = false := by rfl) : E2 X .fz (.Call (.Name "abs" p) [a] [] pos) (m1 dAbs ma) := by
  refine e_f1 call_abs ?_ hg hm PyProof.Rows.boot_abs ha (by decide) (by decide) he hpl
  rintro H F vx x P Q s rx ⟨i, rfl, p⟩ hq
  exact ⟨i, by rw [bw_int rx], hq _ _ H F p (PAdv.refl s) (.int _)⟩
def dInt : Op1 := fun x P => (∃ i, x = .int i ∧ P (.int i)) ∨ ∃ k, x = .bool k ∧ P (.int (if k then 1 else 0))
theorem e_int1 (hg : Gl X "int") (hm : X.mg "int" = none) (ha : E2 X .bw a ma) (he : starEach [a] X.env = (false, eval a X.env) :: starEach [] X.env := by rfl) (hpl : (backTo pos (starEach [] X.env)).any (·.1) = false := by rfl) : E2 X .fz (.Call (.Name "int" p) [a] [] pos) (m1 dInt ma) := by
  refine e_t1 call_int1 ?_ hg hm PyProof.Rows.boot_int ha (by decide) (by decide) he hpl
  rintro H F vx x P Q s rx (⟨i, rfl, p⟩ | ⟨i, rfl, p⟩) hq
  · exact .inl ⟨i, by rw [bw_int rx], hq _ _ H F p (PAdv.refl s) (.int _)⟩
  · exact .inr ⟨i, by rw [bw_bool rx], hq _ _ H F p (PAdv.refl s) (.int _)⟩

/-! ### of two arguments -/
theorem e_f2 {f : Op2} {r : RN} (hc : CallR X (.builtin fid) r) (hf : ∀ (H F : Hp) (vx vy : V) (x y : D) (P : D → Prop) (Q : VK), Same F H → RepK X.K .bw H H F vx x → RepK X.K .bw H H F vy y → f x y P →
    (∀ d v, P d → (∀ F, Dp X.K F v d) → Q v H) → r [vx, vy] H Q) (hg : Gl X x) (hm : X.mg x = none) (hv : bootBuiltins x = some (.builtin fid)) (ha : E2 X .bw a ma) (hb : E2 X .bw b mb) (hn : x ≠ "__name__" := by decide) (hdb : (x == ("__debug__" : Str)) = false := by decide)
    (he : starEach [a, b] X.env = (false, eval a X.env) :: starEach [b] X.env := by rfl) (he2 : starEach [b] X.env = (false, eval b X.env) :: starEach [] X.env := by rfl) (hpl : (backTo pos (starEach [b] X.env)).any (·.1) = false := by rfl) : E2 X .fz (.Call (.Name x p) [a, b] [] pos) (m2 f ma mb) := by
  refine ⟨pe_weak (pe_callB hc hg hm hv (pa_cons ha.pe (pa_cons hb.pe pa_nil he2) he) hn hdb he hpl) fun σ H Q ⟨A, τ, n, F, P, eK, R, hm, hq⟩ => tE_run eK R hm fun x n1 v1 H1 F1 p1 a1 r1 => tE_run eK (R.step a1) p1 fun y n2 v2 H2 F2 p2 a2 r2 => ?_⟩
  have a12 := a1.trans a2
  refine hf H2 F2 v1 v2 x y _ _ (R.step a12).same (bw_adv (H0 := H2) r1 a2 (R.step a1).same (R.step a1).box) r2 p2 fun d v p3 r3 => ?_
  exact hq d n2 v H2 F2 p3 a12 (r3 F2)
def dMax2 : Op2 := fun x y P => ∃ i j, x = .int i ∧ y = .int j ∧ P (.int (if j > i then j else i))
def dMin2 : Op2 := fun x y P => ∃ i j, x = .int i ∧ y = .int j ∧ P (.int (if j < i then j else i))
section
variable (hc : X.calm = true) (ha : E2 X .bw a ma) (hb : E2 X .bw b mb)
include hc ha hb
theorem e_max2 (hg : Gl X "max") (hm : X.mg "max" = none) (he : starEach [a, b] X.env = (false, eval a X.env) :: starEach [b] X.env := by rfl) (he2 : starEach [b] X.env = (false, eval b X.env) :: starEach [] X.env := by rfl) (hpl : (backTo pos (starEach [b] X.env)).any (·.1) = false := by rfl) :
    E2 X .fz (.Call (.Name "max" p) [a, b] [] pos) (m2 dMax2 ma mb) :=
  e_f2 (call_max2 hc) (fun H F vx vy x y P Q s rx ry ⟨i, j, e1, e2, p⟩ hq => by subst e1 e2; exact ⟨i, j, by rw [bw_int rx, bw_int ry], hq _ _ p fun _ => .int _⟩) hg hm PyProof.Rows.boot_max ha hb (by decide) (by decide) he he2 hpl
theorem e_min2 (hg : Gl X "min") (hm : X.mg "min" = none) (he : starEach [a, b] X.env = (false, eval a X.env) :: starEach [b] X.env := by rfl) (he2 : starEach [b] X.env = (false, eval b X.env) :: starEach [] X.env := by rfl) (hpl : (backTo pos (starEach [b] X.env)).any (·.1) = false := by rfl) :
    E2 X .fz (.Call (.Name "min" p) [a, b] [] pos) (m2 dMin2 ma mb) :=
  e_f2 (call_min2 hc) (fun H F vx vy x y P Q s rx ry ⟨i, j, e1, e2, p⟩ hq => by subst e1 e2; exact ⟨i, j, by rw [bw_int rx, bw_int ry], hq _ _ p fun _ => .int _⟩) hg hm PyProof.Rows.boot_min ha hb (by decide) (by decide) he he2 hpl
end

/-! ### lists, tuples together -/
def rCatS (K : PySem.W.Frag) : R2 := fun x y H Q => ∃ l b xs zs, x = .ref l ∧ y = .ref b ∧ SqL K H l xs ∧ SqL K H b zs ∧ xs.length + zs.length ≤ sizeLine ∧ ∀ p, H p = none → Q (.ref p) (upd H p (.lst (xs ++ zs)))
theorem list_add_gen (l : Addr) (items : Array Value) (n : Nat) (sl : Array (Option Value)) (b : Addr) (items2 : Array Value) (n2 : Nat) (sl2 : Array (Option Value)) (hc0 : items.size + items2.size ≤ sizeLine) :
    Meets (Builtin.«list.__add__» ⟨[.ref l, .ref b], []⟩) (fun _ R s => s.heap.get? l = some { cls := .type "list", dict := none, data := .seq items n, slots := sl } ∧ s.heap.get? b = some { cls := .type "list", dict := none, data := .seq items2 n2, slots := sl2 } ∧
      R (.ok (.ret (Value.ref s.heap.objs.size))) { s with heap := s.heap.push { cls := Value.type "list", data := Data.seq (items ++ items2) }, toks := s.toks }) :=
  .of_wp fun prog w A R s h => by
    obtain ⟨hp, g, d, tk, os⟩ := s; obtain ⟨hl, hb, h⟩ := h
    have f1 := AutoSeq1.idx_int; have f2 := AutoSeq1.sub_tuple_tuple; have f3 := AutoSeq1.sub_list_list; have f4 := AutoSeq1.sub_tuple_list; have f5 := AutoSeq1.sub_list_tuple
    wp_walk using AutoSeq1.wpAny_loadPart' hl, AutoSeq1.wpAny_loadPart' hb
    exact ⟨_, rfl, h⟩
theorem op_catS : OpR X (binaryOp .Add) (rCatS X.K) := by
  intro pins s σ H x y v u Q I rx ry h
  obtain ⟨l, b, xs, zs, rfl, rfl, hH, hB, hz, q⟩ := h
  cases rx
  cases ry
  obtain ⟨its, r, ⟨⟨c1, d1, t1, s1⟩, n, e, hc1, hd1, ht1⟩, _⟩ := I.list hH
  obtain ⟨its2, r2, ⟨⟨c2, d2, t2, s2⟩, n2, e2, hc2, hd2, ht2⟩, _⟩ := I.list hB
  simp only at hc1 hd1 ht1 hc2 hd2 ht2
  subst hc1 hd1 ht1 hc2 hd2 ht2
  have hl := r.length
  have hl2 := r2.length
  have ea : its.toArray ++ its2.toArray = (its ++ its2).toArray := by simp
  refine concat_meets ⟨_, e, rfl⟩ ⟨_, e2, rfl⟩ noFill_list_add seq_list_add F.slot_list_add F.entry_list_add (F.args_list_add_2 _ _) (list_add_gen l its.toArray n s1 b its2.toArray n2 s2 (by rw [List.size_toArray, List.size_toArray]; omega)) ⟨e, e2, ?_⟩
  rw [ea]
  exact ⟨.ref _, _, I.lnew (t' := s.toks) (r.append r2) (by rw [List.length_append]; omega), rfl, q _ I.fresh⟩
def dCatT : Op2 := fun x y P => ∃ xs ys, x = .tuple xs ∧ y = .tuple ys ∧ xs.length + ys.length ≤ sizeLine ∧ P (.tuple (xs ++ ys))
theorem does_catT : Does2 K .fz dCatT (rCatF K) := by
  rintro H F vx vy x y P Q s rx ry ⟨xs, ys, rfl, rfl, hz, p⟩ hq
  have rx' := rx
  have ry' := ry
  obtain ⟨l, vs, rfl, h1, h2⟩ := bw_tup s rx
  obtain ⟨l', vs', rfl, h3, h4⟩ := bw_tup s ry
  have z1 := dpAll_len h2
  have z2 := dpAll_len h4
  refine ⟨l, l', vs, vs', rfl, rfl, h1, h3, by rw [z1, z2]; exact hz, fun e => ?_, fun e e' => ?_, fun e e' q o hp ho => ?_⟩
  · subst e
    cases h2
    refine hq _ _ H F p (PAdv.refl s) ?_
    rcases ry' with z | ⟨_, _, _, e, _⟩
    · exact z
    · cases e
  · subst e'
    cases h4
    rw [List.append_nil] at p
    refine hq _ _ H F p (PAdv.refl s) ?_
    rcases rx' with z | ⟨_, _, _, e, _⟩
    · exact z
    · cases e
  · obtain ⟨b1, b2⟩ := new_tup s hp ho (dpAll_append h2 h4)
    exact hq _ _ _ _ p b1 b2
theorem e_catT (ha : E2 X .bw a ma) (hb : E2 X .bw b mb) : E2 X .fz (.BinOp a .Add b pos) (m2 dCatT ma mb) := e_bin op_catF does_catT ha hb
def dCatL : Op2 := fun x y P => ∃ xs ys, x = .list xs ∧ y = .list ys ∧ xs.length + ys.length ≤ sizeLine ∧ P (.list (xs ++ ys))
theorem does_catL : Does2 K .nw dCatL (rCatS K) := by
  rintro H F vx vy x y P Q s rx ry ⟨xs, ys, rfl, rfl, hz, p⟩ hq
  obtain ⟨l, vs, rfl, h1, h2⟩ := bw_list s rx
  obtain ⟨l', vs', rfl, h3, h4⟩ := bw_list s ry
  refine ⟨l, l', vs, vs', rfl, rfl, h1, h3, by rw [dpAll_len h2, dpAll_len h4]; exact hz, fun q hp => ?_⟩
  obtain ⟨b1, b2⟩ := new_nw s hp (dpAll_append h2 h4)
  exact hq _ _ _ _ p b1 b2
theorem e_catL (ha : E2 X .bw a ma) (hb : E2 X .bw b mb) : E2 X .nw (.BinOp a .Add b pos) (m2 dCatL ma mb) := e_bin op_catS does_catL ha hb
/-- a new list some times; a tuple some times -/
theorem dpAll_rep {F : Hp} {vs : List V} {ds : List D} (h : DpAll K F vs ds) : ∀ k : Nat, DpAll K F (List.replicate k vs).flatten (List.replicate k ds).flatten
  | 0 => .nil
  | k + 1 => by
    rw [List.replicate_succ, List.replicate_succ, List.flatten_cons, List.flatten_cons]
    exact dpAll_append h (dpAll_rep h k)
def dRepL : Op2 := fun x y P => ∃ xs k, x = .list xs ∧ y = .int k ∧ (-(2 ^ 63) ≤ k ∧ k < 2 ^ 63) ∧ xs.length * k.toNat ≤ sizeLine ∧ P (.list (List.replicate k.toNat xs).flatten)
theorem e_repL (ha : E2 X .nw a ma) (hb : E2 X .bw b mb) : E2 X .nw (.BinOp a .Mult b pos) (m2 dRepL ma mb) := by
  refine ⟨pe_weak (pe_op op_rep ha.pe hb.pe) fun σ H Q ⟨A, τ, n, F, P, eK, R, hm, hq⟩ => tE_run eK R hm fun x n1 v1 H1 F1 p1 a1 r1 => tE_run eK (R.step a1) p1 ?_⟩
  rintro y n2 v2 H2 F2 ⟨xs, k, rfl, rfl, ⟨h1, h2⟩, hz, p⟩ a2 r2
  have a12 := a1.trans a2
  obtain ⟨l, vs, xs', ex, rfl, _, _, g1, g2⟩ := nw_step (by intro z; cases z) r1 a2 (R.step a1).same (R.step a1).box
  cases ex
  refine ⟨l, k, vs, rfl, bw_int r2, g1, h1, h2, by rw [dpAll_len g2]; exact hz, fun q hp => ?_⟩
  obtain ⟨b1, b2⟩ := new_nw a12.sub hp (dpAll_rep g2 k.toNat)
  exact hq _ n2 _ _ _ p (a12.trans (b1.adv (R.step a12).box)) (b2.h0 fun c h => a12.none_back c h)
def dRepT : Op2 := fun x y P => ∃ xs k, x = .tuple xs ∧ y = .int k ∧ xs ≠ [] ∧ (2 ≤ k ∧ k ≤ 1000 ∧ xs.length ≤ 1000) ∧ P (.tuple (List.replicate k.toNat xs).flatten)
theorem does_repT : Does2 K .fz dRepT (rRepF K) := by
  rintro H F vx vy x y P Q s rx ry ⟨xs, k, rfl, rfl, hx, ⟨h1, h2, h3⟩, p⟩ hq
  obtain ⟨l, vs, rfl, g1, g2⟩ := bw_tup s rx
  refine ⟨l, k, vs, rfl, bw_int ry, g1, fun z => ?_, h1, h2, by rw [dpAll_len g2]; exact h3, fun q o hp ho => ?_⟩
  · subst z; cases g2; exact hx rfl
  · obtain ⟨b1, b2⟩ := new_tup s hp ho (dpAll_rep g2 k.toNat)
    exact hq _ _ _ _ p b1 b2
theorem e_repT (ha : E2 X .bw a ma) (hb : E2 X .bw b mb) : E2 X .fz (.BinOp a .Mult b pos) (m2 dRepT ma mb) := e_bin op_repF does_repT ha hb

/-! ### in, not in -/
def dMem (neg : Bool) : Op2 := fun x y P => ∃ ds, y = .list ds ∧ (SeqAt.shaped x = true ∧ SeqAt.shaped (.list ds) = true) ∧ P (.bool (if neg then !ds.any fun z => PyData.eqv z x else ds.any fun z => PyData.eqv z x))
theorem does_in : Does2 K .fz (dMem false) (rInD K) := by
  rintro H F vx vy x y P Q s rx ry ⟨ds, rfl, ⟨h1, h2⟩, p⟩ hq
  exact ⟨x, ds, bw_l2 s (lay0_shaped h1) rx, bw_l2 s (lay0_shaped h2) ry, h1, h2, hq _ _ H F p (PAdv.refl s) (.bl _)⟩
theorem does_nin : Does2 K .fz (dMem true) (rNotInD K) := by
  rintro H F vx vy x y P Q s rx ry ⟨ds, rfl, ⟨h1, h2⟩, p⟩ hq
  exact ⟨x, ds, bw_l2 s (lay0_shaped h1) rx, bw_l2 s (lay0_shaped h2) ry, h1, h2, hq _ _ H F p (PAdv.refl s) (.bl _)⟩
theorem Room.units65 {k : Nat} {A : Around} (r : Room k A) : A.units + 65 < cLine := by have := r.un; omega
theorem e_in {k : Nat} (hr : Room k X.A) (ha : E2 X .bw a ma) (hb : E2 X .bw b mb) (hm : behindInMarks .In b = false := by rfl) : E2 X .fz (.Compare a [.In] [b] pos) (m2 (dMem false) ma mb) := e_cmp (op_inD (TL.Room.units65 hr)) does_in ha hb hm
theorem e_nin {k : Nat} (hr : Room k X.A) (ha : E2 X .bw a ma) (hb : E2 X .bw b mb) (hm : behindInMarks .NotIn b = false := by rfl) : E2 X .fz (.Compare a [.NotIn] [b] pos) (m2 (dMem true) ma mb) := e_cmp (op_notInD (TL.Room.units65 hr)) does_nin ha hb hm
theorem t_in {k : Nat} (hr : Room k X.A) (ha : E2 X .bw a ma) (hb : E2 X .bw b mb) (hm : behindInMarks .In b = false := by rfl) : T2 X (.Compare a [.In] [b] pos) (mT (m2 (dMem false) ma mb)) := t_cmp (op_inD (TL.Room.units65 hr)) does_in ha hb hm
theorem t_nin {k : Nat} (hr : Room k X.A) (ha : E2 X .bw a ma) (hb : E2 X .bw b mb) (hm : behindInMarks .NotIn b = false := by rfl) : T2 X (.Compare a [.NotIn] [b] pos) (mT (m2 (dMem true) ma mb)) := t_cmp (op_notInD (TL.Room.units65 hr)) does_nin ha hb hm

/-! ### isinstance -/
def tyD : D → String
  | .none => "NoneType"
  | .bool _ => "bool"
  | .int _ => "int"
  | .str _ => "str"
  | .list _ => "list"
  | .tuple _ => "tuple"
  | .dict [(.dict [], .dict []), _] => "tuple"
  | .dict _ => "dict"
def isIn (t c : String) : Bool := t == c || (t == "bool" && c == "int")
/-- all but dicts whose kind is not told -/
def okT : D → Bool
  | .dict [(.none, _)] => false
  | .dict [(.bool true, _), _] => false
  | _ => true
theorem tyD_x {H0 H F : Hp} {v : V} {d : D} (s : Same F H) (r : RepK K .bw H0 H F v d) (hd : okT d = true) : TyX K H v (.type (tyD d)) := by
  have sq : ∀ {a : Addr} {vs : List V}, SqL K H a vs → TyX K H (.ref a) (.type "list") := fun {a vs} h => by
    rcases h with (h | ⟨o, h⟩) | ⟨o, _, _, h1, h2, _⟩
    · exact .base (.lst h)
    · exact .base (.frz h)
    · exact .kList h1 h2
  have st : ∀ {a : Addr} {vs : List V}, SqT K H a vs → TyX K H (.ref a) (.type "tuple") := fun {a vs} h => by
    rcases h with (h | ⟨o, h⟩) | ⟨o, _, _, h1, h2, _⟩
    · exact .base (.tup h)
    · exact .fTuple h
    · exact .kTuple h1 h2
  rcases r with r | ⟨a, vs, xs, rfl, rfl, h1, h2⟩
  · cases r with
    | non => exact .base .non
    | bl b => exact .base (.bl b)
    | int b => exact .base (.int b)
    | str b => exact .base (.str b)
    | lst hs ha => exact sq (s.seq hs)
    | tup hs ha => exact st (seqT s hs.sq)
    | raw hs a b => exact st (seqT s hs)
    | pdc hp => cases hd
    | exc h1 h2 h3 => cases hd
  · exact sq (.inl (.inl h1))
/-- c: a built-in class as a value -/
structure Kc (c : String) : Prop where
  is : ∀ t ∈ ["NoneType", "bool", "int", "str", "list", "tuple", "dict"], kitB t c = some (isIn t c)
theorem tyD_mem (d : D) : tyD d ∈ ["NoneType", "bool", "int", "str", "list", "tuple", "dict"] := by unfold tyD; split <;> simp
theorem kc_int : Kc "int" := ⟨by decide +kernel⟩
theorem kc_bool : Kc "bool" := ⟨by decide +kernel⟩
theorem kc_str : Kc "str" := ⟨by decide +kernel⟩
theorem kc_list : Kc "list" := ⟨by decide +kernel⟩
theorem kc_tuple : Kc "tuple" := ⟨by decide +kernel⟩
theorem kc_dict : Kc "dict" := ⟨by decide +kernel⟩
def dIs (c : String) : Op1 := fun x P => okT x = true ∧ P (.bool (isIn (tyD x) c))
def dIs2 (c c' : String) : Op1 := fun x P => okT x = true ∧ P (.bool (isIn (tyD x) c || isIn (tyD x) c'))
theorem e_isi {c : String} (k : Kc c) (hg : Gl X "isinstance") (hm : X.mg "isinstance" = none) (ha : E2 X .bw a ma) (hb : PE X b (tC (.ty c))) (he : starEach [a, b] X.env = (false, eval a X.env) :: starEach [b] X.env := by rfl) (he2 : starEach [b] X.env = (false, eval b X.env) :: starEach [] X.env := by rfl)
    (hpl : (backTo pos (starEach [b] X.env)).any (·.1) = false := by rfl) : E2 X .fz (.Call (.Name "isinstance" p) [a, b] [] pos) (m1 (dIs c) ma) := by
  refine ⟨pe_weak (pe_callB call_isi hg hm PyProof.Rows.boot_isinstance (pa_cons ha.pe (pa_cons hb pa_nil he2) he) (by decide) (by decide) he hpl) fun σ H Q ⟨A, τ, n, F, P, eK, R, hm, hq⟩ => tE_run eK R hm fun d n1 v1 H1 F1 p1 a1 r1 => ?_⟩
  exact ⟨v1, .ty c, _, _, _, rfl, .ty c, tyD_x a1.sub r1 p1.1, kit_ty (k.is _ (tyD_mem d)), hq _ n1 _ H1 F1 p1.2 a1 (.bl _)⟩
end
end TL
set_option Elab.async false
set_option linter.all false
set_option maxRecDepth 100000
set_option maxHeartbeats 4000000
namespace TL
open PySem PySem.Spec PyProof.Rows L2
section
variable {X : Cx} {K : PySem.W.Frag} {tg iter : Expr} {a b c e : Expr} {ma mb mc me : EM} {p pos tpos apos cpos : Pos} {kr : Kd} {x : Str} {fid : String}
/-- isinstance(x, (c, c')) -/
theorem e_isi2 {c1 c2 : Expr} {s1 s2 : String} {x1 tp} (k1 : Kc s1) (k2 : Kc s2) (hg : Gl X "isinstance") (hm : X.mg "isinstance" = none) (ha : E2 X .bw a ma) (h1 : PE X c1 (tC (.ty s1))) (h2 : PE X c2 (tC (.ty s2))) (he : starEach [a, .Tuple [c1, c2] x1 tp] X.env = (false, eval a X.env) :: starEach [.Tuple [c1, c2] x1 tp] X.env := by rfl)
    (he2 : starEach [.Tuple [c1, c2] x1 tp] X.env = (false, eval (.Tuple [c1, c2] x1 tp) X.env) :: starEach [] X.env := by rfl) (he3 : starEach [c1, c2] X.env = (false, eval c1 X.env) :: starEach [c2] X.env := by rfl) (he4 : starEach [c2] X.env = (false, eval c2 X.env) :: starEach [] X.env := by rfl)
    (hpl : (backTo pos (starEach [.Tuple [c1, c2] x1 tp] X.env)).any (·.1) = false := by rfl) : E2 X .fz (.Call (.Name "isinstance" p) [a, .Tuple [c1, c2] x1 tp] [] pos) (m1 (dIs2 s1 s2) ma) := by
  refine ⟨pe_weak (pe_callB call_isiT hg hm PyProof.Rows.boot_isinstance (pa_cons ha.pe (pa_cons (pe_tup (pa_cons h1 (pa_cons h2 pa_nil he4) he3)) pa_nil he2) he) (by decide) (by decide) he hpl) fun σ H Q ⟨A, τ, n, F, P, eK, R, hm, hq⟩ => tE_run eK R hm fun d n1 v1 H1 F1 p1 a1 r1 => ?_⟩
  refine ⟨by show 2 ≤ sizeLine; decide, fun q hp => ?_⟩
  have t1 := tyD_x a1.sub r1 p1.1
  have b1 : PAdv H1 F1 (upd H1 q (.tup [.ty s1, .ty s2])) F1 := PAdv.new' a1.sub hp
  have r2 : RepK X.K .bw H (upd H1 q (.tup [.ty s1, .ty s2])) F1 v1 d := bw_adv r1 (b1.adv (R.step a1).box) a1.sub (R.step a1).box
  refine ⟨v1, q, [.ty s1, .ty s2], _, [.type s1, .type s2], isIn (tyD d) s1 || isIn (tyD d) s2, rfl, upd_same, .cons (.ty s1) (.cons (.ty s2) .nil), tyD_x b1.sub r2 p1.1, ?_, hq _ n1 _ _ F1 p1.2 (a1.trans (b1.adv (R.step a1).box)) (.bl _)⟩
  have e1 := k1.is _ (tyD_mem d)
  have e2 := k2.is _ (tyD_mem d)
  have e1' : PySem.W.kitOne X.K (.type (tyD d)) (.type s1) = some (isIn (tyD d) s1) := kit_ty e1
  have e2' : PySem.W.kitOne X.K (.type (tyD d)) (.type s2) = some (isIn (tyD d) s2) := kit_ty e2
  unfold PySem.W.kitAny
  rw [e1']
  cases isIn (tyD d) s1 with
  | true => rfl
  | false =>
    show PySem.W.kitAny _ _ _ = _
    unfold PySem.W.kitAny
    rw [e2']
    cases isIn (tyD d) s2 <;> rfl

/-! ### calls by names -/
def perm {α : Type} (is : List Nat) (xs : List α) : List α := is.filterMap fun i => xs[i]?
theorem perm_rel {α β : Type} {R : α → β → Prop} {xs : List α} {ys : List β} (h : Paired R xs ys) : ∀ is : List Nat, Paired R (perm is xs) (perm is ys)
  | [] => .nil
  | i :: is => by
    have ih := perm_rel h is
    have key : ∀ (xs : List α) (ys : List β), Paired R xs ys → ∀ i : Nat, (xs[i]? = none ∧ ys[i]? = none) ∨ ∃ x y, xs[i]? = some x ∧ ys[i]? = some y ∧ R x y := by
      intro xs
      induction xs with
      | nil => intro ys h i; cases h; exact .inl (by simp)
      | cons x r ih2 =>
        intro ys h i
        cases h with
        | cons h1 h2 =>
          cases i with
          | zero => exact .inr ⟨_, _, rfl, rfl, h1⟩
          | succ i => simpa using ih2 _ h2 i
    unfold perm at ih ⊢
    rcases key xs ys h i with ⟨e1, e2⟩ | ⟨x, y, e1, e2, r⟩
    · rw [List.filterMap_cons, List.filterMap_cons, e1, e2]; exact ih
    · rw [List.filterMap_cons, List.filterMap_cons, e1, e2]; exact .cons r ih
theorem paired_append {α β : Type} {R : α → β → Prop} {xs : List α} {ys : List β} {xs' : List α} {ys' : List β} (h : Paired R xs ys) (h' : Paired R xs' ys') : Paired R (xs ++ xs') (ys ++ ys') := by
  induction h with
  | nil => exact h'
  | cons a b ih => exact .cons a ih
theorem kbn {name qual : Str} {params : Arguments} {body : List Stmt} {scope : Scope} {f : Addr} {fd : FuncData} {ps : List Str} (F : FunD K name qual params body scope [] [] f fd) (n : Nat) (ks : List Str) (is : List Nat)
    (h : ∀ (kV doc pm : Value) (an : Option Addr) (cdv ct : Value) (us ws : List Value), us.length = n → ws.length = ks.length → bindArgs (PySem.W.fnOf name qual params body scope .none kV doc pm an cdv ct) ⟨us, ks.zip ws⟩ = pure (ps.zip (perm is (us ++ ws)))) :
    KBn K fd ps n ks (fun us ws => perm is (us ++ ws)) (fun vs zs => perm is (vs ++ zs)) := by
  obtain ⟨oc, od, dV, kV, doc, pm, an, cdv, ct, osl, rfl, lk, hcd, hD, hK⟩ := F.ex
  rcases hD with ⟨_, rfl⟩ | ⟨e, _⟩
  · exact ⟨fun s us ws _ l1 l2 => .of_eq (h kV doc pm an cdv ct us ws l1 l2), fun r1 r2 => perm_rel (paired_append r1 r2) is⟩
  · exact absurd rfl e
theorem pe_callN0 {CX : CXT} {k : Nat} {f : Addr} {fd : FuncData} {ps ks : List Str} {sp : Sp} {E : XK} {kws : List Keyword} {tk : TA} {g : List Value → List Value → List Value} {gV : List V → List V → List V} (F : FnOk X.prog X.w X.K X.mg X.base CX k f fd ps sp) (hr : Room k X.A) (hg : Gl X x) (hm : X.mg x = some (.ref f)) (hk : PySem.W.keepIn X.K (.ref f) = true)
    (hb : KBn X.K fd ps 0 ks g gV) (hx : Passes CX X E) (hkw : PK X kws tk) (hall : (backToKw pos (keywordEach kws X.env)).all (·.1.isSome) = true := by rfl) (hks : (backToKw pos (keywordEach kws X.env)).filterMap (·.1) = ks := by rfl) (hdb : (x == ("__debug__" : Str)) = false := by decide)
    (hpl : ((backTo pos (starEach [] X.env)).any (·.1) || (backToKw pos (keywordEach kws X.env)).any (·.1.isNone)) = false := by rfl) :
    PE X (.Call (.Name x p) [] kws pos) (tCallN 0 ks.length sp gV E tNil tk) := by
  refine ⟨fun pins s σ H Q I h => ?_⟩
  refine wpAny_Call_Name_kw (ld_glob I hg hm ?_ hdb)
  refine PySem.W.callWith_KW0 (h₀ := X.base) I.ok.mod.kin hk hall ?_ hpl
  refine thn (hkw.run pos pins s σ H _ I h) fun ws s2 ⟨zs, H2, I2, rz, l1, l2, q2⟩ => ⟨I2.kIn, ?_⟩
  rw [hks]
  exact run_fnN (us := []) (vs := []) F hr hb hx I2 .nil rz rfl l2 q2
/-- the keywords' values -/
structure K2 (X : Cx) (kws : List Keyword) (m : AM) : Prop where
  pk : PK X kws (tA X.K m)
theorem pk_weak {kws : List Keyword} {t t' : TA} (h : PK X kws t) (w : ∀ σ H Q, t' σ H Q → t σ H Q) : PK X kws t' := ⟨fun pos pins s σ H Q I q => h.run pos pins s σ H Q I (w σ H Q q)⟩
theorem k_nil : K2 X [] kNil := ⟨pk_weak pk_nil fun σ H Q ⟨A, τ, n, F, P, eK, R, p, hq⟩ => hq [] n [] H F p (Adv.refl R.same R.box) .nil⟩
theorem k_cons {kws : List Keyword} {m : AM} {nm : Option Str} {kp : Pos} (ha : E2 X .fz a ma) (hr : K2 X kws m) : K2 X (⟨nm, a, kp⟩ :: kws) (kCons ma m) := by
  refine ⟨pk_weak (pk_cons ha.pe hr.pk) fun σ H Q ⟨A, τ, n, F, P, eK, R, hm, hq⟩ => tE_run eK R hm fun d n1 v H1 F1 p1 a1 r1 => ?_⟩
  refine ⟨A, τ, n1, F1, _, eK, R.step a1, p1, fun ds n2 vs H2 F2 p2 a2 r2 => ?_⟩
  exact hq (.d d :: ds) n2 (v :: vs) H2 F2 p2 (a1.trans a2) (.cons (dp_mono (a2.fro a1.sub) d v r1) r2)
/-- positional and named arguments in the parameters' order -/
def kApp (m m' : AM) : AM := fun τ n Q => m τ n fun ss n1 => m' τ n1 fun zs n2 => Q (ss ++ zs) n2
def kPerm (np nk : Nat) (is : List Nat) (m m' : AM) : AM := fun τ n Q => m τ n fun ss n1 => m' τ n1 fun zs n2 => ss.length = np ∧ zs.length = nk ∧ Q (perm is (ss ++ zs)) n2
theorem tCallN_go {kr : Kd} {np q nk : Nat} {is : List Nat} {f : FM} {m m' : AM} {σ : L2.St} {H : Hp} {Q : VK} {E : XK} (h : tE K kr (mCal np f (kPerm q nk is m m')) σ H Q) :
    tCallN q nk (Pr K kr np f) (fun vs zs => perm is (vs ++ zs)) E (tA K m) (tA K m') σ H Q := by
  obtain ⟨A, τ, n, F, P, eK, R, hm, hq⟩ := h
  refine ⟨A, τ, n, F, _, eK, R, hm, fun ss n1 vs H1 F1 p1 a1 r1 => ⟨A, τ, n1, F1, _, eK, R.step a1, p1, fun zs n2 ws H2 F2 p2 a2 r2 => ?_⟩⟩
  obtain ⟨l1, l2, p3, p4⟩ := p2
  have a12 := a1.trans a2
  have R1 := R.step a12
  have r1' : Paired (SlArg K A.bx F2) ss vs := Paired.mapP r1 fun s v z => SlArg.mono (a2.fro a1.sub) z
  refine ⟨r1.length.symm.trans l1, r2.length.symm.trans l2, F2, perm is (ss ++ zs), n2, A.bx, P, fun _ _ => False, p3, R1.same, fun b hb => ⟨R1.box b hb, ?_⟩, perm_rel (paired_append r1' r2) is, p4, fun d n' v H' F' p' a' r' => ?_, fun _ _ _ _ _ _ z => z.elim⟩
  · have h0 := R.ok.box b hb
    rw [R1.adv.old b (by rw [h0.1]; exact fun z => nomatch z)]
    exact h0.2
  · exact hq d n' v H' F' p' (a12.trans a') (r'.h0 fun c h => a12.none_back c h)
theorem tA_nil {σ : L2.St} {H : Hp} {Q : List V → Hp → Prop} (h : tA K kNil σ H Q) : tNil σ H Q := by
  obtain ⟨A, τ, n, F, P, eK, R, p, hq⟩ := h
  exact hq [] n [] H F p (Adv.refl R.same R.box) .nil
/-- f(k = v, ..) -/
theorem e_callKW {k : Nat} {fa : Addr} {fd : FuncData} {ps ks : List Str} {kr : Kd} {np : Nat} {f : FM} {m : AM} {is : List Nat} {kws : List Keyword} (G : FnOk X.prog X.w X.K X.mg X.base CX0 k fa fd ps (Pr X.K kr np f)) (hr : Room k X.A) (hg : Gl X x) (hm : X.mg x = some (.ref fa)) (hk : PySem.W.keepIn X.K (.ref fa) = true)
    (hb : KBn X.K fd ps 0 ks (fun us ws => perm is (us ++ ws)) (fun vs zs => perm is (vs ++ zs))) (hkw : K2 X kws m) (hall : (backToKw pos (keywordEach kws X.env)).all (·.1.isSome) = true := by rfl) (hks : (backToKw pos (keywordEach kws X.env)).filterMap (·.1) = ks := by rfl) (hdb : (x == ("__debug__" : Str)) = false := by decide)
    (hpl : ((backTo pos (starEach [] X.env)).any (·.1) || (backToKw pos (keywordEach kws X.env)).any (·.1.isNone)) = false := by rfl) :
    E2 X kr (.Call (.Name x p) [] kws pos) (mCal np f (kPerm 0 ks.length is kNil m)) :=
  ⟨pe_weak (pe_callN0 G hr hg hm hk hb pass0 hkw.pk hall hks hdb hpl) fun σ H Q h => by
    obtain ⟨A, τ, n, F, P, eK, R, p, hq⟩ := tCallN_go (E := E0) h
    exact hq [] n [] H F p (Adv.refl R.same R.box) .nil⟩
/-- f(e, .., k = v, ..) -/
theorem e_callK {k q : Nat} {fa : Addr} {fd : FuncData} {ps ks : List Str} {kr : Kd} {np : Nat} {f : FM} {m m' : AM} {is : List Nat} {kws : List Keyword} {es : List Expr} (G : FnOk X.prog X.w X.K X.mg X.base CX0 k fa fd ps (Pr X.K kr np f)) (hr : Room k X.A) (hg : Gl X x) (hm : X.mg x = some (.ref fa)) (hk : PySem.W.keepIn X.K (.ref fa) = true)
    (hb : KBn X.K fd ps q ks (fun us ws => perm is (us ++ ws)) (fun vs zs => perm is (vs ++ zs))) (ha : A2 X (a :: es) m') (hkw : K2 X kws m) (hall : (backToKw pos (keywordEach kws X.env)).all (·.1.isSome) = true := by rfl) (hks : (backToKw pos (keywordEach kws X.env)).filterMap (·.1) = ks := by rfl)
    (hdb : (x == ("__debug__" : Str)) = false := by decide) (he : starEach (a :: es) X.env = (false, eval a X.env) :: starEach es X.env := by rfl)
    (hpl : ((backTo pos (starEach (a :: es) X.env)).any (·.1) || (backToKw pos (keywordEach kws X.env)).any (·.1.isNone)) = false := by rfl) :
    E2 X kr (.Call (.Name x p) (a :: es) kws pos) (mCal np f (kPerm q ks.length is m' m)) :=
  ⟨pe_weak (pe_callN G hr hg hm hk hb pass0 ha.pa hkw.pk hall hks hdb he hpl) fun σ H Q h => tCallN_go (E := E0) h⟩

/-! ### the box -/
theorem box_open {pins : List (Addr × Obj)} {σ : L2.St} {H : Hp} {s : Shared} {b : Addr} {n : Nat} (I : Inv X pins σ H s) (h : H b = some (.ext (boxP b n))) :
    ∃ x y z : Int, Inv X pins σ (upd H b (.lst [.int x, .int y, .int z])) s ∧ 0 ≤ x ∧ (0 ≤ y ∧ y < 2 ^ 62) ∧ 0 ≤ z ∧ z ≤ n := by
  obtain ⟨⟨x, y, z, t, u, v, c, e, h1, h2, h3, h4⟩, _, _⟩ := I.hok b _ h
  refine ⟨x, y, z, ?_, h1, h2, h3, h4⟩
  have := I.write (x := b) (e := b) (o := .lst [.int x, .int y, .int z]) (h' := s.heap) (t' := s.toks) (by rw [h]; exact True.intro) (.inl rfl) (fun _ _ _ q => q) ⟨_, e⟩ ⟨by show 3 ≤ sizeLine; decide, [.int x t, .int y u, .int z v], c, .cons ⟨t, rfl⟩ (.cons ⟨u, rfl⟩ (.cons ⟨v, rfl⟩ .nil)), e⟩
  exact this
theorem boxP_stay {b : Addr} {n : Nat} : ∀ h1 h2 : Heap, boxP b n h1 → (∀ o, h1.get? b = some o → h2.get? b = some o) → boxP b n h2 := fun h1 h2 ⟨x, y, z, t, u, v, c, e, q⟩ k => ⟨x, y, z, t, u, v, c, k _ e, q⟩
theorem box_close {pins : List (Addr × Obj)} {σ : L2.St} {H : Hp} {s : Shared} {b : Addr} {n : Nat} {x y z : Int} (I : Inv X pins σ H s) (h : H b = some (.lst [.int x, .int y, .int z])) (h1 : 0 ≤ x) (h2 : 0 ≤ y ∧ y < 2 ^ 62) (h3 : 0 ≤ z) (h4 : z ≤ n) : Inv X pins σ (upd H b (.ext (boxP b n))) s := by
  obtain ⟨_, its, c, r, e⟩ := I.hok b _ h
  obtain ⟨t, u, v, rfl⟩ : ∃ t u v, its = [.int x t, .int y u, .int z v] := by
    cases r with
    | cons r1 r =>
      cases r with
      | cons r2 r =>
        cases r with
        | cons r3 r =>
          cases r
          obtain ⟨t, rfl⟩ := r1
          obtain ⟨u, rfl⟩ := r2
          obtain ⟨v, rfl⟩ := r3
          exact ⟨t, u, v, rfl⟩
  exact I.write (x := b) (e := b) (o := .ext (boxP b n)) (h' := s.heap) (t' := s.toks) (by rw [h]; exact True.intro) (.inl rfl) (fun _ _ _ q => q) ⟨_, e⟩ ⟨⟨x, y, z, t, u, v, c, e, h1, h2, h3, h4⟩, ⟨_, e⟩, boxP_stay⟩
/-- a body over the box as a list; at its end it's the box again -/
theorem pss_box {sts : List Stmt} {t : TS} (h : PSs X sts t) : PSs X sts (fun Dd σ H => ∃ b n n', H b = some (.ext (boxP b n)) ∧ ∀ x y z : Int, 0 ≤ x → (0 ≤ y ∧ y < 2 ^ 62) → 0 ≤ z → z ≤ n →
    t { nx := fun _ _ => False, rt := fun v H' => ∃ x y z : Int, H' b = some (.lst [.int x, .int y, .int z]) ∧ 0 ≤ x ∧ (0 ≤ y ∧ y < 2 ^ 62) ∧ 0 ≤ z ∧ z ≤ (n' : Nat) ∧ Dd.rt v (upd H' b (.ext (boxP b n'))) } σ (upd H b (.lst [.int x, .int y, .int z]))) := by
  refine ⟨fun pins s σ H Dd I ⟨b, n, n', hb, q⟩ => ?_⟩
  obtain ⟨x, y, z, I1, h1, h2, h3, h4⟩ := box_open I hb
  refine thn (h.run pins s σ _ _ I1 (q x y z h1 h2 h3 h4)) fun f s1 q1 => ?_
  cases f with
  | next => obtain ⟨_, _, _, z⟩ := q1; exact z.elim
  | brk => obtain ⟨_, _, _, z⟩ := q1; exact z.elim
  | cont => obtain ⟨_, _, _, z⟩ := q1; exact z.elim
  | ret u =>
    obtain ⟨v, σ', H', I2, r, x', y', z', g1, g2, g3, g4, g5, g6⟩ := q1
    exact ⟨v, σ', _, box_close I2 g1 g2 g3 g4 g5, r, g6⟩
/-- how many draws at most -/
def cap : Nat := 2 ^ 4000
theorem cap_le : 2 ^ 62 + 39373 * (cap + 1) < 2 ^ 4020 := by decide +kernel
theorem bits_cap {i : Int} (h0 : 0 ≤ i) (h : i.toNat < 2 ^ 62 + 39373 * (cap + 1)) : Builtin.Int.intBits i ≤ 4020 := by
  refine intBits_le (Nat.lt_trans ?_ cap_le)
  omega
def fTake : FM := fun as n P _ => ∃ many : Int, as = [.box, .d (.int many)] ∧ (0 < many ∧ many < 2 ^ 62) ∧ n < cap ∧ ∀ r : Int, 0 ≤ r → r < many → P (.int r) (n + 1)
theorem log_62 {m : Int} (h0 : 0 < m) (h : m < 2 ^ 62) : m.natAbs.log2 < 9000 := by
  have h1 : m.natAbs < 2 ^ 62 := by omega
  exact Nat.lt_of_lt_of_le (PySem.Flt.log2_lt_of (by decide) h1) (by decide)
end
section
variable {P : Program} {w : World} {K : PySem.W.Frag} {mg : Str → Option Value} {base : Heap}
theorem upd3 {H : Hp} {b : Addr} {vs : List V} {o : HO} (h : H b = some o) : upd H b (.lst vs) b = some (.lst vs) := upd_same
/-- _law_take -/
theorem ok_take {st : Stmt} {qual name : Str} {f : Addr} {fd : FuncData} {k : Nat} (F : FunD K name qual (defArgs st) (defBody st) (defScope st) [] [] f fd) (S : FnScope ["_law_box", "_law_many", "_law_found", "_law_once", "_law_pair"] ["_law_box", "_law_many"] (defScope st))
    (hder : ∀ (cdv : Value) (A : Around) (outer : List Env) (s : Shared) (H : Hp) (E : XK), ∃ X, X = (cxOf CX0 P w K mg base ["_law_box", "_law_many", "_law_found", "_law_once", "_law_pair"] qual (defScope st) f cdv A outer s H E).nox ∧ PSs X (defBody st)
      (tSeq (tIfS (tTest (tOp (rI0 fun i j => .bl (decide (j < i))) (tOp (rIxL K) (tVar 0) (tC (.int 0))) (tC (.int 0))))
        (tSeq (tAsg (tOp (rI (fun _ j => 0 < j) fun i j => .int (i % j)) (tOp (rIxL K) (tVar 0) (tC (.int 0))) (tVar 1)) (gName 2))
          (tSeq (tAsg (tOp (rI CDivW fun i j => .int (i / j)) (tOp (rIxL K) (tVar 0) (tC (.int 0))) (tVar 1)) (gSub (tVar 0) (tC (.int 0)) rSetL)) (tRet (tVar 2)))) tNext)
        (tSeq (tAsg (tOp (rI0 fun i j => .int (i + j)) (tOp (rIxL K) (tVar 0) (tC (.int 2))) (tC (.int 1))) (gSub (tVar 0) (tC (.int 2)) rSetL))
          (tSeq (tAsg (tOp (rI (fun _ j => 0 < j) fun i j => .int (i % j)) (tOp (rI CPowB fun i j => .int (i ^ j.toNat)) (tOp (rI0 fun i j => .int (i + j)) (tOp (rIxL K) (tVar 0) (tC (.int 1))) (tOp (rI IntMulOk fun i j => .int (i * j)) (tC (.int 39373)) (tOp (rIxL K) (tVar 0) (tC (.int 2))))) (tC (.int 5))) (tC (.int 2147483647))) (gName 3))
            (tSeq (tAsg (tOp (rI (fun _ j => 0 < j) fun i j => .int (i % j)) (tOp (rI IntMulOk fun i j => .int (i * j))
                (tOp (rI0 fun i j => .int (i + j)) (tOp (rI0 fun i j => .int (i + j)) (tVar 3) (tOp (rIxL K) (tVar 0) (tC (.int 2)))) (tOp (rI CDivW fun i j => .int (i / j)) (tOp (rIxL K) (tVar 0) (tC (.int 1))) (tC (.int 1000003))))
                (tOp (rI0 fun i j => .int (i + j)) (tOp (rI0 fun i j => .int (i + j)) (tOp (rI (fun _ j => 0 < j) fun i j => .int (i % j)) (tVar 3) (tC (.int 40009))) (tC (.int 7))) (tOp (rIxL K) (tVar 0) (tC (.int 2))))) (tC (.int 2147483629))) (gName 4))
              (tRet (tOp (rI (fun _ j => 0 < j) fun i j => .int (i % j)) (tOp (rI CDivW fun i j => .int (i / j)) (tOp (rI (fun _ j => 0 < j) fun i j => .int (i % j)) (tOp (rI0 fun i j => .int (i + j)) (tOp (rI IntMulOk fun i j => .int (i * j)) (tVar 4) (tC (.int 48271))) (tVar 3)) (tC (.int 2147483587))) (tC (.int 64))) (tVar 1)))))))) :
    FnOk P w K mg base CX0 (k + 1) f fd ["_law_box", "_law_many"] (Pr K .fz 2 fTake) := by
  refine F.ok S (fun vs H Q E h => Pr.len vs H Q E h) fun cdv A outer s H vs Q E hr h => ?_
  obtain ⟨X, rfl, hd⟩ := hder cdv A outer s H E
  refine ⟨_, (pss_box hd).nox, ?_⟩
  obtain ⟨F0, as, n, bx, P', PX, hl, sm, hb, hp, ⟨many, rfl, ⟨hm0, hm1⟩, hn, hP⟩, hq, hx⟩ := h
  cases hp with
  | cons p1 hp =>
    cases hp with
    | cons p2 hp =>
      cases hp
      obtain ⟨b, rfl, eb⟩ := p1
      cases p2
      obtain ⟨hb1, hb2⟩ := hb b eb
      refine ⟨b, n, n + 1, hb1, fun x y z h1 h2 h3 h4 => ?_⟩
      have dv := log_62 hm0 hm1
      have fin : ∀ (x' y' z' r : Int) (H' : Hp), 0 ≤ x' → (0 ≤ y' ∧ y' < 2 ^ 62) → 0 ≤ z' → z' ≤ ((n + 1 : Nat) : Int) → 0 ≤ r → r < many → (∀ a, a ≠ b → H' a = H a) → H' b = some (.lst [.int x', .int y', .int z']) →
          ∃ x y z : Int, H' b = some (.lst [.int x, .int y, .int z]) ∧ 0 ≤ x ∧ (0 ≤ y ∧ y < 2 ^ 62) ∧ 0 ≤ z ∧ z ≤ ((n + 1 : Nat) : Int) ∧ Q (.int r) (upd H' b (.ext (boxP b (n + 1)))) := by
        intro x' y' z' r H' g1 g2 g3 g4 g5 g6 g7 g8
        refine ⟨x', y', z', g8, g1, g2, g3, g4, hq (.int r) (n + 1) (.int r) _ F0 (hP r g5 g6) ⟨fun a o e hn => ?_, fun a _ => rfl, fun a o e => ?_, fun a e => ?_⟩ (.int r)⟩
        · have : a ≠ b := fun z => hn (by rw [z]; exact eb)
          rw [upd_ne this, g7 a this]; exact e
        · have : a ≠ b := fun z => by subst z; rw [hb2] at e; cases e
          rw [upd_ne this, g7 a this]; exact sm a o e
        · rw [eb] at e; cases e; exact upd_same
      have u0 : ∀ vs : List V, SqL K (upd H b (.lst vs)) b vs := fun vs => .inl (.inl upd_same)
      have oth : ∀ (H' : Hp) (o : HO) (a : Addr), a ≠ b → upd H' b o a = H' a := fun H' o a q => upd_ne q
      refine ⟨.ref b, rfl, b, _, 0, .int x, rfl, rfl, u0 _, rfl, x, 0, rfl, rfl, decide (0 < x), rfl, ite2 (fun e => ?_) (fun e => ?_)⟩
      · have hx0 : 0 < x := of_decide_eq_true e
        refine ⟨.ref b, rfl, b, _, 0, .int x, rfl, rfl, u0 _, rfl, .int many, rfl, x, many, rfl, rfl, hm0, ?_⟩
        refine ⟨.ref b, rfl, b, _, 0, .int x, rfl, rfl, u0 _, rfl, .int many, rfl, x, many, rfl, rfl, ⟨hm0, dv⟩, ?_⟩
        refine ⟨.ref b, rfl, b, _, 0, 0, rfl, rfl, upd_same, rfl, ?_⟩
        refine ⟨.int (x % many), rfl, ?_⟩
        refine fin (x / many) y z (x % many) _ (Int.ediv_nonneg h1 (by omega)) h2 h3 (by omega) (Int.emod_nonneg x (by omega)) (Int.emod_lt_of_pos x hm0) (fun a q => by rw [oth _ _ a q, oth _ _ a q]) (by rw [upd_same]; rfl)
      · have hz1 : (0 : Int) ≤ z + 1 := by omega
        have hz2 : z + 1 ≤ ((n + 1 : Nat) : Int) := by omega
        refine ⟨.ref b, rfl, b, _, 2, .int z, rfl, rfl, u0 _, rfl, z, 1, rfl, rfl, ?_⟩
        refine ⟨.ref b, rfl, b, _, 2, 2, rfl, rfl, upd_same, rfl, ?_⟩
        rw [show ([V.int x, V.int y, V.int z].set 2 (.int (z + 1))) = [V.int x, V.int y, V.int (z + 1)] from rfl, upd_upd]
        have ib : ∀ i : Int, -(2 ^ 64) < i → i < 2 ^ 64 → Builtin.Int.intBits i ≤ 64 := fun i a b => intBits_le_64 a b
        refine ⟨.ref b, rfl, b, _, 1, .int y, rfl, rfl, u0 _, rfl, .ref b, rfl, b, _, 2, .int (z + 1), rfl, rfl, u0 _, rfl, 39373, z + 1, rfl, rfl, .of_left (ib _ (by decide) (by decide)), y, 39373 * (z + 1), rfl, rfl, ?_⟩
        refine ⟨y + 39373 * (z + 1), 5, rfl, rfl, ⟨by decide, ?_⟩, _, 2147483647, rfl, rfl, (by show (0 : Int) < 2147483647; decide), ?_⟩
        · have hb3 : Builtin.Int.intBits (y + 39373 * (z + 1)) ≤ 4020 := bits_cap (by omega) (by omega)
          omega
        · dsimp only
          generalize ho : ((y + 39373 * (z + 1)) ^ (5 : Int).toNat) % 2147483647 = once
          have o1 : 0 ≤ once := by rw [← ho]; exact Int.emod_nonneg _ (by decide)
          have o2 : once < 2147483647 := by rw [← ho]; exact Int.emod_lt_of_pos _ (by decide)
          refine ⟨.int once, rfl, .ref b, rfl, b, _, 2, .int (z + 1), rfl, rfl, u0 _, rfl, once, z + 1, rfl, rfl, .ref b, rfl, b, _, 1, .int y, rfl, rfl, u0 _, rfl, y, 1000003, rfl, rfl, ⟨by decide, by decide⟩, once + (z + 1), y / 1000003, rfl, rfl, ?_⟩
          refine ⟨.int once, rfl, once, 40009, rfl, rfl, (by show (0 : Int) < 40009; decide), once % 40009, 7, rfl, rfl, .ref b, rfl, b, _, 2, .int (z + 1), rfl, rfl, u0 _, rfl, once % 40009 + 7, z + 1, rfl, rfl, ?_⟩
          have m1 : 0 ≤ once % 40009 := Int.emod_nonneg _ (by decide)
          have m2 : once % 40009 < 40009 := Int.emod_lt_of_pos _ (by decide)
          refine ⟨once + (z + 1) + y / 1000003, once % 40009 + 7 + (z + 1), rfl, rfl, .of_bits (Nat.le_trans (bits_cap (by omega) (by omega)) (by decide)) (Nat.le_trans (bits_cap (by omega) (by omega)) (by decide)), _, 2147483629, rfl, rfl, (by show (0 : Int) < 2147483629; decide), ?_⟩
          dsimp only
          generalize hp : (once + (z + 1) + y / 1000003) * (once % 40009 + 7 + (z + 1)) % 2147483629 = pair
          have q1 : 0 ≤ pair := by rw [← hp]; exact Int.emod_nonneg _ (by decide)
          have q2 : pair < 2147483629 := by rw [← hp]; exact Int.emod_lt_of_pos _ (by decide)
          refine ⟨.int pair, rfl, pair, 48271, rfl, rfl, .of_right (ib _ (by decide) (by decide)), .int once, rfl, pair * 48271, once, rfl, rfl, _, 2147483587, rfl, rfl, (by show (0 : Int) < 2147483587; decide), _, 64, rfl, rfl, ⟨by decide, by decide⟩, .int many, rfl, _, many, rfl, rfl, hm0, ?_⟩
          exact fin x y (z + 1) _ _ h1 h2 hz1 hz2 (Int.emod_nonneg _ (by omega)) (Int.emod_lt_of_pos _ hm0) (fun a q => oth _ _ a q) upd_same
end
end TL
set_option Elab.async false
set_option linter.all false
set_option maxRecDepth 100000
set_option maxHeartbeats 4000000
namespace TL
open PySem PySem.Spec PyProof.Rows L2
section
variable {X : Cx} {K : PySem.W.Frag} {a b c e : Expr} {ma mb mc me : EM} {p pos tpos apos cpos : Pos} {kr : Kd} {x : Str} {fid : String}
def tCallBx (sp : Sp) (E : XK) (ta : TE) : TE := fun σ H Q => ta σ H fun v H1 => ∃ b n, ∃ x y z : Int, v = .ref b ∧ H1 b = some (.lst [.int x, .int y, .int z]) ∧ 0 ≤ x ∧ (0 ≤ y ∧ y < 2 ^ 62) ∧ 0 ≤ z ∧ z ≤ (n : Nat) ∧ sp [v] (upd H1 b (.ext (boxP b n))) Q E
theorem pe_callBx {CX : CXT} {k : Nat} {f : Addr} {fd : FuncData} {ps : List Str} {sp : Sp} {E : XK} {ta : TE} (F : FnOk X.prog X.w X.K X.mg X.base CX k f fd ps sp) (hr : Room k X.A) (hg : Gl X x) (hm : X.mg x = some (.ref f)) (hk : PySem.W.keepIn X.K (.ref f) = true) (hb : Binds X.K fd ps []) (hx : Passes CX X E)
    (ha : PE X a ta) (hdb : (x == ("__debug__" : Str)) = false := by decide) (he : starEach [a] X.env = (false, eval a X.env) :: starEach [] X.env := by rfl) (hpl : (backTo pos (starEach [] X.env)).any (·.1) = false := by rfl) :
    PE X (.Call (.Name x p) [a] [] pos) (tCallBx sp E ta) := by
  refine ⟨fun pins s σ H Q I h => ?_⟩
  refine wpAny_Call_Name_kw (ld_glob I hg hm ?_ hdb)
  refine PySem.W.callWith_K (h₀ := X.base) I.ok.mod.kin hk (thn ((pa_cons ha pa_nil he).run pos pins s σ H (fun vs H1 => match vs with
    | [v] => ∃ b n, ∃ x y z : Int, v = .ref b ∧ H1 b = some (.lst [.int x, .int y, .int z]) ∧ 0 ≤ x ∧ (0 ≤ y ∧ y < 2 ^ 62) ∧ 0 ≤ z ∧ z ≤ (n : Nat) ∧ sp [v] (upd H1 b (.ext (boxP b n))) Q E
    | _ => False) I h) fun us s1 ⟨vs, H1, I1, r, q⟩ => ⟨I1.kIn, ?_⟩) he hpl
  have hv : ∃ v, vs = [v] := by
    rcases vs with _ | ⟨v, _ | ⟨v2, r2⟩⟩
    · exact False.elim q
    · exact ⟨v, rfl⟩
    · exact False.elim q
  obtain ⟨v, rfl⟩ := hv
  obtain ⟨b, n, x, y, z, ev, h1, h2, h3, h4, h5, q⟩ := q
  exact run_fn F hr hb .nil hx (box_close I1 h1 h2 h3 h4 h5) r q
def mCallBx (f : FM) (m : EM) : EM := fun τ n Q => m τ n fun d n1 => ∃ x y : Int, d = .list [.int x, .int y, .int 0] ∧ 0 ≤ x ∧ (0 ≤ y ∧ y < 2 ^ 62) ∧ f [.box] 0 (fun d _ => Q d n1) fun _ _ => False
/-- f(box made just now) -/
theorem e_callBx {k : Nat} {fa : Addr} {fd : FuncData} {ps : List Str} {kr : Kd} {f : FM} (G : FnOk X.prog X.w X.K X.mg X.base CX0 k fa fd ps (Pr X.K kr 1 f)) (hr : Room k X.A) (hg : Gl X x) (hm : X.mg x = some (.ref fa)) (hk : PySem.W.keepIn X.K (.ref fa) = true) (hb : Binds X.K fd ps [])
    (ha : E2 X .nw a ma) (hdb : (x == ("__debug__" : Str)) = false := by decide) (he : starEach [a] X.env = (false, eval a X.env) :: starEach [] X.env := by rfl) (hpl : (backTo pos (starEach [] X.env)).any (·.1) = false := by rfl) :
    E2 X kr (.Call (.Name x p) [a] [] pos) (mCallBx f ma) := by
  refine ⟨pe_weak (pe_callBx (E := E0) G hr hg hm hk hb pass0 ha.pe hdb he hpl) fun σ H Q ⟨A, τ, n, F, P, eK, R, hm, hq⟩ => tE_run eK R hm ?_⟩
  rintro d n1 v H1 F1 ⟨x, y, rfl, h1, h2, p⟩ a1 ⟨b, vs, xs, ex, rfl, hb0, hbF, hbl, hd⟩
  cases ex
  have ev : vs = [V.int x, V.int y, V.int 0] := by
    have := dpAll_ints (ns := [x, y, 0]) (vs := vs) hd
    exact this
  subst ev
  have R1 := R.step a1
  have sF : Same F1 (upd H1 b (.ext (boxP b 0))) := fun c o e => by rw [upd_ne (ne_of_none e hbF)]; exact R1.same c o e
  refine ⟨b, 0, x, y, 0, rfl, hbl, h1, h2, Int.le_refl 0, Int.le_refl 0, F1, [.box], 0, some b, _, _, rfl, sF, fun c hc => ?_, .cons ⟨b, rfl, rfl⟩ .nil, p, fun d n' v H' F' p' a' r' => ?_, fun _ _ _ _ _ _ z => False.elim z⟩
  · cases hc
    exact ⟨upd_same, hbF⟩
  · have nb : ∀ c o, H c = some o → c ≠ b := fun c o e z => by subst z; rw [e] at hb0; cases hb0
    refine hq d n1 v H' F' p' ⟨fun c o e hc => ?_, fun c hc => ?_, a'.sub, fun c hc => ?_⟩ (r'.h0 fun c e => ?_)
    · exact a'.keep c o (by rw [upd_ne (nb c o e)]; exact a1.keep c o e hc) fun z => nb c o e (Option.some.inj z).symm
    · obtain ⟨o, e⟩ := Option.ne_none_iff_exists'.mp hc
      have : upd H1 b (.ext (boxP b 0)) c ≠ none := by
        rw [upd_ne (nb c o e)]
        by_cases z : A.bx = some c
        · rw [a1.box c z]; exact fun z => nomatch z
        · rw [a1.keep c o e z]; exact fun z => nomatch z
      rw [a'.old c this, a1.old c hc]
    · have e := R.box c hc
      have e1 := a1.box c hc
      exact a'.keep c _ (by rw [upd_ne (nb c _ e)]; exact e1) (fun z => nb c _ e (Option.some.inj z).symm)
    · have : c ≠ b := fun z => by subst z; rw [upd_same] at e; cases e
      rw [upd_ne this] at e
      exact a1.none_back c e
end
/-! ### the law's end -/
def spLaw (K : PySem.W.Frag) : Sp := fun vs H Q _ => ∃ (a : Addr) (ns : List Int), vs = [.ref a] ∧ SqL K H a (ns.map V.int) ∧ ns.length ≤ 63 ∧ ∀ H', Q (.bl true) H'
theorem law_fn {P : Program} {w : World} {K : PySem.W.Frag} {mg : Str → Option Value} {base : Heap} {k : Nat} {f : Addr} {fd : FuncData} {ps : List Str} {m : FM} (G : FnOk P w K mg base CX0 k f fd ps (Pr K .fz 1 m))
    (h : ∀ ns : List Int, ns.length ≤ 63 → m [.d (.list (ns.map .int))] 0 (fun d _ => d = .bool true) fun _ _ => False) : FnOk P w K mg base CX0 k f fd ps (spLaw K) := by
  refine G.imp fun vs H Q E ⟨a, ns, ev, hS, hl, hq⟩ => ?_
  subst ev
  refine ⟨H, [.d (.list (ns.map .int))], 0, none, fun d _ => d = .bool true, fun _ _ => False, rfl, Same.refl H, (fun _ z => nomatch z), .cons (.lst hS (ints_dpAll ns)) .nil, h ns hl, fun d n' v H' F' e _ r => ?_, fun _ _ _ _ _ _ z => False.elim z⟩
  subst e
  cases r
  exact hq H'
end TL
set_option Elab.async false
set_option linter.all false
set_option maxRecDepth 100000
set_option maxHeartbeats 4000000
namespace TL
open PySem PySem.Spec PyProof.Rows L2
/-- the built-in names that the module leaves free -/
structure Fz (mg : Str → Option Value) : Prop where
  len : mg "len" = none
  range : mg "range" = none
  tuple : mg "tuple" = none
  list : mg "list" = none
  enumerate : mg "enumerate" = none
  all : mg "all" = none
  any : mg "any" = none
  int : mg "int" = none
  abs : mg "abs" = none
  sorted : mg "sorted" = none
  zip : mg "zip" = none
  dict : mg "dict" = none
  str : mg "str" = none
  sum : mg "sum" = none
  max : mg "max" = none
  min : mg "min" = none
  repr : mg "repr" = none
  set : mg "set" = none
  reversed : mg "reversed" = none
  isinstance : mg "isinstance" = none
  bool : mg "bool" = none
/-- a def that keeps its promise -/
structure Cal (P : Program) (w : World) (K : PySem.W.Frag) (mg : Str → Option Value) (base : Heap) (x : Str) (ar : Arguments) (ps : List Str) (k : Nat) (kr : Kd) (m : FM) : Prop where
  ex : ∃ (f : Addr) (fd : FuncData) (qual : Str) (body : List Stmt) (scope : Scope), FunD K x qual ar body scope [] [] f fd ∧ FnOk P w K mg base CX0 k f fd ps (Pr K kr ps.length m) ∧ mg x = some (.ref f) ∧ Binds K fd ps []
section
variable {P : Program} {w : World} {K : PySem.W.Frag} {mg : Str → Option Value} {base : Heap} {x : Str} {ar : Arguments} {ps : List Str} {k : Nat} {kr : Kd} {m m' : FM}
theorem Cal.up {j : Nat} (c : Cal P w K mg base x ar ps k kr m) (h : k ≤ j := by decide) : Cal P w K mg base x ar ps j kr m := by
  obtain ⟨f, fd, q, b, s, F, G, g, bi⟩ := c.ex
  exact ⟨f, fd, q, b, s, F, G.mono h, g, bi⟩
theorem Cal.imp (c : Cal P w K mg base x ar ps k kr m) (h : ∀ as n P PX, m' as n P PX → m as n P PX) : Cal P w K mg base x ar ps k kr m' := by
  obtain ⟨f, fd, q, b, s, F, G, g, bi⟩ := c.ex
  exact ⟨f, fd, q, b, s, F, G.imp fun vs H Q E z => Pr.imp (fun as n P PX _ => h as n P PX) vs H Q E z, g, bi⟩
theorem Cal.mk2 {f : Addr} {fd : FuncData} {q : Str} {b : List Stmt} {s : Scope} (F : FunD K x q ar b s [] [] f fd) (G : FnOk P w K mg base CX0 k f fd ps (Pr K kr ps.length m)) (g : mg x = some (.ref f))
    (h : ∀ (kV doc pm : Value) (an : Option Addr) (cdv ct : Value) (us : List Value), us.length = ps.length → bindArgs (PySem.W.fnOf x q ar b s .none kV doc pm an cdv ct) ⟨us, []⟩ = pure (ps.zip us)) : Cal P w K mg base x ar ps k kr m :=
  ⟨f, fd, q, b, s, F, G, g, F.bindsN h⟩
end
/-- the same program -/
structure XEq (P : Program) (w : World) (K : PySem.W.Frag) (mg : Str → Option Value) (base : Heap) (X : Cx) : Prop where
  p : P = X.prog
  w : w = X.w
  k : K = X.K
  m : mg = X.mg
  b : base = X.base
section
variable {X : Cx} {x : Str} {ar : Arguments} {ps : List Str} {k : Nat} {kr : Kd} {f : FM} {p pos : Pos} {a : Expr} {es : List Expr} {ma : EM} {P : Program} {w : World} {K : PySem.W.Frag} {mg : Str → Option Value} {base : Heap}
theorem e_cal {m : AM} (c : Cal P w K mg base x ar ps k kr f) (hr : Room k X.A) (hg : Gl X x) (ha : A2 X (a :: es) m) (hdb : (x == ("__debug__" : Str)) = false := by decide) (he : starEach (a :: es) X.env = (false, eval a X.env) :: starEach es X.env := by rfl) (hpl : (backTo pos (starEach es X.env)).any (·.1) = false := by rfl) (hX : XEq P w K mg base X := by exact ⟨rfl, rfl, rfl, rfl, rfl⟩) :
    E2 X kr (.Call (.Name x p) (a :: es) [] pos) (mCal ps.length f m) := by
  obtain ⟨rfl, rfl, rfl, rfl, rfl⟩ := hX
  obtain ⟨_, fd, q, b, s, F, G, g, bi⟩ := c.ex
  exact e_call G hr hg g F.kp bi ha hdb he hpl
theorem e_calBx (c : Cal P w K mg base x ar ps k kr f) (h1 : ps.length = 1) (hr : Room k X.A) (hg : Gl X x) (ha : E2 X .nw a ma) (hdb : (x == ("__debug__" : Str)) = false := by decide) (he : starEach [a] X.env = (false, eval a X.env) :: starEach [] X.env := by rfl) (hpl : (backTo pos (starEach [] X.env)).any (·.1) = false := by rfl) (hX : XEq P w K mg base X := by exact ⟨rfl, rfl, rfl, rfl, rfl⟩) :
    E2 X kr (.Call (.Name x p) [a] [] pos) (mCallBx f ma) := by
  obtain ⟨rfl, rfl, rfl, rfl, rfl⟩ := hX
  obtain ⟨_, fd, q, b, s, F, G, g, bi⟩ := c.ex
  rw [h1] at G
  exact e_callBx G hr hg g F.kp bi ha hdb he hpl
/-- how names bind: told of the arguments alone -/
def KwOk (x : Str) (ar : Arguments) (ps : List Str) (n : Nat) (ks : List Str) (is : List Nat) : Prop := ∀ (q : Str) (b : List Stmt) (s : Scope) (kV doc pm : Value) (an : Option Addr) (cdv ct : Value) (us ws : List Value), us.length = n → ws.length = ks.length →
  bindArgs (PySem.W.fnOf x q ar b s .none kV doc pm an cdv ct) ⟨us, ks.zip ws⟩ = pure (ps.zip (perm is (us ++ ws)))
theorem e_calKW {ks : List Str} {m : AM} {is : List Nat} {kws : List Keyword} (c : Cal P w K mg base x ar ps k kr f) (hr : Room k X.A) (hg : Gl X x) (hb : KwOk x ar ps 0 ks is) (hkw : K2 X kws m) (hall : (backToKw pos (keywordEach kws X.env)).all (·.1.isSome) = true := by rfl) (hks : (backToKw pos (keywordEach kws X.env)).filterMap (·.1) = ks := by rfl) (hdb : (x == ("__debug__" : Str)) = false := by decide)
    (hpl : ((backTo pos (starEach [] X.env)).any (·.1) || (backToKw pos (keywordEach kws X.env)).any (·.1.isNone)) = false := by rfl) (hX : XEq P w K mg base X := by exact ⟨rfl, rfl, rfl, rfl, rfl⟩) :
    E2 X kr (.Call (.Name x p) [] kws pos) (mCal ps.length f (kPerm 0 ks.length is kNil m)) := by
  obtain ⟨rfl, rfl, rfl, rfl, rfl⟩ := hX
  obtain ⟨_, fd, q, b, s, F, G, g, bi⟩ := c.ex
  exact e_callKW G hr hg g F.kp (kbn F 0 ks is fun kV doc pm an cdv ct us ws l1 l2 => hb q b s kV doc pm an cdv ct us ws l1 l2) hkw hall hks hdb hpl
theorem e_calK {q : Nat} {ks : List Str} {m m' : AM} {is : List Nat} {kws : List Keyword} (c : Cal P w K mg base x ar ps k kr f) (hr : Room k X.A) (hg : Gl X x) (hb : KwOk x ar ps q ks is) (ha : A2 X (a :: es) m') (hkw : K2 X kws m) (hall : (backToKw pos (keywordEach kws X.env)).all (·.1.isSome) = true := by rfl) (hks : (backToKw pos (keywordEach kws X.env)).filterMap (·.1) = ks := by rfl)
    (hdb : (x == ("__debug__" : Str)) = false := by decide) (he : starEach (a :: es) X.env = (false, eval a X.env) :: starEach es X.env := by rfl)
    (hpl : ((backTo pos (starEach (a :: es) X.env)).any (·.1) || (backToKw pos (keywordEach kws X.env)).any (·.1.isNone)) = false := by rfl) (hX : XEq P w K mg base X := by exact ⟨rfl, rfl, rfl, rfl, rfl⟩) :
    E2 X kr (.Call (.Name x p) (a :: es) kws pos) (mCal ps.length f (kPerm q ks.length is m' m)) := by
  obtain ⟨rfl, rfl, rfl, rfl, rfl⟩ := hX
  obtain ⟨_, fd, qq, b, s, F, G, g, bi⟩ := c.ex
  exact e_callK G hr hg g F.kp (kbn F q ks is fun kV doc pm an cdv ct us ws l1 l2 => hb qq b s kV doc pm an cdv ct us ws l1 l2) ha hkw hall hks hdb he hpl
end
/-! ### short methods -/
section
variable {X : Cx} {o a b : Expr} {i : Nat} {m : DM} {ma : EM} {apos cpos p pos : Pos}
theorem x_app (ho : PE X o (tVar i)) (ha : D2 X [a] m) (hbase : attributeBase o "append" X.env (eval o X.env) = eval o X.env := by rfl) (hfew : ((backTo cpos (starEach [a] X.env)).all (fun x => !x.1) && (backToKw cpos (keywordEach [] X.env)).all (fun x => x.1.isSome)
      && decide (([a] : List Expr).length + ([] : List Keyword).length + (if ([] : List Keyword).isEmpty then 0 else 1) < 30)) = true := by rfl)
    (hline : (apos.endLine == cpos.line) = true := by rfl) (hs : starEach [a] X.env = (false, eval a X.env) :: starEach [] X.env := by rfl) (hplain : (backTo cpos (starEach [] X.env)).any (·.1) = false := by rfl) :
    X2 X (.Call (.Attribute o "append" apos) [a] [] cpos) (xMt oApp i m) := x_mt PySem.F.slot_list_append PySem.F.type_list_append mt_append does_app ho ha hbase hfew hline hs hplain
theorem x_ins (ho : PE X o (tVar i)) (ha : D2 X [a, b] m) (hbase : attributeBase o "insert" X.env (eval o X.env) = eval o X.env := by rfl) (hfew : ((backTo cpos (starEach [a, b] X.env)).all (fun x => !x.1) && (backToKw cpos (keywordEach [] X.env)).all (fun x => x.1.isSome)
      && decide (([a, b] : List Expr).length + ([] : List Keyword).length + (if ([] : List Keyword).isEmpty then 0 else 1) < 30)) = true := by rfl)
    (hline : (apos.endLine == cpos.line) = true := by rfl) (hs : starEach [a, b] X.env = (false, eval a X.env) :: starEach [b] X.env := by rfl) (hplain : (backTo cpos (starEach [b] X.env)).any (·.1) = false := by rfl) :
    X2 X (.Call (.Attribute o "insert" apos) [a, b] [] cpos) (xMt oIns i m) := x_mt PySem.F.slot_list_insert PySem.F.type_list_insert mt_insert does_ins ho ha hbase hfew hline hs hplain
theorem x_popAt (ho : PE X o (tVar i)) (ha : D2 X [a] m) (hbase : attributeBase o "pop" X.env (eval o X.env) = eval o X.env := by rfl) (hfew : ((backTo cpos (starEach [a] X.env)).all (fun x => !x.1) && (backToKw cpos (keywordEach [] X.env)).all (fun x => x.1.isSome)
      && decide (([a] : List Expr).length + ([] : List Keyword).length + (if ([] : List Keyword).isEmpty then 0 else 1) < 30)) = true := by rfl)
    (hline : (apos.endLine == cpos.line) = true := by rfl) (hs : starEach [a] X.env = (false, eval a X.env) :: starEach [] X.env := by rfl) (hplain : (backTo cpos (starEach [] X.env)).any (·.1) = false := by rfl) :
    X2 X (.Call (.Attribute o "pop" apos) [a] [] cpos) (xMt oPopAt i m) := x_mt PySem.F.slot_list_pop PySem.F.type_list_pop mt_popAt does_popAt ho ha hbase hfew hline hs hplain
theorem x_pop (ho : PE X o (tVar i)) (hbase : attributeBase o "pop" X.env (eval o X.env) = eval o X.env := by rfl) (hline : (apos.endLine == cpos.line) = true := by rfl) : X2 X (.Call (.Attribute o "pop" apos) [] [] cpos) (xMt oPop i aNil) :=
  x_mt0 PySem.F.slot_list_pop PySem.F.type_list_pop mt_pop does_pop ho hbase hline
theorem x_rev (ho : PE X o (tVar i)) (hbase : attributeBase o "reverse" X.env (eval o X.env) = eval o X.env := by rfl) (hline : (apos.endLine == cpos.line) = true := by rfl) : X2 X (.Call (.Attribute o "reverse" apos) [] [] cpos) (xMt oRev i aNil) :=
  x_mt0 PySem.F.slot_list_reverse PySem.F.type_list_reverse mt_reverse does_rev ho hbase hline
theorem x_clr (ho : PE X o (tVar i)) (hbase : attributeBase o "clear" X.env (eval o X.env) = eval o X.env := by rfl) (hline : (apos.endLine == cpos.line) = true := by rfl) : X2 X (.Call (.Attribute o "clear" apos) [] [] cpos) (xMt oClr i aNil) :=
  x_mt0 PySem.F.slot_list_clear PySem.F.type_list_clear mt_clear does_clr ho hbase hline
end
end TL
set_option Elab.async false
set_option linter.all false
set_option maxRecDepth 100000
set_option maxHeartbeats 4000000
namespace TL
open PySem PySem.Spec PyProof.Rows L2
section
variable {X : Cx} {K : PySem.W.Frag} {tg iter : Expr} {a b c e : Expr} {ma mb mc me : EM} {p pos tpos apos cpos : Pos} {kr : Kd}
theorem p_par3 {k1 k2 k3 : Kd} {i j l : Nat} {x y z : Str} {px py pz pt : Pos} {kt q2 pt2} (hk1 : k1 ≠ .bw) (hk2 : k2 ≠ .bw) (hk3 : k3 ≠ .bw) (hc : X.calm = true) (hN : X.N.Nodup) (hi : X.N[i]? = some x) (hj : X.N[j]? = some y) (hl : X.N[l]? = some z) (hij : i ≠ j) (hil : i ≠ l) (hjl : j ≠ l)
    (hx : X.env.scope.names.lookup x = some .local) (hy : X.env.scope.names.lookup y = some .local) (hz : X.env.scope.names.lookup z = some .local) (ha : E2 X k1 a ma) (hb : E2 X k2 b mb) (hcc : E2 X k3 c mc)
    (hw : swappedStores [.Tuple [.Name x px, .Name y py, .Name z pz] kt pt] (.Tuple [a, b, c] q2 pt2) X.env = pure (some [x, y, z]) := by rfl)
    (hs : swapsWithSole [.Tuple [.Name x px, .Name y py, .Name z pz] kt pt] (.Tuple [a, b, c] q2 pt2) pos.line X.env = pure false := by rfl)
    (s1 : starEach [a, b, c] X.env = (false, eval a X.env) :: starEach [b, c] X.env := by rfl) (s2 : starEach [b, c] X.env = (false, eval b X.env) :: starEach [c] X.env := by rfl) (s3 : starEach [c] X.env = (false, eval c X.env) :: starEach [] X.env := by rfl) :
    P2 X kr (.Assign [.Tuple [.Name x px, .Name y py, .Name z pz] kt pt] (.Tuple [a, b, c] q2 pt2) pos) (sPar3 k1 k2 k3 i j l ma mb mc) := by
  refine ⟨fun Wx tk => ps_weak (L2.ps_par3 hc hN hi hj hl hij hil hjl hx hy hz (pa_cons ha.pe (pa_cons hb.pe (pa_cons hcc.pe pa_nil s3) s2) s1) hw hs) fun Dd σ H ⟨A, τ, n, F, E, eK, R, p, e⟩ => ?_⟩
  refine tE_run eK R p fun d1 n1 v1 H1 F1 p1 a1 r1 => tE_run eK (R.step a1) p1 fun d2 n2 v2 H2 F2 p2 a2 r2 => ?_
  have a12 := a1.trans a2
  refine tE_run eK (R.step a12) p2 fun d3 n3 v3 H3 F3 p3 a3 r3 => ?_
  rw [← eK] at r1 r2 r3
  have a13 := a12.trans a3
  refine ⟨v1, v2, v3, rfl, e.nx _ n3 _ H3 F3 p3 ?_ (a13.fro R.same)⟩
  have R1 : Rel A (τ.set i (some (slOf k1 d1))) n2 (σ.set i (some v1)) H2 F2 := (R.set1 i hk1 a1 r1).step a2
  have R2 : Rel A ((τ.set i (some (slOf k1 d1))).set j (some (slOf k2 d2))) n2 ((σ.set i (some v1)).set j (some v2)) H2 F2 :=
    R1.set (Hs := H1) j hk2 (fun a h => R.h0some (a1.none_back a h)) (fun l s b hl e1 e0 e2 => ((R.set1 i hk1 a1 r1).own e1 e0 e2).2.2) r2
  exact (R2.step a3).set (Hs := H2) l hk3 (fun a h => R.h0some (a12.none_back a h)) (fun l s b hl e1 e0 e2 => (R2.own e1 e0 e2).2.2) r3
/-! ### zip of two lists, of two tuples -/
def zipD : List D → List D → List D
  | x :: xs, y :: ys => rawP x y :: zipD xs ys
  | _, _ => []
theorem zipD_get : ∀ (xs ys : List D) (i : Nat), (zipD xs ys)[i]? = match xs[i]?, ys[i]? with
    | some x, some y => some (rawP x y)
    | _, _ => none
  | [], ys, i => by simp [zipD]
  | x :: xs, [], i => by
    simp [zipD]
  | x :: xs, y :: ys, 0 => by simp [zipD]
  | x :: xs, y :: ys, i + 1 => by
    rw [zipD, List.getElem?_cons_succ, List.getElem?_cons_succ, List.getElem?_cons_succ, zipD_get xs ys i]
theorem zipD_len : ∀ (xs ys : List D), (zipD xs ys).length = min xs.length ys.length
  | [], ys => by simp [zipD]
  | x :: xs, [] => by simp [zipD]
  | x :: xs, y :: ys => by simp [zipD, zipD_len xs ys]
def dZip (x y : D) (P : List D → Prop) : Prop := (∃ xs ys, x = .list xs ∧ y = .list ys ∧ P (zipD xs ys)) ∨ ∃ xs ys, x = .tuple xs ∧ y = .tuple ys ∧ P (zipD xs ys)
def iZp (m m' : EM) : IM := fun τ n Q => m τ n fun x n1 => m' τ n1 fun y n2 => dZip x y fun zs => Q zs n2
theorem itz_yf {F : Hp} {a b : Addr} {vs ws : List V} {xs ys : List D} (h : SqL K F a vs) (h' : SqL K F b ws) (hd : DpAll K F vs xs) (hd' : DpAll K F ws ys) : YF K (Itz K a b) (zipD xs ys) F := fun i H F2 s1 s2 => by
  have hH : SqL K H a vs := s2.seq (s1.seq h)
  have hH' : SqL K H b ws := s2.seq (s1.seq h')
  refine ⟨fun d e => ?_, fun hl => ⟨vs, ws, hH, hH', ?_⟩⟩
  · rw [zipD_get] at e
    cases q : xs[i]? with
    | none => rw [q] at e; cases e
    | some x =>
      cases q' : ys[i]? with
      | none => rw [q, q'] at e; cases e
      | some y =>
        rw [q, q'] at e
        cases e
        obtain ⟨v, e1, e2⟩ := dpAll_get hd q
        obtain ⟨u, e3, e4⟩ := dpAll_get hd' q'
        refine ⟨⟨vs, ws, v, u, hH, hH', e1, e3⟩, ?_⟩
        rintro x' H2 ⟨T, w1, w2, rfl, hT, rfl, f1, f2⟩
        have g1 := f1 vs hH
        have g2 := f2 ws hH'
        rw [e1] at g1
        rw [e3] at g2
        cases g1
        cases g2
        exact pair_yield s2 hT (dp_mono s1 x _ e2) (dp_mono s1 y _ e4)
  · rw [zipD_len] at hl
    rw [dpAll_len hd, dpAll_len hd']
    omega
theorem itzT_yf {F : Hp} {a b : Addr} {vs ws : List V} {xs ys : List D} (h : SqT K F a vs) (h' : SqT K F b ws) (hd : DpAll K F vs xs) (hd' : DpAll K F ws ys) : YF K (RZ.ItzT K a b) (zipD xs ys) F := fun i H F2 s1 s2 => by
  have hH : SqT K H a vs := seqT s2 (seqT s1 h)
  have hH' : SqT K H b ws := seqT s2 (seqT s1 h')
  refine ⟨fun d e => ?_, fun hl => ⟨vs, ws, hH, hH', ?_⟩⟩
  · rw [zipD_get] at e
    cases q : xs[i]? with
    | none => rw [q] at e; cases e
    | some x =>
      cases q' : ys[i]? with
      | none => rw [q, q'] at e; cases e
      | some y =>
        rw [q, q'] at e
        cases e
        obtain ⟨v, e1, e2⟩ := dpAll_get hd q
        obtain ⟨u, e3, e4⟩ := dpAll_get hd' q'
        refine ⟨⟨vs, ws, v, u, hH, hH', e1, e3⟩, ?_⟩
        rintro x' H2 ⟨T, w1, w2, rfl, hT, rfl, f1, f2⟩
        have g1 := f1 vs hH
        have g2 := f2 ws hH'
        rw [e1] at g1
        rw [e3] at g2
        cases g1
        cases g2
        exact pair_yield s2 hT (dp_mono s1 x _ e2) (dp_mono s1 y _ e4)
  · rw [zipD_len] at hl
    rw [dpAll_len hd, dpAll_len hd']
    omega
theorem i_zip {elts : List Expr} {kk : Nat} (hg : Gl X "zip") (hm : X.mg "zip" = none) (ha : E2 X .fz a ma) (hb : E2 X .fz b mb)
    (hs : starEach [a, b] X.env = (false, eval a X.env) :: starEach [b] X.env := by rfl) (hs' : starEach [b] X.env = (false, eval b X.env) :: starEach [] X.env := by rfl) (hpl : (backTo pos (starEach [b] X.env)).any (·.1) = false := by rfl) :
    I2 X (.Tuple elts kk tpos) (.Call (.Name "zip" p) [a, b] [] pos) (iZp ma mb) := by
  refine ⟨pi_weak (RZ.pi_zipA hg hm (pa_cons ha.pe (pa_cons hb.pe pa_nil hs') hs) hs hpl) fun σ H R ⟨A, τ, n, F, P, eK, Rl, hm, hq⟩ => tE_run eK Rl hm fun x n1 v1 H1 F1 p1 a1 r1 => tE_run eK (Rl.step a1) p1 ?_⟩
  rintro y n2 v2 H2 F2 hz a2 r2
  have r1' := dp_mono (a2.fro a1.sub) x v1 r1
  have a12 := a1.trans a2
  rcases hz with ⟨xs, ys, rfl, rfl, q⟩ | ⟨xs, ys, rfl, rfl, q⟩
  · cases r1' with
    | lst h1 d1 =>
      cases r2 with
      | lst h2 d2 => exact ⟨_, _, _, _, rfl, .inl ⟨a2.sub.seq h1, a2.sub.seq h2, hq _ n2 _ H2 F2 q a12 (itz_yf h1 h2 d1 d2)⟩⟩
  · cases r1' with
    | tup h1 d1 =>
      cases r2 with
      | tup h2 d2 => exact ⟨_, _, _, _, rfl, .inr ⟨seqT a2.sub h1.sq, seqT a2.sub h2.sq, hq _ n2 _ H2 F2 q a12 (itzT_yf h1.sq h2.sq d1 d2)⟩⟩
end
end TL
set_option Elab.async false
set_option linter.all false
set_option maxRecDepth 100000
set_option maxHeartbeats 4000000
namespace TL
open PySem PySem.Spec PyProof.Rows L2
/-! ### defs that ask for repr: nothing may be under way -/
structure GOk (P : Program) (w : World) (K : PySem.W.Frag) (mg : Str → Option Value) (base : Heap) (k : Nat) (f : Addr) (fd : FuncData) (ps : List Str) (sp : Sp) : Prop where
  len : ∀ vs H Q E, sp vs H Q E → vs.length = ps.length
  run : ∀ (A : Around) (outer : List Env) (t : Shared) (H : Hp) (ar : Args) (us : List Value) (vs : List V) (Q : VK) (E : XK),
    A.guards = some [] → Room k A → Env0 P w K mg base A outer t H →
    BindsTo t fd ar (ps.zip us) → Vals vs us → sp vs H Q E →
    codeAny (model P w) A (.call (.ref f) ar) (CR CX0 outer P w H t Q E) t
section
variable {P : Program} {w : World} {K : PySem.W.Frag} {mg : Str → Option Value} {base : Heap} {f : Addr} {fd : FuncData} {ps N : List Str} {k : Nat} {sp : Sp}
theorem GOk.weak {sp' : Sp} (G : GOk P w K mg base k f fd ps sp) (h : ∀ vs H Q E, sp' vs H Q E → sp vs H Q E) : GOk P w K mg base k f fd ps sp' :=
  ⟨fun _ _ _ _ z => G.len _ _ _ _ (h _ _ _ _ z), fun A o t H ar us vs Q E g r e b v z => G.run A o t H ar us vs Q E g r e b v (h _ _ _ _ z)⟩
theorem gok_def {x qual : Str} {params : Arguments} {body : List Stmt} {scope : Scope} (F : FunD K x qual params body scope [] [] f fd) (S : FnScope N ps scope) (len : ∀ vs H Q E, sp vs H Q E → vs.length = ps.length)
    (hbody : ∀ (cdv : Value) (A : Around) (outer : List Env) (t : Shared) (H : Hp) (vs : List V) (Q : VK) (E : XK),
      A.guards = some [] → Room k (A.deeper (envOfC qual scope t.heap.objs.size f cdv)) → sp vs H Q E →
      ∃ m, PSs (cxOf CX0 P w K mg base N qual scope f cdv A outer t H E) body m ∧
        m { nx := fun _ H' => Q .non H', rt := Q } (L2.start N vs) H) : GOk P w K mg base (k + 1) f fd ps sp := by
  obtain ⟨oc, od, dV, kV, doc, pm, an, cdv, ct, osl, rfl, lk, hcd, _, _⟩ := F.ex
  refine ⟨len, fun A outer t H ar us vs Q E hgd hr e0 hb rv hsp => ?_⟩
  have hl := len _ _ _ _ hsp
  have KX : K.In t.heap := e0.mod.kin.keeps (fun c o z => (e0.bs c o z).1)
  have lim : t.heap.NoLimit := e0.mod.nolimit.keeps (fun c o z => (e0.bs c o z).1)
  have cells : ∀ y ∈ ps.zip us, scope.names.lookup y.1 = some .local ∨
      (scope.names.lookup y.1 = some .cell ∧
        ((cellsFrom (t.heap.objs.size + 1) scope.names []).lookup y.1).isSome = true) := by
    rintro ⟨n, v⟩ hy
    rcases S.par n (List.of_mem_zip hy).1 with q | q
    · exact Or.inl q
    · exact Or.inr ⟨q, PySem.W.cellsFrom_some _ _ _ (Or.inl q)⟩
  refine codeAny_call_function hr.depth (KX _ _ lk) rfl S.co S.gen rfl
    (PySem.W.codeRec_of KX hcd) (hb _ _ _ _ ?_)
  refine wpAny_newFunctionEnv_cells S.kind cells (fun env he t1 z => ?_)
  subst he
  refine ⟨lim.keeps z.toInCall.keep, codeAny_func ?_⟩
  obtain ⟨m, hm, hq⟩ := hbody cdv A outer t H vs Q E hgd (hr.deeper _) hsp
  have I := inv_start (CX := CX0) (P := P) (w := w) (K := K) (mg := mg) (base := base) (E := E) S hr.hd e0 hl rv z
  refine wpAny_mono (hm.run [] t1 (L2.start N vs) H _ I hq) (fun fl t' hs => ?_) (fun _ _ z => z)
  have done : ∀ {σ' : L2.St} {H' : Hp} {v : V} {u : Value},
      Inv (cxOf CX0 P w K mg base N qual scope f cdv A outer t H E) [] σ' H' t' →
      RelV v u → Q v H' → CE outer P w H t Q u t' :=
    fun {σ' H' v u} J r q => ⟨v, H', J.os, J.bare, J.base, J.hok, r, q⟩
  cases fl with
  | ret u =>
    obtain ⟨v, σ', H', J, r, q⟩ := hs
    exact done J r q
  | next =>
    obtain ⟨σ', H', J, q⟩ := hs
    exact done (v := V.non) (u := Value.none) J rfl q
  | brk => exact hs.elim fun _ z => z.elim fun _ z => z.2.elim
  | cont => exact hs.elim fun _ z => z.elim fun _ z => z.2.elim
/-- as fn_ok -/
theorem gn_ok {x qual : Str} {params : Arguments} {body : List Stmt} {scope : Scope} {kr : Kd} {b : SM} {mN : Nat}
    (F : FunD K x qual params body scope [] [] f fd) (S : FnScope N ps scope) (hN : N.length = mN) (hkr : kr = .fz)
    (hbody : ∀ (cdv : Value) (A : Around) (outer : List Env) (t : Shared) (H : Hp) (E : XK), A.guards = some [] → Room k (A.deeper (envOfC qual scope t.heap.objs.size f cdv)) →
      S2 (cxOf CX0 P w K mg base N qual scope f cdv A outer t H E).nox kr body b) :
    GOk P w K mg base (k + 1) f fd ps (Pr K kr ps.length (bodyM mN fun _ => b)) := by
  subst hkr
  refine gok_def F S (fun vs H Q E h => Pr.len vs H Q E h) fun cdv A outer t H vs Q E hgd hr h => ⟨_, ((hbody cdv A outer t H E hgd hr).ps _ takesF).nox, ?_⟩
  obtain ⟨F0, as, n, bx, P', PX, hl, sm, hb, hp, hm, hq, hx⟩ := h
  have R := start_rel (N := N) sm hb hp
  rw [hN] at R
  exact ⟨_, _, n, F0, _, rfl, R, hm, ⟨fun τ n' σ H' F' p' R' _ => hq .none n' .non H' F' p' R'.adv .non, fun _ _ _ _ _ z => z.elim, fun _ _ _ _ _ z => z.elim, fun d n' v H' F' p' a' r' => hq d n' v H' F' p' a' r', fun _ _ _ _ _ _ _ _ z => z.elim⟩⟩
end
/-! ### the law's own call, nothing under way -/
section
variable {P : Program} {w : World} {K : PySem.W.Frag} {mg mb : Str → Option Value} {k : Nat} {fa a : Addr} {fd : FuncData} {x : Str} {sp : Sp} {t : Shared} {vs : List Value} {ns : List Int}
theorem law_callG (KX : K.In t.heap) (hns : t.heap.Ns mainGlobals mg) (hb : t.heap.Ns builtinsNs mb) (hbb : ∀ x : Str, x ≠ "__name__" → mb x = bootBuiltins x)
    (hlim : t.heap.NoLimit) (hgen : t.gens = #[]) (ha : t.heap.get? a = some { cls := .type "list", data := .seq vs.toArray }) (hi : IntsAre vs ns)
    (hl : ns.length ≤ sizeLine) (hr : Room k callerA)
    (G : ∀ base : Heap, K.In base → base.Ns mainGlobals mg → GOk P w K mg base k fa fd [x] sp)
    (hbind : ∀ (s : Shared) (u : Value), BindsTo s fd ⟨[u], []⟩ [(x, u)])
    (hsp : ∀ H : Hp, Only H → SqL K H a (ns.map V.int) → sp [.ref a] H (fun v _ => v = .bl true) fun _ _ _ => False) :
    codeAny (model P w) callerA (.call (.ref fa) ⟨[.ref a], []⟩)
      (fun r t' => r = .ok (.ret (.bool true)) ∧ OldK t.heap t'.heap ∧ t'.os = t.os ∧ AllBare t'.gens) t := by
  have rv := vals_ints hi
  have run1 : ∀ H : Hp, Only H → SqL K H a (ns.map V.int) → HOk P w H t.heap →
      (∀ c, H c ≠ none → c = a) → (H a ≠ none → K.lookup a = none) →
      codeAny (model P w) callerA (.call (.ref fa) ⟨[.ref a], []⟩)
        (fun r t' => r = .ok (.ret (.bool true)) ∧ OldK t.heap t'.heap ∧ t'.os = t.os ∧ AllBare t'.gens) t := by
    intro H hO hS hok only hK
    have there : ∀ {c : Addr} {o : Obj}, t.heap.get? c = some o → H c = none → (hidT t.heap H).get? c = some o := fun z n => hidT_get z n
    have dicts : ∀ {c : Addr} {o : Obj} {es : Array DictEntry} {ep : Nat}, t.heap.get? c = some o → o.data = .dict es ep → H c = none := by
      intro c o es ep z d
      refine Classical.byContradiction fun q => ?_
      have ec := only c q
      rw [ec, ha] at z
      cases z
      exact absurd d (fun y => by cases y)
    have names : ∀ {c : Addr} {m : Str → Option Value}, t.heap.Ns c m → (hidT t.heap H).Ns c m := by
      rintro c m ⟨o, es, ep, z, d, r⟩
      exact ⟨o, es, ep, there z (dicts z d), d, r⟩
    have kin : K.In (hidT t.heap H) := by
      intro c o z
      refine there (KX c o z) (Classical.byContradiction fun q => ?_)
      have ec := only c q
      rw [ec] at z q
      rw [hK q] at z
      cases z
    obtain ⟨mc, l1, l2⟩ := hlim
    have md : Mod K mg (hidT t.heap H) := ⟨kin, names hns, ⟨mb, names hb, hbb⟩, ⟨mc, names l1, l2⟩⟩
    have e0 : Env0 P w K mg (hidT t.heap H) callerA [] t H :=
      ⟨rfl, md, fun c o z => of_hidT z, Nat.le_of_eq (hidT_size _ _), trivial,
        fun c z => (List.not_mem_nil (show c ∈ ([] : List Addr) from z)).elim, hok, .of_eq hgen⟩
    refine codeAny_mono ((G _ kin (names hns)).run callerA [] t H ⟨[.ref a], []⟩ [.ref a] [.ref a] _ _
      rfl hr e0 (hbind t (.ref a)) (.cons rfl .nil) (hsp H hO hS)) (fun r t' h => ?_)
    match r, h with
    | .error e, h => exact (show False from h).elim
    | .ok (.ret u), h =>
      obtain ⟨v, H', os, bare, un, hok', r', q⟩ := h
      have q' : v = V.bl true := q
      subst q'
      have ru : u = Value.bool true := r'
      subst ru
      refine ⟨rfl, OldK.of_keep (fun c o z => ?_), os, bare⟩
      match hc : H c with
      | none => exact un.keep c o z hc (fun y => (List.not_mem_nil (show c ∈ ([] : List Addr) from y)).elim) (by simp)
      | some y =>
        rcases hO c with n | ⟨ob, xs, n⟩
        · rw [hc] at n; cases n
        · obtain ⟨g1, _⟩ := hok c _ n
          obtain ⟨g2, _⟩ := hok' c _ (un.frzs c ob _ n)
          rw [z] at g1
          cases g1
          exact g2
  match hk : K.lookup a with
  | some o =>
    have z := KX a o hk
    rw [ha] at z
    cases z
    exact run1 (fun _ => none) (fun _ => Or.inl rfl)
      (Or.inr ⟨_, vs.toArray, _, hk, rfl, rfl, rfl, by rw [List.size_toArray, hi.length]; exact hl, by simpa using rv⟩)
      (fun c u y => by cases (show (none : Option HO) = some u from y)) (fun c y => (y rfl).elim) (fun y => (y rfl).elim)
  | none =>
    have self : (upd (fun _ => none) a (.frz { cls := .type "list", data := .seq vs.toArray } (.lst (ns.map V.int))) : Hp) a = some (.frz { cls := .type "list", data := .seq vs.toArray } (.lst (ns.map V.int))) := upd_same
    have other : ∀ c, c ≠ a → (upd (fun _ => none) a (.frz { cls := .type "list", data := .seq vs.toArray } (.lst (ns.map V.int))) : Hp) c = none := fun c n => upd_ne n
    refine run1 (upd (fun _ => none) a (.frz { cls := .type "list", data := .seq vs.toArray } (.lst (ns.map V.int)))) (fun c => ?_)
      (Or.inl (Or.inr ⟨{ cls := .type "list", data := .seq vs.toArray }, self⟩)) (fun c u y => ?_) (fun c y => ?_) (fun _ => hk)
    · by_cases n : c = a
      · subst n
        exact Or.inr ⟨_, _, self⟩
      · exact Or.inl (other c n)
    · by_cases n : c = a
      · subst n
        rw [self] at y
        cases y
        exact ⟨ha, by rw [List.length_map]; exact hl, vs, _, rv, ha⟩
      · rw [other c n] at y
        cases y
    · exact Classical.byContradiction fun n => y (other c n)
end
theorem walk_G {l : PySem.W.OpenLaw} {n k : Nat} {q : Program} {loose : List Str} {XP : (Str → Option Value) → Heap → Prop} {YP : World → Heap → Prop} {d : DefRec} {x : Str}
    (hn : l.most = some n) (hn2 : n ≤ sizeLine) (hdf : d.params.defaults = []) (hr : Room k callerA)
    (F : ∀ (w : World) (mg : Str → Option Value) (fa : Addr) (h : Heap), YP w h → h.Ns mainGlobals mg → mg d.name = some (.ref fa) →
      ∃ (K : PySem.W.Frag) (fd : FuncData) (sp : Sp), K.In h ∧
        (∀ (s : Shared) (u : Value), BindsTo s fd ⟨[u], []⟩ [(x, u)]) ∧
        (∀ (H : Hp) (a : Addr) (ns : List Int), ns.length ≤ n → Only H → SqL K H a (ns.map V.int) →
          sp [.ref a] H (fun v _ => v = .bl true) fun _ _ _ => False) ∧
        ∀ base : Heap, K.In base → base.Ns mainGlobals mg → GOk l.prog w K mg base k fa fd [x] sp) :
    PySem.W.WalkO q loose XP YP l.row.toRowW d [] (fun f vs => PySem.call f vs) := by
  refine Att.attach_call hn hdf (fun w t₀ t₁ mg mb fa o pm cd doc a vs ns G Y ho hd hcd hmg hobj hints hlen hg => ?_)
  obtain ⟨K, fd, sp, KX, hb, hsp, hF⟩ := F w mg fa _ Y G.T.g hmg
  exact law_callG KX G.T.g G.T.b G.T.builtins G.T.nolimit hg hobj hints
    (Nat.le_trans hlen hn2) hr hF hb (fun H hO hS => hsp H a ns hlen hO hS)
/-! ### calls of such defs; repr -/
structure GCal (P : Program) (w : World) (K : PySem.W.Frag) (mg : Str → Option Value) (base : Heap) (x : Str) (ar : Arguments) (ps : List Str) (k : Nat) (kr : Kd) (m : FM) : Prop where
  ex : ∃ (f : Addr) (fd : FuncData) (qual : Str) (body : List Stmt) (scope : Scope), FunD K x qual ar body scope [] [] f fd ∧ GOk P w K mg base k f fd ps (Pr K kr ps.length m) ∧ mg x = some (.ref f) ∧ Binds K fd ps []
theorem GCal.mk2 {P : Program} {w : World} {K : PySem.W.Frag} {mg : Str → Option Value} {base : Heap} {x : Str} {ar : Arguments} {ps : List Str} {k : Nat} {kr : Kd} {m : FM} {f : Addr} {fd : FuncData} {q : Str} {b : List Stmt} {s : Scope} (F : FunD K x q ar b s [] [] f fd)
    (G : GOk P w K mg base k f fd ps (Pr K kr ps.length m)) (g : mg x = some (.ref f))
    (h : ∀ (kV doc pm : Value) (an : Option Addr) (cdv ct : Value) (us : List Value), us.length = ps.length → bindArgs (PySem.W.fnOf x q ar b s .none kV doc pm an cdv ct) ⟨us, []⟩ = pure (ps.zip us)) : GCal P w K mg base x ar ps k kr m :=
  ⟨f, fd, q, b, s, F, G, g, F.bindsN h⟩
section
variable {X : Cx} {x : Str} {p pos : Pos} {a : Expr} {ma : EM}
theorem run_G {k : Nat} {f : Addr} {fd : FuncData} {ps : List Str} {sp : Sp} {pins : List (Addr × Obj)} {σ : L2.St} {H : Hp} {t : Shared} {Q : VK} {us : List Value} {vs : List V} (G : GOk X.prog X.w X.K X.mg X.base k f fd ps sp) (hgd : X.A.guards = some []) (hr : Room k X.A) (hb : Binds X.K fd ps [])
    (I : Inv X pins σ H t) (r : Vals vs us) (h : sp vs H Q E0) : wpAny (model X.prog X.w) X.A (call (.ref f) us) (EP X pins σ Q) X.xe t := by
  have hl : us.length = ps.length := by rw [← r.length]; exact G.len _ _ _ _ h
  have bt : BindsTo t fd ⟨us, []⟩ (ps.zip us) := by
    have := hb t us I.kIn (by simpa using hl)
    simpa using this
  refine wpAny_call (codeAny_mono (G.run X.A X.stack t H ⟨us, []⟩ us vs Q E0 hgd hr I.env0 bt r h) (fun r t' hq => ?_))
  match r, hq with
  | .error e, hq => exact pass0 pins σ H t e t' I hq
  | .ok (.ret u), hq => exact I.after hq
theorem pe_callBxG {k : Nat} {f : Addr} {fd : FuncData} {ps : List Str} {sp : Sp} {ta : TE} (G : GOk X.prog X.w X.K X.mg X.base k f fd ps sp) (hgd : X.A.guards = some []) (hr : Room k X.A) (hg : Gl X x) (hm : X.mg x = some (.ref f)) (hk : PySem.W.keepIn X.K (.ref f) = true) (hb : Binds X.K fd ps [])
    (ha : PE X a ta) (hdb : (x == ("__debug__" : Str)) = false := by decide) (he : starEach [a] X.env = (false, eval a X.env) :: starEach [] X.env := by rfl) (hpl : (backTo pos (starEach [] X.env)).any (·.1) = false := by rfl) :
    PE X (.Call (.Name x p) [a] [] pos) (tCallBx sp E0 ta) := by
  refine ⟨fun pins s σ H Q I h => ?_⟩
  refine wpAny_Call_Name_kw (ld_glob I hg hm ?_ hdb)
  refine PySem.W.callWith_K (h₀ := X.base) I.ok.mod.kin hk (thn ((pa_cons ha pa_nil he).run pos pins s σ H (fun vs H1 => match vs with
    | [v] => ∃ b n, ∃ x y z : Int, v = .ref b ∧ H1 b = some (.lst [.int x, .int y, .int z]) ∧ 0 ≤ x ∧ (0 ≤ y ∧ y < 2 ^ 62) ∧ 0 ≤ z ∧ z ≤ (n : Nat) ∧ sp [v] (upd H1 b (.ext (boxP b n))) Q E0
    | _ => False) I h) fun us s1 ⟨vs, H1, I1, r, q⟩ => ⟨I1.kIn, ?_⟩) he hpl
  have hv : ∃ v, vs = [v] := by
    rcases vs with _ | ⟨v, _ | ⟨v2, r2⟩⟩
    · exact False.elim q
    · exact ⟨v, rfl⟩
    · exact False.elim q
  obtain ⟨v, rfl⟩ := hv
  obtain ⟨b, n, x, y, z, ev, h1, h2, h3, h4, h5, q⟩ := q
  exact run_G G hgd hr hb (box_close I1 h1 h2 h3 h4 h5) r q
theorem e_calBxG {P : Program} {w : World} {K : PySem.W.Frag} {mg : Str → Option Value} {base : Heap} {ar : Arguments} {ps : List Str} {k : Nat} {kr : Kd} {f : FM} (c : GCal P w K mg base x ar ps k kr f) (h1 : ps.length = 1) {A0 : Around} (hgd : A0.guards = some []) (hr : Room k X.A) (hg : Gl X x) (ha : E2 X .nw a ma) (hA : X.A.guards = A0.guards := by rfl)
    (hdb : (x == ("__debug__" : Str)) = false := by decide) (he : starEach [a] X.env = (false, eval a X.env) :: starEach [] X.env := by rfl) (hpl : (backTo pos (starEach [] X.env)).any (·.1) = false := by rfl)
    (hX : XEq P w K mg base X := by exact ⟨rfl, rfl, rfl, rfl, rfl⟩) :
    E2 X kr (.Call (.Name x p) [a] [] pos) (mCallBx f ma) := by
  obtain ⟨rfl, rfl, rfl, rfl, rfl⟩ := hX
  obtain ⟨fa, fd, q, b, s, F, G, g, bi⟩ := c.ex
  rw [h1] at G
  refine ⟨pe_weak (pe_callBxG G (hA.trans hgd) hr hg g F.kp bi ha.pe hdb he hpl) fun σ H Q ⟨A, τ, n, F, P, eK, R, hm, hq⟩ => tE_run eK R hm ?_⟩
  rintro d n1 v H1 F1 ⟨x, y, rfl, h1, h2, p⟩ a1 ⟨b, vs, xs, ex, rfl, hb0, hbF, hbl, hd⟩
  cases ex
  have ev : vs = [V.int x, V.int y, V.int 0] := dpAll_ints (ns := [x, y, 0]) (vs := vs) hd
  subst ev
  have R1 := R.step a1
  have sF : Same F1 (upd H1 b (.ext (boxP b 0))) := fun c o e => by rw [upd_ne (ne_of_none e hbF)]; exact R1.same c o e
  refine ⟨b, 0, x, y, 0, rfl, hbl, h1, h2, Int.le_refl 0, Int.le_refl 0, F1, [.box], 0, some b, _, _, rfl, sF, fun c hc => ?_, .cons ⟨b, rfl, rfl⟩ .nil, p, fun d n' v H' F' p' a' r' => ?_, fun _ _ _ _ _ _ z => False.elim z⟩
  · cases hc
    exact ⟨upd_same, hbF⟩
  · have nb : ∀ c o, H c = some o → c ≠ b := fun c o e z => by subst z; rw [e] at hb0; cases hb0
    refine hq d n1 v H' F' p' ⟨fun c o e hc => ?_, fun c hc => ?_, a'.sub, fun c hc => ?_⟩ (r'.h0 fun c e => ?_)
    · exact a'.keep c o (by rw [upd_ne (nb c o e)]; exact a1.keep c o e hc) fun z => nb c o e (Option.some.inj z).symm
    · obtain ⟨o, e⟩ := Option.ne_none_iff_exists'.mp hc
      have : upd H1 b (.ext (boxP b 0)) c ≠ none := by
        rw [upd_ne (nb c o e)]
        by_cases z : A.bx = some c
        · rw [a1.box c z]; exact fun z => nomatch z
        · rw [a1.keep c o e z]; exact fun z => nomatch z
      rw [a'.old c this, a1.old c hc]
    · have e := R.box c hc
      have e1 := a1.box c hc
      exact a'.keep c _ (by rw [upd_ne (nb c _ e)]; exact e1) (fun z => nb c _ e (Option.some.inj z).symm)
    · have : c ≠ b := fun z => by subst z; rw [upd_same] at e; cases e
      rw [upd_ne this] at e
      exact a1.none_back c e
def isSeq : D → Bool
  | .list _ => true
  | .tuple _ => true
  | _ => false
/-- repr of a list or a tuple -/
def dRepr : Op1 := fun x P => isSeq x = true ∧ x.canLay0 = true ∧ x.showable = true ∧ x.depth ≤ 60 ∧ x.shown.length ≤ sizeLine ∧ P (.str x.shown)
abbrev rReprD (K : PySem.W.Frag) : RN := fun xs H Q => ∃ x d, xs = [x] ∧ L2.Dp K H x d ∧ isSeq d = true ∧ d.canLay0 = true ∧ d.showable = true ∧ d.depth ≤ 60 ∧ d.shown.length ≤ sizeLine ∧ Q (.str d.shown) H
theorem call_reprD (hgd : X.A.guards = some []) (hu : X.A.units + 64 < cLine) : CallR X (.builtin "repr") (rReprD X.K) := by
  intro pins s σ H xs us Q I r h
  obtain ⟨x, d, rfl, hd, h0, h1, h2, h3, h4, q⟩ := h
  obtain ⟨v, eu, ru⟩ := vals1 r
  subst eu
  obtain ⟨as, rd⟩ := L2.Dp.reads I d x v hd ru
  have hnd := PyData.hasDict_of_canLay d h1
  have hx : ∃ b, x = .ref b := by
    cases hd <;> first | exact ⟨_, rfl⟩ | cases h0
  obtain ⟨b, rfl⟩ := hx
  cases ru
  exact repr_of_reads' rd h2 (fun z => by rw [hnd] at z; cases z) hgd (by omega) (fun _ _ z => z)
    (fun h' u tk keep => ⟨.str d.shown, H, I.kept (t' := tk) keep, ⟨u, rfl⟩, q⟩) h4
theorem e_repr {k : Nat} {A0 : Around} (hgd : A0.guards = some []) (hr : Room k X.A) (hg : Gl X "repr") (hm : X.mg "repr" = none) (ha : E2 X .bw a ma) (hA : X.A.guards = A0.guards := by rfl) (he : starEach [a] X.env = (false, eval a X.env) :: starEach [] X.env := by rfl) (hpl : (backTo pos (starEach [] X.env)).any (·.1) = false := by rfl) :
    E2 X .fz (.Call (.Name "repr" p) [a] [] pos) (m1 dRepr ma) := by
  refine e_f1 (call_reprD (hA.trans hgd) hr.units) ?_ hg hm PyProof.Rows.boot_repr ha (by decide) (by decide) he hpl
  rintro H F vx y P Q s rx ⟨h0, h1, h2, h3, h4, p⟩ hq
  exact ⟨vx, y, rfl, bw_l2 s h1 rx, h0, h1, h2, h3, h4, hq _ _ H F p (PAdv.refl s) (.str _)⟩
end
theorem law_fnG {P : Program} {w : World} {K : PySem.W.Frag} {mg : Str → Option Value} {base : Heap} {k : Nat} {f : Addr} {fd : FuncData} {ps : List Str} {m : FM} (G : GOk P w K mg base k f fd ps (Pr K .fz 1 m))
    (h : ∀ ns : List Int, ns.length ≤ 63 → m [.d (.list (ns.map .int))] 0 (fun d _ => d = .bool true) fun _ _ => False) : GOk P w K mg base k f fd ps (spLaw K) := by
  refine G.weak fun vs H Q E ⟨a, ns, ev, hS, hl, hq⟩ => ?_
  subst ev
  refine ⟨H, [.d (.list (ns.map .int))], 0, none, fun d _ => d = .bool true, fun _ _ => False, rfl, Same.refl H, (fun _ z => nomatch z), .cons (.lst hS (ints_dpAll ns)) .nil, h ns hl, fun d n' v H' F' e _ r => ?_, fun _ _ _ _ _ _ z => False.elim z⟩
  subst e
  cases r
  exact hq H'
end TL
set_option Elab.async false
set_option linter.all false
set_option maxRecDepth 100000
set_option maxHeartbeats 4000000
namespace TL
open PySem PySem.Spec PyProof.Rows L2
/-! ### dicts made by a comprehension, keys ints or texts -/
def keyD : Key → D
  | .inl i => .int i
  | .inr x => .str x
def putD {κ : Type} [DecidableEq κ] (kvs : List (κ × D)) (k : κ) (d : D) : List (κ × D) :=
  if (kvs.any fun kv => decide (kv.1 = k)) = true then kvs.map (fun kv => if kv.1 = k then (kv.1, d) else kv) else kvs ++ [(k, d)]
def valD {κ : Type} [DecidableEq κ] (kvs : List (κ × D)) (k : κ) : Option D := (kvs.find? fun kv => decide (kv.1 = k)).map (·.2)
section
variable {κ : Type} [DecidableEq κ] {K : PySem.W.Frag} {F : Hp}
theorem KD.any {ws : List (κ × V)} {kvs : List (κ × D)} (h : KD K F ws kvs) (k : κ) : (ws.any fun kv => decide (kv.1 = k)) = (kvs.any fun kv => decide (kv.1 = k)) := by
  unfold KD at h
  induction h with
  | nil => rfl
  | cons a _ ih => simp [List.any_cons, ih, a.1]
theorem KD.len {ws : List (κ × V)} {kvs : List (κ × D)} (h : KD K F ws kvs) : ws.length = kvs.length := by
  unfold KD at h
  exact h.length
theorem KD.put {ws : List (κ × V)} {kvs : List (κ × D)} (h : KD K F ws kvs) (k : κ) {v : V} {d : D} (r : Dp K F v d) : KD K F (putK ws k v) (putD kvs k d) := by
  unfold putK putD
  rw [h.any k]
  split
  · rename_i q0
    clear q0
    unfold KD at h ⊢
    induction h with
    | nil => exact .nil
    | cons a _ ih =>
      rename_i p q l1 l2 hh
      refine .cons ?_ ih
      by_cases e : p.1 = k
      · have e' : q.1 = k := by rw [← a.1]; exact e
        simp [e, e', r]
      · have e' : ¬ q.1 = k := by rw [← a.1]; exact e
        simp [e, e']
        exact a
  · rename_i q0
    clear q0
    unfold KD at h ⊢
    induction h with
    | nil => exact .cons ⟨rfl, r⟩ .nil
    | cons a _ ih => exact .cons a ih
theorem KD.val {ws : List (κ × V)} {kvs : List (κ × D)} (h : KD K F ws kvs) (k : κ) {d : D} (e : valD kvs k = some d) : ∃ v, valV ws k = some v ∧ Dp K F v d := by
  unfold KD at h
  unfold valD at e
  unfold valV
  induction h with
  | nil => simp at e
  | cons a _ ih =>
    rename_i p q _ _ _
    by_cases z : p.1 = k
    · have z' : q.1 = k := by rw [← a.1]; exact z
      simp [z, z'] at e ⊢
      exact e ▸ a.2
    · have z' : ¬ q.1 = k := by rw [← a.1]; exact z
      simp [z, z'] at e ⊢
      simpa using ih (by simpa using e)
end
def dcD (g : GM) (c : CM) (mk mv : EM) (τw : Ev) : List D → List (Key × D) → Nat → (List (Key × D) → Nat → Prop) → Prop
  | [], acc, n, Q => Q acc n
  | x :: r, acc, n, Q => g x τw n fun τ1 n1 => c τ1 n1 fun b n2 => if b = true then mk τ1 n2 fun y n3 => mv τ1 n3 fun z n4 => ∃ k, y = keyD k ∧ acc.length < sizeLine ∧ dcD g c mk mv τw r (putD acc k z) n4 Q else dcD g c mk mv τw r acc n2 Q
structure DcI (A : Act) (bx : Option Addr) (n1 : Nat) (H1 F1 : Hp) (D0 : Addr) (acc : List (Key × D)) (n : Nat) (H F : Hp) : Prop where
  adv : Adv bx n1 n H1 F1 H F
  fr : F D0 = none
  at_ : ∃ ws, H D0 = some (.dK ws) ∧ KD A.K F ws acc
theorem DcI.step {A : Act} {bx : Option Addr} {n1 n n' : Nat} {H1 F1 H F H' F' : Hp} {D0 : Addr} {acc : List (Key × D)} (L : DcI A bx n1 H1 F1 D0 acc n H F) (ad : Adv bx n n' H F H' F') : DcI A bx n1 H1 F1 D0 acc n' H' F' := by
  obtain ⟨vs, h1, h2⟩ := L.at_
  have hb : bx ≠ some D0 := fun z => by rw [L.adv.box D0 z] at h1; cases h1
  refine ⟨L.adv.trans ad, ?_, vs, ad.keep D0 _ h1 hb, h2.mono (ad.fro L.adv.sub)⟩
  rw [ad.old D0 (by rw [h1]; exact fun z => nomatch z)]
  exact L.fr
/-- the result of a dict comprehension -/
structure DictRd (A : Act) (H F : Hp) (D0 : Addr) (kvs : List (Key × D)) : Prop where
  at_ : ∃ ws, H D0 = some (.dK ws) ∧ KD A.K F ws kvs
theorem key_eq {K : PySem.W.Frag} {F : Hp} {v : V} {k : Key} (r : Dp K F v (keyD k)) : v = kV k := by
  cases k with
  | inl i => cases r; rfl
  | inr x => cases r; rfl
theorem dc_read {A : Act} {τ : Ev} {n1 : Nat} {σ : L2.St} {H1 F1 : Hp} {vs : List Nat} {J : It} {items : List D} {g : GM} {c : CM} {mk mv : EM} {ws : List Nat} {P : List (Key × D) → Nat → Prop} {Qd : Addr → Hp → Prop} (R : Rel A τ n1 σ H1 F1) (hw : ∀ i ∈ ws, i ∈ vs)
    (y : YH A.K J items A.bx n1 H1 F1) (h : dcD g c mk mv (wipeE τ vs) items [] n1 P)
    (hq : ∀ D0 acc n' H' F', H1 D0 = none → P acc n' → DcI A A.bx n1 H1 F1 D0 acc n' H' F' → Qd D0 H') :
    ∀ D0, H1 D0 = none → ∃ W : Nat → Nat → Hp → Prop, (∃ m, W 0 m (upd H1 D0 (.dK []))) ∧ ∀ i m H, W i m H →
  (J.stop i H ∧ Qd D0 H) ∨ (J.go i H ∧ ∃ Nx : Hp → Prop, (∀ H', Nx H' → ∃ m', m' < m ∧ W (i + 1) m' H') ∧ ∀ x H', J.yld i H x H' → tG A.K ws g x (L2.wipe σ vs) H' fun σ2 H2 => L2.wipe σ2 vs = L2.wipe σ vs ∧ tT A.K c σ2 H2 fun b H3 =>
    if b = true then tE A.K .fz mk σ2 H3 fun y H4 => tE A.K .fz mv σ2 H4 fun z H5 => ∃ kvs k, y = kV k ∧ H5 D0 = some (.dK kvs) ∧ kvs.length < sizeLine ∧ Nx (upd H5 D0 (.dK (putK kvs k z))) else Nx H3) := by
  intro D0 hD0
  have hF1 : F1 D0 = none := by
    cases e : F1 D0 with
    | none => rfl
    | some o => rw [R.same D0 o e] at hD0; cases hD0
  refine ⟨fun i m H => ∃ acc n F, m = items.length - i ∧ i ≤ items.length ∧ DcI A A.bx n1 H1 F1 D0 acc n H F ∧ dcD g c mk mv (wipeE τ vs) (items.drop i) acc n P, ⟨items.length, [], n1, F1, rfl, Nat.zero_le _, ⟨(PAdv.new' R.same hD0).adv R.box, hF1, [], upd_same, .nil⟩, by rw [List.drop_zero]; exact h⟩, ?_⟩
  rintro i m H ⟨acc, n, F, rfl, hi, L, q⟩
  obtain ⟨y1, y2⟩ := y i n H F L.adv
  by_cases hl : i < items.length
  · have ed : items.drop i = items[i] :: items.drop (i + 1) := List.drop_eq_getElem_cons hl
    rw [ed] at q
    obtain ⟨g1, g2⟩ := y1 items[i] (List.getElem?_eq_getElem hl)
    refine .inr ⟨g1, fun H' => ∃ acc n F, DcI A A.bx n1 H1 F1 D0 acc n H' F ∧ dcD g c mk mv (wipeE τ vs) (items.drop (i + 1)) acc n P, ?_, ?_⟩
    · rintro H' ⟨acc', n', F', L', q'⟩
      exact ⟨items.length - (i + 1), by omega, acc', n', F', rfl, hl, L', q'⟩
    · intro x H2 hy
      obtain ⟨F2, a2, d2⟩ := g2 x H2 hy
      have L2' := L.step (a2.adv (R.step L.adv).box)
      have R2 := (R.step L2'.adv).wipe vs
      refine ⟨A, wipeE τ vs, n, F2, _, items[i], rfl, R2, d2, q, fun τ3 n3 σ3 H3 F3 p3 R3 s3 a3 x3 => ⟨?_, ?_⟩⟩
      · rw [x3.1 vs hw]
        exact lc_read.wipe_wipe σ vs
      · have L3 := L2'.step a3
        refine tT_go rfl R3 p3 fun t n4 H4 F4 p4 a4 => ?_
        have L4 := L3.step a4
        cases t with
        | true =>
          rw [if_pos rfl] at p4 ⊢
          refine tE_run rfl (R3.step a4) p4 fun d n5 v H5 F5 p5 a5 r5 => ?_
          refine tE_run rfl ((R3.step a4).step a5) p5 fun d2 n6 v2 H6 F6 p6 a6 r6 => ?_
          obtain ⟨k, rfl, hz, p6⟩ := p6
          have L6 := (L4.step a5).step a6
          obtain ⟨ws6, h61, h62⟩ := L6.at_
          refine ⟨ws6, k, key_eq r5, h61, by rw [h62.len]; exact hz, putD acc k d2, n6, F6, ⟨⟨fun c o e hb => ?_, L6.adv.old, fun c o e => ?_, fun b hb => ?_⟩, L6.fr, putK ws6 k v2, upd_same, h62.put k r6⟩, p6⟩
          · rw [upd_ne (ne_of_none e hD0)]; exact L6.adv.keep c o e hb
          · rw [upd_ne (ne_of_none e L6.fr)]; exact L6.adv.sub c o e
          · rw [upd_ne (fun z => by subst z; rw [L6.adv.box b hb] at h61; cases h61)]; exact L6.adv.box b hb
        | false =>
          rw [if_neg Bool.false_ne_true] at p4 ⊢
          exact ⟨acc, n4, F4, L4, p4⟩
  · have ei : i = items.length := by omega
    subst ei
    rw [List.drop_length] at q
    exact .inl ⟨y2 (Nat.le_refl _), hq D0 acc n H F hD0 q L⟩
section
variable {X : Cx} {K : PySem.W.Frag} {tg iter : Expr} {a b o kx vx : Expr} {ma mb mk mv : EM} {p pos tpos spos dpos : Pos} {kr : Kd} {x : Str}
/-- name = {k: v for ..} -/
def sSetDc (i : Nat) (mi : IM) (g : GM) (c : CM) (mk mv : EM) (vs : List Nat) : SM := fun E τ n => mi τ n fun items n1 => dcD g c mk mv (wipeE τ vs) items [] n1 fun kvs n2 => E.nx (τ.set i (some (.dk kvs))) n2
theorem p_setDc {i : Nat} {pos' : Pos} {ifs : List Expr} {scope : Scope} {own : List (Str × Nat)} {mi : IM} {g : GM} {c : CM} {ws : List Nat} (hN0 : X.N.Nodup) (hi0 : X.N[i]? = some x) (hx : Loc X.env.scope x) (hc : X.calm = true) (hN : X.N.Nodup) (hi : J2 X tg iter mi) (ok : BlkOk X.N X.env.scope scope own)
    (hg : ∀ (s : Shared) (H : Hp) (C : Addr) (cl : List (Str × Addr)) (fp : List Addr), G2 (X.blk s H scope (compEnvC scope cl C X.env) fp) ws tg g) (ht : ∀ (s : Shared) (H : Hp) (C : Addr) (cl : List (Str × Addr)) (fp : List Addr), C2 (X.blk s H scope (compEnvC scope cl C X.env) fp) ifs c)
    (hk : ∀ (s : Shared) (H : Hp) (C : Addr) (cl : List (Str × Addr)) (fp : List Addr), E2 (X.blk s H scope (compEnvC scope cl C X.env) fp) .fz kx mk)
    (hv : ∀ (s : Shared) (H : Hp) (C : Addr) (cl : List (Str × Addr)) (fp : List Addr), E2 (X.blk s H scope (compEnvC scope cl C X.env) fp) .fz vx mv) (hw : ∀ i ∈ ws, i ∈ own.map (·.2) := by decide) (hs : ∀ x, foldedSetIterable iter X.env x = pure x := by intro _; rfl)
    (hsw : swapsWith (.DictComp kx vx [⟨tg, iter, ifs, 0⟩] scope dpos) (some (.Name x pos')) pos.line X.env = pure false := by rfl)
    (hf : X.fn x = true ∨ X.env.scope.names.lookup x = some .local := by first | exact .inl rfl | exact .inr rfl | assumption) :
    P2 X kr (.Assign [.Name x pos'] (.DictComp kx vx [⟨tg, iter, ifs, 0⟩] scope dpos) pos) (sSetDc i mi g c mk mv (own.map (·.2))) := by
  refine ⟨fun Wx tk => ps_weak (ps_set hN0 hi0 hx (pe_dc (tk := tE X.K .fz mk) (tv := tE X.K .fz mv) (g := tG X.K ws g) (tt := tT X.K c) hc hN hi.pi ok (fun s H C cl fp => (hg s H C cl fp).pg) (fun s H C cl fp => (ht s H C cl fp).pt) (fun s H C cl fp => (hk s H C cl fp).pe) (fun s H C cl fp => (hv s H C cl fp).pe) hs) hsw hf)
    fun Dd σ H ⟨A, τ, n, F, E, eK, R, hm, e⟩ => ⟨A, τ, n, F, _, eK, R, hm, fun items n1 J H1 F1 p1 a1 yy => ?_⟩⟩
  have eK' : A.K = X.K := eK
  have := dc_read (Qd := fun D0 H' => Dd.nx (σ.set i (some (.ref D0))) H') (R.step a1) hw (eK'.symm ▸ yy) p1 fun D0 acc n' H' F' hD p' L => by
    obtain ⟨ws, h1, h2⟩ := L.at_
    have ad := a1.trans L.adv
    have sf : Same F' (upd F' D0 (.dK ws)) := fun c o z => by rw [upd_ne (ne_of_none z L.fr)]; exact z
    have hH : H D0 = none := a1.none_back D0 hD
    have ad2 : Adv A.bx n n' H F H' (upd F' D0 (.dK ws)) := by
      refine ⟨ad.keep, fun c hc => ?_, fun c o z => ?_, ad.box⟩
      · rw [upd_ne (fun z => by subst z; exact hc hH)]
        exact ad.old c hc
      · by_cases q : c = D0
        · subst q; rw [upd_same] at z; cases z; exact h1
        · rw [upd_ne q] at z; exact ad.sub c o z
    refine e.nx _ n' _ H' _ p' ((R.step ad2).setS (s := .dk acc) i ⟨D0, ws, rfl, upd_same, h2.mono sf⟩ fun z => by cases z) (ad2.fro R.same)
  rw [eK'] at this
  exact this
/-- d[k], d a dict at slot i -/
def mDgetK (i : Nat) (mb : EM) : EM := fun τ n Q => ∃ kvs, τ[i]? = some (some (.dk kvs)) ∧ mb τ n fun y n1 => ∃ k d, y = keyD k ∧ valD kvs k = some d ∧ Q d n1
theorem e_dgetK {k : Nat} {i : Nat} (hr : Room k X.A) (ho : PE X o (tVar i)) (hb : E2 X .fz b mb) (hs : NoSl b := by exact fun _ _ => rfl) : E2 X .fz (.Subscript o b pos) (mDgetK i mb) := by
  refine ⟨pe_weak (pe_dget (by have := hr.units; omega) ho hb.pe hs) fun σ H Q ⟨A, τ, n, F, P, eK, R, ⟨kvs, e, hm⟩, hq⟩ => ?_⟩
  obtain ⟨v, g1, c, ws, rfl, g2, g3⟩ := R.sl i _ e
  refine ⟨_, g1, tE_run eK R hm ?_⟩
  rintro y n1 vy H1 F1 ⟨k', d, rfl, hd, p⟩ a1 r1
  have R1 := R.step a1
  have fr := a1.fro R.same
  obtain ⟨v, hv, hdp⟩ := (g3.mono fr).val k' hd
  rw [eK] at hdp
  refine ⟨c, v, rfl, ?_, hq d n1 v H1 F1 p a1 hdp⟩
  rw [key_eq r1, ← hv]
  exact DGet.k (R1.same _ _ (fr _ _ g2))
/-- k in d -/
def mDinK (neg : Bool) (i : Nat) (mb : EM) : EM := fun τ n Q => ∃ kvs, τ[i]? = some (some (.dk kvs)) ∧ mb τ n fun y n1 => ∃ k, y = keyD k ∧ Q (.bool (if neg then !(valD kvs k).isSome else (valD kvs k).isSome)) n1
end
end TL
set_option Elab.async false
set_option linter.all false
set_option maxRecDepth 100000
set_option maxHeartbeats 4000000
namespace TL
open PySem PySem.Spec PyProof.Rows L2
/-! ### [.. for .. for ..] -/
def in2D (g : GM) (c : CM) (me : EM) (τw : Ev) : List D → List D → Nat → (List D → Nat → Prop) → Prop
  | [], acc, n, Q => Q acc n
  | x :: r, acc, n, Q => g x τw n fun τ1 n1 => c τ1 n1 fun b n2 => if b = true then me τ1 n2 fun y n3 => acc.length < sizeLine ∧ in2D g c me τw r (acc ++ [y]) n3 Q else in2D g c me τw r acc n2 Q
def lc2D (g : GM) (c : CM) (mi : IM) (g1 : GM) (c1 : CM) (me : EM) (vs1 : List Nat) (τw : Ev) : List D → List D → Nat → (D → Nat → Prop) → Prop
  | [], acc, n, Q => Q (.list acc) n
  | x :: r, acc, n, Q => g x τw n fun τ1 n1 => c τ1 n1 fun b n2 => if b = true then mi τ1 n2 fun items1 n3 => in2D g1 c1 me (wipeE τ1 vs1) items1 acc n3 fun acc' n4 => lc2D g c mi g1 c1 me vs1 τw r acc' n4 Q else lc2D g c mi g1 c1 me vs1 τw r acc n2 Q
/-- a thing outside is changed -/
theorem Rel.aside {A : Act} {τ : Ev} {n : Nat} {σ : L2.St} {H F : Hp} {D0 : Addr} {o : HO} (R : Rel A τ n σ H F) (h0 : A.H0 D0 = none) (hF : F D0 = none) (hb : A.bx ≠ some D0)
    (own : ∀ (i : Nat) (s : Sl) (b : Addr), τ[i]? = some (some s) → s.own = true → At s σ[i]? b → b ≠ D0) : Rel A τ n σ (L2.upd H D0 o) F := by
  refine ⟨R.ok, R.len, ⟨fun c u z x => ?_, R.adv.old, fun c u z => ?_, fun b z => ?_⟩, fun i s e => ?_, R.dis⟩
  · rw [upd_ne (ne_of_none z h0)]; exact R.adv.keep c u z x
  · rw [upd_ne (ne_of_none z hF)]; exact R.adv.sub c u z
  · rw [upd_ne (fun q => by subst q; exact hb z)]; exact R.adv.box b z
  · obtain ⟨v, e1, q⟩ := R.sl i s e
    refine ⟨v, e1, ?_⟩
    cases s with
    | ow xs =>
      obtain ⟨c, ws, rfl, g1, g2, g3, g4⟩ := q
      exact ⟨c, ws, rfl, g1, g2, by rw [upd_ne (own i _ c e rfl (.inl e1))]; exact g3, g4⟩
    | odk xs =>
      obtain ⟨c, ws, rfl, g1, g2, g3, g4⟩ := q
      exact ⟨c, ws, rfl, g1, g2, by rw [upd_ne (own i _ c e rfl (.inl e1))]; exact g3, g4⟩
    | odt xs =>
      obtain ⟨c, ws, rfl, g1, g2, g3, g4⟩ := q
      exact ⟨c, ws, rfl, g1, g2, by rw [upd_ne (own i _ c e rfl (.inl e1))]; exact g3, g4⟩
    | nl as xss =>
      obtain ⟨c, rfl, nd, g1, g2, g3, g4⟩ := q
      exact ⟨c, rfl, nd, g1, g2, by rw [upd_ne (own i _ c e rfl (.inl e1))]; exact g3, g4.imp fun b hb us zs p1 p2 p3 p4 => ⟨p1, p2, by rw [upd_ne (own i _ b e rfl (.inr hb))]; exact p3, p4⟩⟩
    | d x => exact q
    | box => exact q
    | raw x => exact q
    | dk x => exact q
    | dt x => exact q
theorem lc2_read {A : Act} {τ : Ev} {n1 : Nat} {σ : L2.St} {H1 F1 : Hp} {vs vs1 : List Nat} {J : It} {items : List D} {g g1 : GM} {c c1 : CM} {mi : IM} {me : EM} {ws ws1 : List Nat} {P : D → Nat → Prop} {Qd : Addr → Hp → Prop} (R : Rel A τ n1 σ H1 F1) (hw : ∀ i ∈ ws, i ∈ vs) (hw1 : ∀ i ∈ ws1, i ∈ vs1)
    (y : YH A.K J items A.bx n1 H1 F1) (h : lc2D g c mi g1 c1 me vs1 (wipeE τ vs) items [] n1 P)
    (hq : ∀ D0 acc n' H' F', H1 D0 = none → P (.list acc) n' → LcI A A.bx n1 H1 F1 D0 acc n' H' F' → Qd D0 H') :
    ∀ D0, H1 D0 = none → ∃ W : Nat → Nat → Hp → Prop, (∃ m, W 0 m (upd H1 D0 (.lst []))) ∧ ∀ i m H, W i m H →
  (J.stop i H ∧ Qd D0 H) ∨ (J.go i H ∧ ∃ Nx : Hp → Prop, (∀ H', Nx H' → ∃ m', m' < m ∧ W (i + 1) m' H') ∧ ∀ x H', J.yld i H x H' → tG A.K ws g x (L2.wipe σ vs) H' fun σ2 H2 => L2.wipe σ2 vs = L2.wipe σ vs ∧ tT A.K c σ2 H2 fun b H3 =>
    if b = true then tIF A.K mi σ2 H3 fun J1 H4 => ∃ W1 : Nat → Nat → Hp → Prop, (∃ m, W1 0 m H4) ∧ ∀ j k H, W1 j k H →
      (J1.stop j H ∧ Nx H) ∨ (J1.go j H ∧ ∃ Nx1 : Hp → Prop, (∀ H', Nx1 H' → ∃ k', k' < k ∧ W1 (j + 1) k' H') ∧ ∀ x H', J1.yld j H x H' → tG A.K ws1 g1 x (L2.wipe σ2 vs1) H' fun σ3 H5 => L2.wipe σ3 vs1 = L2.wipe σ2 vs1 ∧ tT A.K c1 σ3 H5 fun b H6 =>
        if b = true then tE A.K .fz me σ3 H6 fun y H7 => ∃ acc, H7 D0 = some (.lst acc) ∧ acc.length < sizeLine ∧ Nx1 (upd H7 D0 (.lst (acc ++ [y]))) else Nx1 H6)
    else Nx H3) := by
  intro D0 hD0
  have hF1 : F1 D0 = none := by
    cases e : F1 D0 with
    | none => rfl
    | some o => rw [R.same D0 o e] at hD0; cases hD0
  have hA0 : A.H0 D0 = none := R.h0some hD0
  refine ⟨fun i m H => ∃ acc n F, m = items.length - i ∧ i ≤ items.length ∧ LcI A A.bx n1 H1 F1 D0 acc n H F ∧ lc2D g c mi g1 c1 me vs1 (wipeE τ vs) (items.drop i) acc n P, ⟨items.length, [], n1, F1, rfl, Nat.zero_le _, ⟨(PAdv.new' R.same hD0).adv R.box, hF1, [], upd_same, .nil⟩, by rw [List.drop_zero]; exact h⟩, ?_⟩
  rintro i m H ⟨acc, n, F, rfl, hi, L, q⟩
  obtain ⟨y1, y2⟩ := y i n H F L.adv
  by_cases hl : i < items.length
  · have ed : items.drop i = items[i] :: items.drop (i + 1) := List.drop_eq_getElem_cons hl
    rw [ed] at q
    obtain ⟨g2, g3⟩ := y1 items[i] (List.getElem?_eq_getElem hl)
    refine .inr ⟨g2, fun H' => ∃ acc n F, LcI A A.bx n1 H1 F1 D0 acc n H' F ∧ lc2D g c mi g1 c1 me vs1 (wipeE τ vs) (items.drop (i + 1)) acc n P, ?_, ?_⟩
    · rintro H' ⟨acc', n', F', L', q'⟩
      exact ⟨items.length - (i + 1), by omega, acc', n', F', rfl, hl, L', q'⟩
    · intro x H2 hy
      obtain ⟨F2, a2, d2⟩ := g3 x H2 hy
      have L2' := L.step (a2.adv (R.step L.adv).box)
      have R2 := (R.step L2'.adv).wipe vs
      refine ⟨A, wipeE τ vs, n, F2, _, items[i], rfl, R2, d2, q, fun τ3 n3 σ3 H3 F3 p3 R3 s3 a3 x3 => ⟨?_, ?_⟩⟩
      · rw [x3.1 vs hw]
        exact lc_read.wipe_wipe σ vs
      · have L3 := L2'.step a3
        refine tT_go rfl R3 p3 fun t n4 H4 F4 p4 a4 => ?_
        have L4 := L3.step a4
        cases t with
        | true =>
          rw [if_pos rfl] at p4 ⊢
          refine ⟨A, τ3, n4, F4, _, rfl, R3.step a4, p4, fun items1 n5 J1 H5 F5 p5 a5 y5 => ?_⟩
          have L5 := L4.step a5
          have R5 := ((R3.step a4).step a5).wipe vs1
          have free : ∀ (k : Nat) (s : Sl) (b : Addr), (wipeE τ3 vs1)[k]? = some (some s) → s.own = true → At s (L2.wipe σ3 vs1)[k]? b → b ≠ D0 := by
            intro k s b e1 o1 e2 eb
            subst eb
            obtain ⟨f1, f2⟩ := wipeE_some e1
            have f3 := x3.2 k s f1 o1
            obtain ⟨f4, f5⟩ := wipeE_some f3
            have f6 : At s σ3[k]? b := by rwa [wipe_get f2] at e2
            have f7 : (L2.wipe σ3 vs)[k]? = σ3[k]? := wipe_get f5
            have f8 : At s σ[k]? b := by
              have z : L2.wipe σ3 vs = L2.wipe σ vs := by rw [x3.1 vs hw]; exact lc_read.wipe_wipe σ vs
              rw [z, wipe_get f5] at f7
              rw [f7]
              exact f6
            exact (R.own f4 o1 f8).2.2 hD0
          refine ⟨fun j k H => ∃ acc n F, k = items1.length - j ∧ j ≤ items1.length ∧ LcI A A.bx n1 H1 F1 D0 acc n H F ∧ Same F5 F ∧ Rel A (wipeE τ3 vs1) n (L2.wipe σ3 vs1) H F ∧ in2D g1 c1 me (wipeE τ3 vs1) (items1.drop j) acc n fun acc' n4 => lc2D g c mi g1 c1 me vs1 (wipeE τ vs) (items.drop (i + 1)) acc' n4 P,
            ⟨items1.length, acc, n5, F5, rfl, Nat.zero_le _, L5, Same.refl F5, R5, by rw [List.drop_zero]; exact p5⟩, ?_⟩
          rintro j k H6 ⟨acc6, n6, F6, rfl, hj, L6, s6, R6, q6⟩
          obtain ⟨z1, z2⟩ := y5 j H6 F6 s6 R6.same
          by_cases hl1 : j < items1.length
          · have ed1 : items1.drop j = items1[j] :: items1.drop (j + 1) := List.drop_eq_getElem_cons hl1
            rw [ed1] at q6
            obtain ⟨u1, u2⟩ := z1 items1[j] (List.getElem?_eq_getElem hl1)
            refine .inr ⟨u1, fun H' => ∃ acc n F, LcI A A.bx n1 H1 F1 D0 acc n H' F ∧ Same F5 F ∧ Rel A (wipeE τ3 vs1) n (L2.wipe σ3 vs1) H' F ∧ in2D g1 c1 me (wipeE τ3 vs1) (items1.drop (j + 1)) acc n fun acc' n4 => lc2D g c mi g1 c1 me vs1 (wipeE τ vs) (items.drop (i + 1)) acc' n4 P, ?_, ?_⟩
            · rintro H' ⟨acc', n', F', L', s', R', q'⟩
              exact ⟨items1.length - (j + 1), by omega, acc', n', F', rfl, hl1, L', s', R', q'⟩
            · intro x7 H7 hy7
              obtain ⟨F7, a7, d7⟩ := u2 x7 H7 hy7
              have b7 := a7.adv R6.box
              have L7 := L6.step b7
              have R7 := R6.step b7
              have s7 := s6.trans (b7.fro R6.same)
              refine ⟨A, _, n6, F7, _, items1[j], rfl, R7, d7, q6, fun τ8 n8 σ8 H8 F8 p8 R8 s8 a8 x8 => ⟨?_, ?_⟩⟩
              · rw [x8.1 vs1 hw1]
                exact lc_read.wipe_wipe σ3 vs1
              · have L8 := L7.step a8
                refine tT_go rfl R8 p8 fun t n9 H9 F9 p9 a9 => ?_
                have L9 := L8.step a9
                have R9 := (R7.step a8).step a9
                have s9 := (s7.trans (a8.fro R7.same)).trans (a9.fro (R7.step a8).same)
                cases t with
                | true =>
                  rw [if_pos rfl] at p9 ⊢
                  refine tE_run rfl (R8.step a9) p9 fun d n10 v H10 F10 p10 a10 r10 => ?_
                  obtain ⟨hz, p10⟩ := p10
                  have L10 := L9.step a10
                  have R10 := R9.step a10
                  have s10 := s9.trans (a10.fro R9.same)
                  obtain ⟨w10, h101, h102⟩ := L10.at_
                  have hbx : A.bx ≠ some D0 := fun z => by rw [L10.adv.box D0 z] at h101; cases h101
                  refine ⟨w10, h101, by rw [dpAll_len h102]; exact hz, acc6 ++ [d], n10, F10, ⟨⟨fun c o e hb => ?_, L10.adv.old, fun c o e => ?_, fun b hb => ?_⟩, L10.fr, w10 ++ [v], upd_same, dpAll_append h102 (.cons r10 .nil)⟩, s10, R10.aside hA0 L10.fr hbx free, p10⟩
                  · rw [upd_ne (ne_of_none e hD0)]; exact L10.adv.keep c o e hb
                  · rw [upd_ne (ne_of_none e L10.fr)]; exact L10.adv.sub c o e
                  · rw [upd_ne (fun z => by subst z; exact hbx hb)]; exact L10.adv.box b hb
                | false =>
                  rw [if_neg Bool.false_ne_true] at p9 ⊢
                  exact ⟨acc6, n9, F9, L9, s9, R9, p9⟩
          · have ej : j = items1.length := by omega
            subst ej
            rw [List.drop_length] at q6
            exact .inl ⟨z2 (Nat.le_refl _), acc6, n6, F6, L6, q6⟩
        | false =>
          rw [if_neg Bool.false_ne_true] at p4 ⊢
          exact ⟨acc, n4, F4, L4, p4⟩
  · have ei : i = items.length := by omega
    subst ei
    rw [List.drop_length] at q
    exact .inl ⟨y2 (Nat.le_refl _), hq D0 acc n H F hD0 q L⟩
def mLc2 (mi : IM) (g : GM) (c : CM) (mi1 : IM) (g1 : GM) (c1 : CM) (me : EM) (vs vs1 : List Nat) : EM := fun τ n Q => mi τ n fun items n1 => lc2D g c mi1 g1 c1 me vs1 (wipeE τ vs) items [] n1 Q
theorem e_lc2 {X : Cx} {pos : Pos} {elt tg iter tg1 iter1 : Expr} {ifs ifs1 : List Expr} {scope : Scope} {own : List (Str × Nat)} {vs1 : List Nat} {mi mi1 : IM} {g g1 : GM} {c c1 : CM} {me : EM} {ws ws1 : List Nat} (hc : X.calm = true) (hN : X.N.Nodup) (hi : J2 X tg iter mi) (ok : BlkOk X.N X.env.scope scope own)
    (hg : ∀ (s : Shared) (H : Hp) (C : Addr) (cl : List (Str × Addr)) (fp : List Addr),  G2 (X.blk s H scope (compEnvC scope cl C X.env) fp) ws tg g) (ht : ∀ (s : Shared) (H : Hp) (C : Addr) (cl : List (Str × Addr)) (fp : List Addr),  C2 (X.blk s H scope (compEnvC scope cl C X.env) fp) ifs c)
    (hi1 : ∀ (s : Shared) (H : Hp) (C : Addr) (cl : List (Str × Addr)) (fp : List Addr),  I2 (X.blk s H scope (compEnvC scope cl C X.env) fp) tg1 iter1 mi1)
    (hg1 : ∀ (s : Shared) (H : Hp) (C : Addr) (cl : List (Str × Addr)) (fp : List Addr),  G2 (X.blk s H scope (compEnvC scope cl C X.env) fp) ws1 tg1 g1) (ht1 : ∀ (s : Shared) (H : Hp) (C : Addr) (cl : List (Str × Addr)) (fp : List Addr),  C2 (X.blk s H scope (compEnvC scope cl C X.env) fp) ifs1 c1)
    (he : ∀ (s : Shared) (H : Hp) (C : Addr) (cl : List (Str × Addr)) (fp : List Addr),  E2 (X.blk s H scope (compEnvC scope cl C X.env) fp) .fz elt me) (hv : ∀ i ∈ vs1, i ∈ own.map (·.2) := by decide) (hw : ∀ i ∈ ws, i ∈ own.map (·.2) := by decide) (hw1 : ∀ i ∈ ws1, i ∈ vs1 := by decide)
    (hs : ∀ x, foldedSetIterable iter X.env x = pure x := by intro _; rfl) (hs1 : ∀ env x, foldedSetIterable iter1 env x = pure x := by intro _ _; rfl) :
    E2 X .nw (.ListComp elt [⟨tg, iter, ifs, 0⟩, ⟨tg1, iter1, ifs1, 0⟩] scope pos) (mLc2 mi g c mi1 g1 c1 me (own.map (·.2)) vs1) := by
  refine ⟨pe_weak (pe_lc2 (te := tE X.K .fz me) (g := tG X.K ws g) (tt := tT X.K c) (g1 := tG X.K ws1 g1) (tt1 := tT X.K c1) (wi1 := tIF X.K mi1) hc hN hi.pi ok hv (fun s H C cl fp => (hg s H C cl fp).pg) (fun s H C cl fp => (ht s H C cl fp).pt)
    (fun s H C cl fp => (hi1 s H C cl fp).pi) (fun s H C cl fp => (hg1 s H C cl fp).pg) (fun s H C cl fp => (ht1 s H C cl fp).pt) (fun s H C cl fp => (he s H C cl fp).pe) hs hs1) fun σ H Q ⟨A, τ, n, F, P, eK, R, hm, hq⟩ => ⟨A, τ, n, F, _, eK, R, hm, fun items n1 J H1 F1 p1 a1 y => ?_⟩⟩
  have eK' : A.K = X.K := eK
  have := lc2_read (Qd := fun D0 H' => Q (.ref D0) H') (R.step a1) hw hw1 (eK'.symm ▸ y) p1 fun D0 acc n' H' F' hD p' L => by
    obtain ⟨vs, h1, h2⟩ := L.at_
    exact hq _ n' _ H' F' p' (a1.trans L.adv) ⟨D0, vs, acc, rfl, rfl, a1.none_back D0 hD, L.fr, h1, eK' ▸ h2⟩
  rw [eK'] at this
  exact this
end TL
set_option Elab.async false
set_option linter.all false
set_option maxRecDepth 100000
set_option maxHeartbeats 4000000
/-! sorted: of pairs of ints; of a tuple of ints -/
namespace TL
open PySem PySem.Spec PyProof.Rows L2
section
variable {prog : Program} {w : World} {A : Around} {E : Value → Shared → Prop} {s : Shared}
theorem collect_tup {l : Addr} {vs : List Value} {Q : List Value → Shared → Prop} (hl : IsTup s.heap l vs.toArray)
    (h : Q vs { s with heap := (s.heap.push (seqObj "list" #[] 0)).update s.heap.objs.size (Obj.mapSeq (· ++ vs.toArray)) }) (hsz : vs.length ≤ sizeLine) :
    wpAny (model prog w) A (collect (.ref l)) Q E s := by
  obtain ⟨o, ho, hc, n, hd⟩ := id hl
  unfold collect
  refine wpAny_bind (wpAny_runValue (codeAny_builtin entry_proto_collect' ?_))
  show wpAny _ _ (do again (.builtin "list.__iadd__" ⟨[← newList [], .ref l], []⟩)) _ _ s
  refine wpAny_bind (wpAny_newList (wpAny_pure ⟨Code.quiet_builtin _ (by decide +kernel), codeAny_builtin entry_list_iadd' ?_⟩))
  show wpAny _ _ (Builtin.List.listExtendWith (.ref s.heap.objs.size) (.ref l) (.ref s.heap.objs.size)) _ _ { s with heap := s.heap.push (seqObj "list" #[] 0) }
  unfold Builtin.List.listExtendWith
  have ho' : (s.heap.push (seqObj "list" #[] 0)).get? l = some o := Heap.get?_push_of_some _ ho
  refine wpAny_bind (wpAny_typeOf (T := "tuple") ⟨o, ho', hc⟩ ?_)
  have ht : (Value.type "tuple" == Value.type "tuple") = true := by rfl
  rw [if_pos (by rw [ht]; simp)]
  refine wpAny_bind (listItems_at ho' hd ?_)
  refine wpAny_bind (listItems_at (xs := #[]) (n := 0) (Heap.get?_push_size _ rfl) rfl ?_)
  rw [if_neg (by simp)]
  refine wpAny_bind (listUpdate_at (xs := #[]) (n := 0) (Heap.get?_push_size _ rfl) rfl ?_ (Nat.zero_le _) (by show (#[] ++ vs.toArray).size ≤ sizeLine + 1; simp only [Array.size_append, List.size_toArray, List.length_nil]; omega))
  refine wpAny_pure ?_
  show wpAny (model prog w) A (do
      let o ← load s.heap.objs.size
      match o.data with
      | .seq xs _ => pure xs.toList
      | _ => unsupported "internal:collect") Q E { s with heap := (s.heap.push (seqObj "list" #[] 0)).update s.heap.objs.size (Obj.mapSeq (· ++ vs.toArray)) }
  refine wpAny_bind (wpAny_load (get?_update_seq (Heap.get?_push_size _ rfl) _) ?_)
  show wpAny _ _ (pure ((#[] : Array Value) ++ vs.toArray).toList) Q E _
  have e : ((#[] : Array Value) ++ vs.toArray).toList = vs := by simp
  rw [e]
  exact wpAny_pure h
theorem sorted_ordT {l : Addr} {vs : List Value} {ltv : Value → Value → Bool} {Q : Value → Shared → Prop} (O : SrtO.Swo ltv) (hl : IsTup s.heap l vs.toArray) (hz : vs.length ≤ sizeLine)
    (hS : 2 ≤ vs.length → ∀ (h₁ : Heap) (a : Addr), h₁.get? a = some (seqObj "list" vs.toArray 0) → (∀ b o, s.heap.get? b = some o → b ≠ a ∧ h₁.get? b = some o) → SrtO.SortableO prog w A.in1.in1 { s with heap := h₁ } a vs ltv)
    (h : ∀ out : List Value, SrtO.Srtd ltv out → SrtO.Stb ltv out vs → Q (.ref (s.heap.objs.size + 1)) { s with heap := PyProof.Rows.sortedAll s.heap vs out.toArray }) :
    wpAny (model prog w) A (call (.builtin "sorted") [.ref l]) Q E s := by
  refine Calls.call_function_entry PyProof.Rows.kind_sorted PyProof.Rows.plain_sorted PyProof.Rows.entry_sorted (PyProof.Rows.args_sorted1 _) ?_
  unfold Builtin.«sorted»
  refine wpAny_bind (m := checkCount "sorted" 1 1 _) (wpAny_pure ?_)
  refine wpAny_bind (collect_tup hl ?_ hz)
  refine wpAny_bind (wpAny_newList ?_ hz)
  have hsz : ((s.heap.push (seqObj "list" #[] 0)).update s.heap.objs.size (Obj.mapSeq (· ++ vs.toArray))).objs.size = s.heap.objs.size + 1 := by
    rw [Heap.size_update, Heap.size_push]
  have hoL : (((s.heap.push (seqObj "list" #[] 0)).update s.heap.objs.size (Obj.mapSeq (· ++ vs.toArray))).push (seqObj "list" vs.toArray 0)).get? (s.heap.objs.size + 1) = some (seqObj "list" vs.toArray 0) := by
    rw [← hsz]; exact Heap.get?_push_size _ rfl
  have keep : ∀ b o, s.heap.get? b = some o → b ≠ s.heap.objs.size + 1 ∧ (((s.heap.push (seqObj "list" #[] 0)).update s.heap.objs.size (Obj.mapSeq (· ++ vs.toArray))).push (seqObj "list" vs.toArray 0)).get? b = some o := fun b o q => by
    have hlt : b < s.heap.objs.size := Heap.lt_size q
    refine ⟨Nat.ne_of_lt (Nat.lt_succ_of_lt hlt), Heap.get?_push_of_some _ ?_⟩
    rw [Heap.get?_update_ne _ _ _ _ (Nat.ne_of_lt hlt)]
    exact Heap.get?_push_of_some _ q
  show wpAny _ _ _ _ _ { s with heap := ((s.heap.push (seqObj "list" #[] 0)).update s.heap.objs.size (Obj.mapSeq (· ++ vs.toArray))).push (seqObj "list" vs.toArray 0) }
  rw [hsz]
  refine wpAny_bind (wpAny_holding (wpAny_call_entry PyProof.Rows.slot_list_sort ⟨_, hoL, rfl⟩ PyProof.Rows.entry_list_sort (SrtO.list_sort_ord O hoL hz (fun h2 => hS h2 _ _ hoL keep) fun out hs hb => ⟨_, rfl, ?_⟩) (PyProof.Rows.args_list_sort _)))
  exact wpAny_pure ⟨_, rfl, h out hs hb⟩
end
/-- sorted(xs), a tuple of ints -/
def rSortedIT (K : PySem.W.Frag) : List V → Hp → VK → Prop := fun vs H Q => ∃ (a : Addr) (ns : List Int), vs = [V.ref a] ∧ SqT K H a (ns.map V.int) ∧ ∀ (ns' : List Int) (p : Addr), ns'.Perm ns → ns'.Pairwise (· ≤ ·) → H p = none → Q (.ref p) (upd H p (.lst (ns'.map V.int)))
/-- sorted(xs), a list of pairs of ints -/
def rSortedPS (K : PySem.W.Frag) : List V → Hp → VK → Prop := fun vs H Q => ∃ (a : Addr) (xs : List V) (ps : List (Int × Int)) (C : V → Int × Int → Prop), vs = [V.ref a] ∧ SqL K H a xs ∧ (Paired (fun x p => C x p ∧ ∃ t, x = V.ref t ∧ SqT K H t [.int p.1, .int p.2]) xs ps) ∧
  ∀ ys ps' p, Paired C ys ps' → ps'.Perm ps → ps'.Pairwise (fun p q => SrtO.lexB q p = false) → H p = none → Q (.ref p) (upd H p (.lst ys))
section
variable {X : Cx}
theorem cr_sortedIT : CallR X (.builtin "sorted") (rSortedIT X.K) := by
  intro pins s σ H vs us Q I r h
  obtain ⟨a, ns, rfl, hs, q⟩ := h
  obtain ⟨its, rv, hl, hz⟩ := I.tuple hs
  rw [Vals.ref1 r]
  have hi := rv.ints
  refine sorted_ordT SrtO.swo_int hl (by rw [← rv.length]; exact hz) (fun h2 h₁ a' _ _ => SrtO.ints_sortable hi h2) fun out h1 h2 => ?_
  obtain ⟨k1, k2, k3⟩ := SrtO.ints_out hi h1 h2
  obtain ⟨ep, he'⟩ := PyProof.Rows.sortedAll_at s.heap its out.toArray
  have hlen : ((out.map SrtO.iv).map V.int).length ≤ sizeLine := by
    rw [List.length_map, k2.length_eq]
    rw [List.length_map] at hz
    exact hz
  exact ⟨.ref _, upd H (s.heap.objs.size + 1) (.lst ((out.map SrtO.iv).map V.int)), I.laid (t' := s.toks) (fun _ _ => PyProof.Rows.sortedAll_old) (Nat.le_succ _) ⟨hlen, out, ep, vals_of_ints k1, he'⟩, rfl, q _ _ k2 k3 (I.hok.fresh (Nat.le_succ _))⟩
theorem paired_map {α β : Type} {R : α → β → Prop} (k : α → β) : ∀ {xs : List α} {ps : List β}, Paired R xs ps → (∀ x ∈ xs, ∀ p, R x p → p = k x) → ps = xs.map k
  | _, _, .nil, _ => rfl
  | _, _, .cons h r, f => by rw [List.map_cons, f _ (by simp) _ h, paired_map k r fun x hx => f x (List.mem_cons_of_mem _ hx)]
theorem map_paired {α β : Type} {R : α → β → Prop} (k : α → β) : ∀ {xs : List α}, (∀ x ∈ xs, R x (k x)) → Paired R xs (xs.map k)
  | [], _ => .nil
  | x :: xs, h => .cons (h x (by simp)) (map_paired k fun y hy => h y (List.mem_cons_of_mem _ hy))
theorem paired_mem {α β : Type} {R : α → β → Prop} : ∀ {xs : List α} {ps : List β}, Paired R xs ps → ∀ x ∈ xs, ∃ p, R x p
  | _, _, .nil, x, hx => by cases hx
  | _, _, .cons h r, x, hx => by
    rcases List.mem_cons.mp hx with rfl | hx
    · exact ⟨_, h⟩
    · exact paired_mem r x hx
open Classical in
theorem cr_sortedPS : CallR X (.builtin "sorted") (rSortedPS X.K) := by
  intro pins s σ H vs us Q I r h
  obtain ⟨a, xs, ps, C, rfl, hs, hx, q⟩ := h
  obtain ⟨its, rv, hl, hz⟩ := I.list hs
  obtain ⟨u, rfl, ru⟩ := vals1 r
  obtain rfl : u = Value.ref a := ru
  have fn : ∀ (x : V) (p p' : Int × Int), (∃ t, x = V.ref t ∧ SqT X.K H t [.int p.1, .int p.2]) → (∃ t, x = V.ref t ∧ SqT X.K H t [.int p'.1, .int p'.2]) → p = p' := by
    rintro x p p' ⟨t, e, h⟩ ⟨t', e', h'⟩
    rw [e] at e'
    cases e'
    have := I.tuple_inj h h'
    simp at this
    exact Prod.ext this.1 this.2
  let k : V → Int × Int := fun x => if z : ∃ p : Int × Int, ∃ t, x = V.ref t ∧ SqT X.K H t [.int p.1, .int p.2] then Classical.choose z else (0, 0)
  have hk : ∀ x ∈ xs, ∃ t, x = V.ref t ∧ SqT X.K H t [.int (k x).1, .int (k x).2] := fun x m => by
    obtain ⟨p, _, z⟩ := paired_mem hx x m
    have z : ∃ p : Int × Int, ∃ t, x = V.ref t ∧ SqT X.K H t [.int p.1, .int p.2] := ⟨p, z⟩
    have e : k x = Classical.choose z := dif_pos z
    rw [e]
    exact Classical.choose_spec z
  have hps : ps = xs.map k := paired_map k hx fun x m p hp => fn x p (k x) hp.2 (hk x m)
  have hC : ∀ x ∈ xs, C x (k x) := fun x m => by
    obtain ⟨p, hc, z⟩ := paired_mem hx x m
    rw [← fn x p (k x) z (hk x m)]
    exact hc
  obtain ⟨e1, e2⟩ := refs_back rv fun x m => by
    obtain ⟨t, e, _⟩ := hk x m
    exact ⟨t, e⟩
  refine SrtO.sorted_pairsO (k := fun u => k (backV u)) hl.isList (by rw [← rv.length]; exact hz) (fun v hv => ?_) fun h' d out h1 h2 kp hd hn => ?_
  · obtain ⟨t, rfl⟩ := e2 v hv
    have hm : V.ref t ∈ xs := by rw [e1]; exact List.mem_map.mpr ⟨_, hv, rfl⟩
    obtain ⟨t', e, ht⟩ := hk _ hm
    cases e
    obtain ⟨its2, r2, ⟨o, ho, hc, n, hd⟩, _⟩ := I.tuple ht
    obtain ⟨u1, u2, rfl, ri, rj⟩ := vals2 r2
    obtain ⟨t1, rfl⟩ := ri
    obtain ⟨t2, rfl⟩ := rj
    exact ⟨t, o, t1, t2, n, rfl, ho, hc, hd⟩
  · have h3 : ∀ u ∈ out, ∃ a, u = Value.ref a := fun u hu => e2 u (h2.perm.mem_iff.mp hu)
    obtain ⟨n, hn⟩ := hn
    have hb : SrtO.Stb (ltP k) (out.map backV) xs := by
      rw [e1]
      exact SrtO.Stb.map (ltP_swo k) backV h2
    have hsub : ∀ y ∈ out.map backV, y ∈ xs := fun y hy => hb.perm.mem_iff.mp hy
    refine ⟨.ref d, upd H d (.lst (out.map backV)), I.laid (t' := s.toks) kp hd ⟨?_, out, n, vals_back h3, hn⟩, rfl, q _ ((out.map backV).map k) d (map_paired k fun y hy => hC y (hsub y hy)) ?_ ?_ (I.hok.fresh hd)⟩
    · rw [hb.len]
      exact hz
    · rw [hps]
      exact hb.perm.map k
    · rw [List.pairwise_map]
      exact SrtO.srtd_map h1
end
/-! ### over data -/
def intP (p : Int × Int) : D := .tuple [.int p.1, .int p.2]
def dSortT : Op1 := fun x P => ∃ ns : List Int, x = .tuple (ns.map .int) ∧ ∀ ns' : List Int, ns'.Perm ns → ns'.Pairwise (· ≤ ·) → P (.list (ns'.map .int))
def dSortP : Op1 := fun x P => ∃ ps : List (Int × Int), x = .list (ps.map intP) ∧ ∀ ps' : List (Int × Int), ps'.Perm ps → ps'.Pairwise (fun p q => SrtO.lexB q p = false) → P (.list (ps'.map intP))
section
variable {X : Cx} {K : PySem.W.Frag} {a : Expr} {ma : EM} {p pos : Pos}
theorem does_sortT : DoesF K .nw dSortT (rSortedIT K) := by
  rintro H F vx x P Q s rx ⟨ns, rfl, p⟩ hq
  obtain ⟨l, vs, rfl, h1, h2⟩ := bw_tup s rx
  rw [dpAll_ints h2] at h1
  refine ⟨l, ns, rfl, h1, fun ns' q g1 g2 hp => ?_⟩
  obtain ⟨b1, b2⟩ := new_nw s hp (ints_dpAll (K := K) (F := F) ns')
  exact hq _ _ _ _ (p ns' g1 g2) b1 b2
theorem pairs_dpAll {F H : Hp} (s : Same F H) : ∀ {ps : List (Int × Int)} {vs : List V}, DpAll K F vs (ps.map intP) → Paired (fun x p => Dp K F x (intP p) ∧ ∃ t, x = V.ref t ∧ SqT K H t [.int p.1, .int p.2]) vs ps
  | [], _, h => by cases h; exact .nil
  | p :: ps, _, h => by
    cases h with
    | cons h1 h2 =>
      refine .cons ⟨h1, ?_⟩ (pairs_dpAll s h2)
      cases h1 with
      | tup hs ha =>
        have := dpAll_ints (ns := [p.1, p.2]) ha
        rw [this] at hs
        exact ⟨_, rfl, seqT s hs.sq⟩
theorem paired_dpAll {F : Hp} : ∀ {ps : List (Int × Int)} {vs : List V}, Paired (fun x p => Dp K F x (intP p)) vs ps → DpAll K F vs (ps.map intP)
  | _, _, .nil => .nil
  | _, _, .cons h r => .cons h (paired_dpAll r)
theorem does_sortP : DoesF K .nw dSortP (rSortedPS K) := by
  rintro H F vx x P Q s rx ⟨ps, rfl, p⟩ hq
  obtain ⟨l, vs, rfl, h1, h2⟩ := bw_list s rx
  refine ⟨l, vs, ps, _, rfl, h1, pairs_dpAll s h2, fun ys ps' q g1 g2 g3 hp => ?_⟩
  obtain ⟨b1, b2⟩ := new_nw s hp (paired_dpAll g1)
  exact hq _ _ _ _ (p ps' g2 g3) b1 b2
theorem e_sortT (ha : E2 X .bw a ma) (hg : Gl X "sorted") (hm : X.mg "sorted" = none) (he : starEach [a] X.env = (false, eval a X.env) :: starEach [] X.env := by rfl) (hpl : (backTo pos (starEach [] X.env)).any (·.1) = false := by rfl) : E2 X .nw (.Call (.Name "sorted" p) [a] [] pos) (m1 dSortT ma) :=
  e_f1 cr_sortedIT does_sortT hg hm PyProof.Rows.boot_sorted ha (by decide) (by decide) he hpl
theorem e_sortP (ha : E2 X .bw a ma) (hg : Gl X "sorted") (hm : X.mg "sorted" = none) (he : starEach [a] X.env = (false, eval a X.env) :: starEach [] X.env := by rfl) (hpl : (backTo pos (starEach [] X.env)).any (·.1) = false := by rfl) : E2 X .nw (.Call (.Name "sorted" p) [a] [] pos) (m1 dSortP ma) :=
  e_f1 cr_sortedPS does_sortP hg hm PyProof.Rows.boot_sorted ha (by decide) (by decide) he hpl
def dSort : Op1 := fun x P => dSortI x P ∨ dSortP x P ∨ dSortT x P
theorem does_sort : DoesF K .nw dSort (fun xs H Q => rSortedI K xs H Q ∨ rSortedPS K xs H Q ∨ rSortedIT K xs H Q) := by
  rintro H F vx x P Q s rx (h | h | h) hq
  · exact .inl (does_sortI H F vx x P Q s rx h hq)
  · exact .inr (.inl (does_sortP H F vx x P Q s rx h hq))
  · exact .inr (.inr (does_sortT H F vx x P Q s rx h hq))
theorem e_sort (ha : E2 X .bw a ma) (hg : Gl X "sorted") (hm : X.mg "sorted" = none) (he : starEach [a] X.env = (false, eval a X.env) :: starEach [] X.env := by rfl) (hpl : (backTo pos (starEach [] X.env)).any (·.1) = false := by rfl) : E2 X .nw (.Call (.Name "sorted" p) [a] [] pos) (m1 dSort ma) :=
  e_f1 (cr_sortedI.or (cr_sortedPS.or cr_sortedIT)) does_sort hg hm PyProof.Rows.boot_sorted ha (by decide) (by decide) he hpl
end
end TL
set_option Elab.async false
set_option linter.all false
set_option maxRecDepth 100000
set_option maxHeartbeats 4000000
/-! sum of a tuple; never, by hand -/
namespace TL
open PySem PySem.Spec PyProof.Rows L2
section
variable {X : Cx} {K : PySem.W.Frag} {a : Expr} {ma : EM} {p pos : Pos}
def rSumT (K : PySem.W.Frag) : List V → Hp → VK → Prop := fun vs H Q => ∃ (a : Addr) (ns : List Int), vs = [V.ref a] ∧ SqT K H a (ns.map V.int) ∧ Q (.int ns.sum) H
theorem cr_sumT (hc : X.calm = true) : CallR X (.builtin "sum") (rSumT X.K) := by
  intro pins s σ H vs us Q I r h
  obtain ⟨a, ns, rfl, hs, q⟩ := h
  obtain ⟨its, rv, hl, _⟩ := I.tuple hs
  rw [Vals.ref1 r]
  obtain ⟨xs, e⟩ := rv.ints.allInts.items
  have hn : numsOf (intItems xs).toList = ns := by rw [← e]; exact rv.ints.numsOf
  rw [nums_intItems] at hn
  rw [e] at hl
  refine PySem.W.ktm_sumG (I.ok.hd hc) hl fun h' tk t' hk => ?_
  rw [preSum_eq, List.take_of_length_le (by simp), hn]
  exact ⟨.int _, H, I.kept hk, ⟨_, rfl⟩, q⟩
def dSumT : Op1 := fun x P => ∃ ns : List Int, x = .tuple (ns.map .int) ∧ P (.int ns.sum)
theorem does_sumT : DoesF K .fz dSumT (rSumT K) := by
  rintro H F vx x P Q s rx ⟨ns, rfl, p⟩ hq
  obtain ⟨l, vs, rfl, h1, h2⟩ := bw_tup s rx
  rw [dpAll_ints h2] at h1
  exact ⟨l, ns, rfl, h1, hq _ _ H F p (PAdv.refl s) (.int _)⟩
def dSumA : Op1 := fun x P => dSum x P ∨ dSumT x P
theorem does_sumA : DoesF K .fz dSumA (fun xs H Q => rSum K xs H Q ∨ rSumT K xs H Q) := by
  rintro H F vx x P Q s rx (h | h) hq
  · exact .inl (does_sum H F vx x P Q s rx h hq)
  · exact .inr (does_sumT H F vx x P Q s rx h hq)
theorem e_sumA (hc : X.calm = true) (ha : E2 X .bw a ma) (hg : Gl X "sum") (hm : X.mg "sum" = none) (he : starEach [a] X.env = (false, eval a X.env) :: starEach [] X.env := by rfl) (hpl : (backTo pos (starEach [] X.env)).any (·.1) = false := by rfl) : E2 X .fz (.Call (.Name "sum" p) [a] [] pos) (m1 dSumA ma) :=
  e_f1 ((cr_sum hc).or (cr_sumT hc)) does_sumA hg hm PyProof.Rows.boot_sum ha (by decide) (by decide) he hpl
end
/-! ### never -/
abbrev NvR := List (Int × Int)
def nvP (p : Int × Int) : D := .tuple [.int p.1, .int p.2]
def nvD (l : NvR) : D := .tuple (l.map nvP)
def nvG (l : NvR) (j : Nat) : Int × Int := l.getD j (0, 0)
/-- the bar and the list of one's row in the table, k behind it looked at -/
def nvF (l : NvR) (i : Nat) : Nat → Int × List Nat
  | 0 => ((nvG l i).1 + (nvG l i).2, [])
  | k + 1 => if (nvG l (i + 1 + k)).1 ≤ (nvF l i k).1 then ((nvF l i k).1 + (nvG l (i + 1 + k)).2, (nvF l i k).2 ++ [i + 1 + k]) else nvF l i k
def nvT (l : NvR) : List (List Nat) := (List.range l.length).map fun i => (nvF l i (l.length - (i + 1))).2
def nvTD (l : NvR) : D := .list ((nvT l).map fun xs => .list (xs.map fun j => .int (j : Nat)))
def fNever : FM := fun as n P _ => ∃ l : NvR, as = [.d (nvD l)] ∧ l.length ≤ 1000 ∧ P (nvTD l) n
def natV (j : Nat) : V := .int (j : Nat)
abbrev nvN : List Str := ["row", "found", "one", "places", "bar", "other", "beast"]
def tNever (K : PySem.W.Frag) : TS :=
  tSeq (tAsg (tLc (iTup K (tVar 0)) (gName 6) tYes (tLst tNil) [6]) (gName 1))
    (tSeq (tFor (iEnum K (tCons (tVar 1) tNil)) (gTup K 2 (gCons (gName 2) (gCons (gName 3) gNil)))
      (tSeq (tAsg (tE K .fz (m1 dSumA (m2 dIx (mVar 0) (mVar 2)))) (gName 4))
        (tFor (iRng2 (tD K (aCons (m2 dAdd (mVar 2) (mC (.int 1))) (aCons (m1 dLen (mVar 0)) aNil)))) (gName 5)
          (tIfS (tT K (mT (m2 dLe (m2 dIx (m2 dIx (mVar 0) (mVar 5)) (mC (.int 0))) (mVar 4))))
            (tSeq (tDrop (tBM K "list" rAppend (tVar 3) (tD K (aCons (mVar 5) aNil)))) (tAug 4 (tE K .fz (m2 dIx (m2 dIx (mVar 0) (mVar 5)) (mC (.int 1)))) (rI0 fun i j => .int (i + j)))) tNext))))
      (tRet (tVar 1)))
def NoOwn (τ : Ev) : Prop := ∀ (i : Nat) (s : Sl), τ[i]? = some (some s) → s.own = false
theorem noOwn_of {τ : Ev} (h : (τ.all fun o => match o with | some s => !s.own | none => true) = true) : NoOwn τ := fun i s e => by
  have := List.all_eq_true.mp h (some s) (List.mem_of_getElem? e)
  simpa using this
/-- the table under way -/
structure NvS (A : Act) (D0 : Addr) (cs : List Addr) (tabs : List (List Nat)) (n : Nat) (τ : Ev) (σ : L2.St) (H F : Hp) : Prop where
  rel : Rel A τ n σ H F
  own : NoOwn τ
  cell : H D0 = some (.lst (cs.map .ref))
  cells : ∀ (j : Nat) (c : Addr), cs[j]? = some c → ∃ tb, tabs[j]? = some tb ∧ H c = some (.lst (tb.map natV))
  nd : (D0 :: cs).Nodup
  len : tabs.length = cs.length
  new : ∀ c ∈ D0 :: cs, F c = none ∧ A.H0 c = none
theorem Rel.updNew {A : Act} {τ : Ev} {n : Nat} {σ : L2.St} {H F : Hp} (R : Rel A τ n σ H F) (hτ : NoOwn τ) {c : Addr} {o u : HO} (h : H c = some u) (hu : A.bx ≠ some c) (hf : F c = none) (h0 : A.H0 c = none) : Rel A τ n σ (L2.upd H c o) F := by
  refine ⟨R.ok, R.len, ⟨fun b v z x => ?_, R.adv.old, fun b v z => ?_, fun b z => ?_⟩, fun i s e => ?_, fun i j a s s' hij e1 o1 _ _ _ => absurd o1 (by rw [hτ i s e1]; decide)⟩
  · rw [upd_ne (ne_of_none z h0)]; exact R.adv.keep b v z x
  · rw [upd_ne (ne_of_none z hf)]; exact R.same b v z
  · rw [upd_ne (fun q => by subst q; exact hu z)]; exact R.box b z
  · obtain ⟨v, g1, g2⟩ := R.sl i s e
    refine ⟨v, g1, ?_⟩
    have := hτ i s e
    cases s <;> first | exact g2 | cases this
section
variable {A : Act} {D0 : Addr} {cs : List Addr} {tabs : List (List Nat)} {n n' : Nat} {τ : Ev} {σ : L2.St} {H F H' F' : Hp}
theorem NvS.bx (N : NvS A D0 cs tabs n τ σ H F) : ∀ c ∈ D0 :: cs, A.bx ≠ some c := fun c hc z => by
  have h1 := N.rel.box c z
  rcases List.mem_cons.mp hc with rfl | hc
  · rw [N.cell] at h1; cases h1
  · obtain ⟨j, hj, e⟩ := List.mem_iff_getElem.mp hc
    obtain ⟨tb, _, h2⟩ := N.cells j c (by rw [← e]; exact List.getElem?_eq_getElem hj)
    rw [h2] at h1; cases h1
theorem NvS.adv (N : NvS A D0 cs tabs n τ σ H F) (a : Adv A.bx n n' H F H' F') : NvS A D0 cs tabs n' τ σ H' F' := by
  have hk : ∀ c ∈ D0 :: cs, H c ≠ none := fun c hc => by
    rcases List.mem_cons.mp hc with rfl | hc
    · rw [N.cell]; exact fun z => nomatch z
    · obtain ⟨j, hj, e⟩ := List.mem_iff_getElem.mp hc
      obtain ⟨tb, _, h2⟩ := N.cells j c (by rw [← e]; exact List.getElem?_eq_getElem hj)
      rw [h2]; exact fun z => nomatch z
  refine ⟨N.rel.step a, N.own, a.keep D0 _ N.cell (N.bx D0 (by simp)), fun j c e => ?_, N.nd, N.len, fun c hc => ⟨?_, (N.new c hc).2⟩⟩
  · obtain ⟨tb, h1, h2⟩ := N.cells j c e
    exact ⟨tb, h1, a.keep c _ h2 (N.bx c (by simp [List.mem_of_getElem? e]))⟩
  · rw [a.old c (hk c hc)]
    exact (N.new c hc).1
theorem NvS.set (N : NvS A D0 cs tabs n τ σ H F) (i : Nat) {s : Sl} {v : V} (hs : s.own = false) (h : SlOk A H F s v) : NvS A D0 cs tabs n (τ.set i (some s)) (σ.set i (some v)) H F := by
  refine ⟨N.rel.setS i h (fun z => absurd z (by rw [hs]; decide)), fun j s' e => ?_, N.cell, N.cells, N.nd, N.len, N.new⟩
  by_cases z : j = i
  · subst z
    have hj : j < τ.length := by
      have := (List.getElem?_eq_some_iff.mp e).1
      rwa [List.length_set] at this
    rw [List.getElem?_set_self hj] at e
    cases e
    exact hs
  · rw [List.getElem?_set_ne (Ne.symm z)] at e
    exact N.own j s' e
theorem NvS.app (N : NvS A D0 cs tabs n τ σ H F) {i : Nat} {c : Addr} {tb : List Nat} (hc : cs[i]? = some c) : NvS A D0 cs (tabs.set i tb) n τ σ (upd H c (.lst (tb.map natV))) F := by
  have hm : c ∈ cs := List.mem_of_getElem? hc
  obtain ⟨tb0, ht, h2⟩ := N.cells i c hc
  have hD : D0 ≠ c := fun e => by
    have := N.nd
    rw [List.nodup_cons] at this
    exact this.1 (e ▸ hm)
  have hnd : cs.Nodup := (List.nodup_cons.mp N.nd).2
  have hn := N.new c (by simp [hm])
  have hil : i < tabs.length := (List.getElem?_eq_some_iff.mp ht).1
  refine ⟨N.rel.updNew N.own h2 (N.bx c (by simp [hm])) hn.1 hn.2, N.own, by rw [upd_ne hD]; exact N.cell, fun j c' e => ?_, N.nd, by rw [List.length_set]; exact N.len, N.new⟩
  by_cases z : j = i
  · subst z
    rw [hc] at e
    cases e
    exact ⟨tb, List.getElem?_set_self hil, upd_same⟩
  · obtain ⟨tb1, h3, h4⟩ := N.cells j c' e
    refine ⟨tb1, by rw [List.getElem?_set_ne (Ne.symm z)]; exact h3, ?_⟩
    rw [upd_ne]
    · exact h4
    · intro q
      subst q
      obtain ⟨g1, g2⟩ := List.getElem?_eq_some_iff.mp e
      obtain ⟨g3, g4⟩ := List.getElem?_eq_some_iff.mp hc
      have pw := List.pairwise_iff_getElem.mp hnd
      rcases Nat.lt_or_gt_of_ne z with q | q
      · exact pw j i g1 g3 q (by rw [g2, g4])
      · exact pw i j g3 g1 q (by rw [g2, g4])
end
theorem nv_freeze {K : PySem.W.Frag} {F' : Hp} : ∀ (cs : List Addr) (tabs : List (List Nat)), tabs.length = cs.length → (∀ (j : Nat) (c : Addr), cs[j]? = some c → ∃ tb, tabs[j]? = some tb ∧ F' c = some (.lst (tb.map natV))) → DpAll K F' (cs.map .ref) (tabs.map fun xs => .list (xs.map fun j => .int (j : Nat)))
  | [], [], _, _ => .nil
  | [], _ :: _, h, _ => by simp at h
  | _ :: _, [], h, _ => by simp at h
  | c :: cs, tb :: tabs, h, hc => by
    obtain ⟨tb', e, hf⟩ := hc 0 c rfl
    cases e
    refine .cons (.lst (.inl (.inl hf)) ?_) (nv_freeze cs tabs (by simpa using h) fun j c' e => hc (j + 1) c' (by simpa using e))
    have := ints_dpAll (K := K) (F := F') (tb.map fun j => ((j : Nat) : Int))
    rw [show natV = fun j => V.int ((j : Nat) : Int) from rfl]
    simpa [Function.comp_def] using this
theorem nv_fresh {H0 H' : Hp} : ∀ (cs : List Addr) (tabs : List (List Nat)), tabs.length = cs.length → cs.Nodup → (∀ c ∈ cs, H0 c = none) → (∀ (j : Nat) (c : Addr), cs[j]? = some c → ∃ tb, tabs[j]? = some tb ∧ H' c = some (.lst (tb.map natV))) → FrA (FrT H0 H' 1) (cs.map .ref) (tabs.map fun xs => .list (xs.map fun j => .int (j : Nat))) cs
  | [], [], _, _, _, _ => rfl
  | [], _ :: _, h, _, _, _ => by simp at h
  | _ :: _, [], h, _, _, _ => by simp at h
  | c :: cs, tb :: tabs, h, nd, h0, hc => by
    obtain ⟨tb', e, hf⟩ := hc 0 c rfl
    cases e
    have nd' := List.nodup_cons.mp nd
    refine ⟨[c], cs, rfl, ⟨c, tb.map natV, tb.map fun j => .int (j : Nat), [], rfl, rfl, h0 c (by simp), .inl ⟨rfl, hf⟩, by simp, ?_⟩, nv_fresh cs tabs (by simpa using h) nd'.2 (fun c hc => h0 c (List.mem_cons_of_mem _ hc)) fun j c' e => hc (j + 1) c' (by simpa using e), fun a ha => by rw [List.mem_singleton.mp ha]; exact nd'.1⟩
    have z : ∀ {vs : List V} {ds : List D}, vs.length = ds.length → FrA (FrT H0 H' 0) vs ds [] := by
      intro vs
      induction vs with
      | nil => intro ds hl; cases ds with
        | nil => exact rfl
        | cons => simp at hl
      | cons v vs ih => intro ds hl; cases ds with
        | nil => simp at hl
        | cons d ds => exact ⟨[], [], rfl, rfl, ih (by simpa using hl), fun _ z => by cases z⟩
    exact z (by simp)
section
variable {P : Program} {w : World} {K : PySem.W.Frag} {mg : Str → Option Value} {base : Heap}
theorem ok_never {st : Stmt} {qual name : Str} {f : Addr} {fd : FuncData} {k : Nat} (F : FunD K name qual (defArgs st) (defBody st) (defScope st) [] [] f fd) (S : FnScope nvN ["row"] (defScope st))
    (hder : ∀ (cdv : Value) (A : Around) (outer : List Env) (s : Shared) (H : Hp) (E : XK), Room k (A.deeper (envOfC qual (defScope st) s.heap.objs.size f cdv)) → ∃ X, X = (cxOf CX0 P w K mg base nvN qual (defScope st) f cdv A outer s H E).nox ∧ PSs X (defBody st) (tNever K)) :
    FnOk P w K mg base CX0 (k + 1) f fd ["row"] (Pr K (.nn 2) 1 fNever) := by
  refine F.ok S (fun vs H Q E h => Pr.len vs H Q E h) fun cdv A outer s H vs Q E hr h => ?_
  obtain ⟨X, rfl, hd⟩ := hder cdv A outer s H E hr
  refine ⟨_, hd.nox, ?_⟩
  obtain ⟨F0, as, n, bx, P', PX, hl, sm, hb, hp, ⟨l, rfl, hl2, hP⟩, hq, hx⟩ := h
  have R := start_rel (N := nvN) sm hb hp
  obtain ⟨v0, e0, d0⟩ := R.sl 0 (.d (nvD l)) rfl
  cases d0 with
  | @tup a xs _ hs' ha =>
    have hs : SqT K F0 a xs := hs'.sq
    have hxl : xs.length = l.length := by rw [dpAll_len ha, List.length_map]
    have z20 : 2 ^ 20 ≤ sizeLine := by decide
    refine ⟨.ref a, e0, a, rfl, ⟨xs, seqT sm hs⟩, fun D0 hD0 => ?_⟩
    refine lc_it (walk_tup (K := K) (a := a) (xs := xs)) (fun i H' => ∃ cs : List Addr, cs.length = i ∧ H' D0 = some (.lst (cs.map .ref)) ∧ (∀ c ∈ cs, H' c = some (.lst [])) ∧ (D0 :: cs).Nodup ∧ (∀ c ∈ cs, H c = none) ∧ Same H H')
      ⟨[], rfl, upd_same, (fun _ z => nomatch z), List.nodup_cons.mpr ⟨(fun z => nomatch z), List.nodup_nil⟩, (fun _ z => nomatch z), (fun c o z => by rw [upd_ne (ne_of_none z hD0)]; exact z)⟩ (fun i H' _ ⟨cs, _, _, _, _, _, q⟩ => seqT (sm.trans q) hs) ?_ ?_
    · rintro i x H1 H2 hi ⟨cs, g1, g2, g3, g4, g5, g6⟩ ⟨rfl, hx⟩
      refine ⟨?_, ?_⟩
      · rw [wipe_set (by simp)]
        exact lc_read.wipe_wipe _ _
      · dsimp only [tYes]
        rw [if_pos rfl]
        refine ⟨Nat.zero_le _, fun q hq => ?_⟩
        have hDq : D0 ≠ q := fun e => by subst e; rw [hq] at g2; cases g2
        have hcq : ∀ c ∈ cs, c ≠ q := fun c hc e => by subst e; have := g3 c hc; rw [hq] at this; cases this
        refine ⟨cs.map .ref, by rw [upd_ne hDq]; exact g2, by simp; omega, cs ++ [q], by simp [g1], by rw [upd_same]; simp, fun c hc => ?_, ?_, fun c hc => ?_, fun c o z => ?_⟩
        · have hcD : c ≠ D0 := fun e => by
            subst e
            rcases List.mem_append.mp hc with hc | hc
            · rw [List.nodup_cons] at g4; exact g4.1 hc
            · exact hDq (by simpa using hc)
          rw [upd_ne hcD]
          rcases List.mem_append.mp hc with hc | hc
          · rw [upd_ne (hcq c hc)]; exact g3 c hc
          · have : c = q := by simpa using hc
            subst this
            exact upd_same
        · rw [List.nodup_cons] at g4 ⊢
          refine ⟨fun z => ?_, ?_⟩
          · rcases List.mem_append.mp z with z | z
            · exact g4.1 z
            · exact hDq (by simpa using z)
          · rw [List.nodup_append]
            exact ⟨g4.2, by simp, fun c hc b hb e => hcq c hc (by rw [e]; simpa using hb)⟩
        · rcases List.mem_append.mp hc with hc | hc
          · exact g5 c hc
          · have : c = q := by simpa using hc
            subst this
            cases z : H c with
            | none => rfl
            | some o => rw [g6 c o z] at hq; cases hq
        · rw [upd_ne (ne_of_none z hD0), upd_ne (fun e => by subst e; rw [g6 c o z] at hq; cases hq)]
          exact g6 c o z
    · rintro H1 ⟨cs, g1, g2, g3, g4, g5, g6⟩
      have hF0 : ∀ c, H c = none → F0 c = none := fun c z => by
        cases e : F0 c with
        | none => rfl
        | some o => rw [sm c o e] at z; cases z
      have N0 : NvS ⟨K, H, F0, bx, n⟩ D0 cs (List.replicate l.length []) n (startE 7 [.d (nvD l)]) (L2.start nvN vs) H1 F0 := by
        refine ⟨R.step (PAdv.adv ⟨g6, fun _ _ => rfl, sm.trans g6⟩ R.box), noOwn_of rfl, g2, fun j c e => ⟨[], ?_, g3 c (List.mem_of_getElem? e)⟩, g4, by simp [g1, hxl], fun c hc => ?_⟩
        · have := (List.getElem?_eq_some_iff.mp e).1
          rw [List.getElem?_replicate, if_pos (by omega)]
        · have : H c = none := by
            rcases List.mem_cons.mp hc with rfl | hc
            · exact hD0
            · exact g5 c hc
          exact ⟨hF0 c this, this⟩
      have N1 := N0.set 1 (s := .raw (.ref D0)) (v := .ref D0) rfl rfl
      have hcl : cs.length = l.length := by omega
      obtain ⟨v1, q1, q2⟩ := N1.rel.sl 1 (.raw (.ref D0)) rfl
      cases q2
      refine ⟨_, q1, D0, _, rfl, .inl (.inl N1.cell), ?_⟩
      refine for_it (walk_enum (K := K) (a := D0) (xs := cs.map .ref)) (fun i σ' H' => ∃ (F' : Hp) (y2 y3 y4 y5 : Option Sl), NvS ⟨K, H, F0, bx, n⟩ D0 cs ((List.range i).map (fun j => (nvF l j (l.length - (j + 1))).2) ++ List.replicate (l.length - i) []) n [some (.d (nvD l)), some (.raw (.ref D0)), y2, y3, y4, y5, none] σ' H' F')
        ⟨F0, none, none, none, none, by simp only [List.range_zero, List.map_nil, List.nil_append, Nat.sub_zero]; exact N1⟩ (fun i σ' H' _ ⟨_, _, _, _, _, N⟩ => .inl (.inl N.cell)) ?_ ?_
      · rintro i x σ' H1 H2 hi ⟨F1, y2, y3, y4, y5, N⟩ ⟨T, x1, x2, rfl, hT, rfl, e1, e2⟩
        have hi : i < l.length := by simpa [hcl] using hi
        cases e1
        have e2 : (cs.map V.ref)[i]? = some x2 := e2
        rw [List.getElem?_map] at e2
        cases ec : cs[i]? with
        | none => rw [ec] at e2; cases e2
        | some c =>
          rw [ec] at e2
          cases e2
          refine ⟨T, [.int (i : Nat), .ref c], rfl, .inl (.inl upd_same), rfl, .int (i : Nat), [.ref c], rfl, .ref c, [], rfl, rfl, ?_⟩
          have N2 := (N.adv ((PAdv.new' (o := .tup [.int (i : Nat), .ref c]) N.rel.same hT).adv N.rel.box)).set 2 (s := .d (.int (i : Nat))) (v := .int (i : Nat)) rfl (.int _)
          have N3 := N2.set 3 (s := .raw (.ref c)) (v := .ref c) rfl rfl
          have at_ : ∀ j : Nat, j < l.length → atI (l.map nvP) (j : Int) = some (nvP (nvG l j)) := fun j hj => by
            unfold atI ixN
            rw [if_pos (by omega), if_pos (by simpa using hj)]
            simp [nvG, hj]
          have ix0 : ∀ p : Int × Int, atI [PyData.int p.1, PyData.int p.2] 0 = some (.int p.1) := fun p => rfl
          have ix1 : ∀ p : Int × Int, atI [PyData.int p.1, PyData.int p.2] 1 = some (.int p.2) := fun p => rfl
          refine ⟨⟨K, H, F0, bx, n⟩, _, n, F1, fun d n' => d = .int ((nvG l i).1 + (nvG l i).2) ∧ n = n', rfl, N3.rel, ?_, ?_⟩
          · refine ⟨nvD l, rfl, .int (i : Nat), rfl, .inr (.inl ⟨_, _, _, rfl, rfl, at_ i hi, .inr ⟨[(nvG l i).1, (nvG l i).2], rfl, ?_, rfl⟩⟩)⟩
            simp
          rintro d n' v H3 F3 ⟨rfl, rfl⟩ ad r
          have N4 := (N3.adv ad).set 4 (s := .d (.int ((nvG l i).1 + (nvG l i).2))) (v := v) rfl r
          have hlen : ((l.map nvP).length : Int) = l.length := by simp
          refine ⟨⟨K, H, F0, bx, n⟩, _, n, F3, fun ds n2 => ds = [.int ((i : Nat) + 1), .int (l.length : Nat)] ∧ n = n2, rfl, N4.rel, ?_, ?_⟩
          · refine ⟨.int (i : Nat), rfl, (i : Nat), 1, rfl, rfl, nvD l, rfl, ?_⟩
            refine .inr (.inr ⟨_, rfl, ?_⟩)
            refine ⟨?_, rfl⟩
            show [PyData.int ((i : Int) + 1), PyData.int ((l.map nvP).length : Int)] = _
            rw [hlen]
          rintro ds n2 vs2 H4 F4 ⟨rfl, rfl⟩ ad2 r2
          have ev := dpAll_ints (ns := [(i : Int) + 1, (l.length : Int)]) r2
          have N5 := N4.adv ad2
          refine ⟨(i : Int) + 1, (l.length : Int), ev, ⟨by omega, by omega, by omega, by omega⟩, ?_⟩
          rw [show ((l.length : Int) - ((i : Int) + 1)).toNat = l.length - (i + 1) by omega]
          have htl : i < ((List.range i).map (fun j => (nvF l j (l.length - (j + 1))).2) ++ List.replicate (l.length - i) ([] : List Nat)).length := by simp; omega
          have t0 : ((List.range i).map (fun j => (nvF l j (l.length - (j + 1))).2) ++ List.replicate (l.length - i) ([] : List Nat)).set i [] = (List.range i).map (fun j => (nvF l j (l.length - (j + 1))).2) ++ List.replicate (l.length - i) [] := by
            apply List.ext_getElem?
            intro j
            by_cases hj : j = i
            · subst hj
              rw [List.getElem?_set_self htl, List.getElem?_append_right (by simp), List.getElem?_replicate, if_pos (by simp; omega)]
            · rw [List.getElem?_set_ne (Ne.symm hj)]
          refine for_it (walk_range (lo := (i : Int) + 1) (n := l.length - (i + 1))) (fun k σ2 H2 => ∃ (F2 : Hp) (y5 : Option Sl), NvS ⟨K, H, F0, bx, n⟩ D0 cs (((List.range i).map (fun j => (nvF l j (l.length - (j + 1))).2) ++ List.replicate (l.length - i) []).set i (nvF l i k).2) n [some (.d (nvD l)), some (.raw (.ref D0)), some (.d (.int (i : Nat))), some (.raw (.ref c)), some (.d (.int (nvF l i k).1)), y5, none] σ2 H2 F2)
            ⟨F4, y5, by rw [show (nvF l i 0).2 = [] from rfl, t0]; exact N5⟩ (fun _ _ _ _ _ => trivial) ?_ ?_
          · rintro k x σ5 H5 H5' hk ⟨F5, y5, N6⟩ ⟨rfl, hx⟩
            subst hx
            have hjl : i + 1 + k < l.length := by omega
            have ej : (i : Int) + 1 + (k : Nat) = ((i + 1 + k : Nat) : Int) := by omega
            dsimp only
            rw [ej]
            have N7 := N6.set 5 (s := .d (.int ((i + 1 + k : Nat) : Int))) (v := .int ((i + 1 + k : Nat) : Int)) rfl (.int _)
            refine tT_go (A := ⟨K, H, F0, bx, n⟩) rfl N7.rel (P := fun b n' => b = decide ((nvG l (i + 1 + k)).1 ≤ (nvF l i k).1) ∧ n = n') ?_ ?_
            · refine ⟨nvD l, rfl, .int ((i + 1 + k : Nat) : Int), rfl, .inr (.inl ⟨_, _, _, rfl, rfl, at_ _ hjl, ?_⟩)⟩
              refine .inr (.inl ⟨_, _, _, rfl, rfl, ix0 _, ?_⟩)
              exact ⟨_, rfl, _, _, rfl, rfl, _, rfl, rfl, rfl⟩
            rintro b n3 H6 F6 ⟨rfl, rfl⟩ ad3
            have N8 := N7.adv ad3
            have ht0 : (((List.range i).map (fun j => (nvF l j (l.length - (j + 1))).2) ++ List.replicate (l.length - i) ([] : List Nat)).set i (nvF l i k).2)[i]? = some (nvF l i k).2 := List.getElem?_set_self htl
            by_cases hle : (nvG l (i + 1 + k)).1 ≤ (nvF l i k).1
            · rw [if_pos (decide_eq_true hle)]
              obtain ⟨v3, p3, p4⟩ := N8.rel.sl 3 (.raw (.ref c)) rfl
              cases p4
              obtain ⟨tb, g1, g2⟩ := N8.cells i c ec
              rw [ht0] at g1
              cases g1
              refine ⟨_, p3, .inl ⟨rfl, _, .inl (.inl g2)⟩, ⟨K, H, F0, bx, n⟩, _, n, F6, fun ds n' => ds = [.int ((i + 1 + k : Nat) : Int)] ∧ n = n', rfl, N8.rel, ⟨_, rfl, rfl, rfl⟩, ?_⟩
              rintro ds n4 ws H7 F7 ⟨rfl, rfl⟩ ad4 r4
              have ew := dpAll_ints (ns := [((i + 1 + k : Nat) : Int)]) r4
              have N9 := N8.adv ad4
              obtain ⟨tb, g1, g2⟩ := N9.cells i c ec
              rw [ht0] at g1
              cases g1
              have htb : ∀ k, (nvF l i k).2.length ≤ k := fun k => by
                induction k with
                | zero => exact Nat.le_refl _
                | succ k ih =>
                  simp only [nvF]
                  split
                  · simp; omega
                  · omega
              refine ⟨c, _, .int ((i + 1 + k : Nat) : Int), rfl, ew, g2, by have := htb k; simp; omega, ?_⟩
              have N10 := N9.app (i := i) (tb := (nvF l i k).2 ++ [i + 1 + k]) ec
              rw [show ((nvF l i k).2 ++ [i + 1 + k]).map natV = (nvF l i k).2.map natV ++ [V.int ((i + 1 + k : Nat) : Int)] by simp [natV]] at N10
              obtain ⟨v4, p5, p6⟩ := N10.rel.sl 4 (.d (.int (nvF l i k).1)) rfl
              cases p6
              refine ⟨_, p5, ⟨K, H, F0, bx, n⟩, _, n, F7, fun d n' => d = .int (nvG l (i + 1 + k)).2 ∧ n = n', rfl, N10.rel, ?_, ?_⟩
              · refine ⟨nvD l, rfl, .int ((i + 1 + k : Nat) : Int), rfl, .inr (.inl ⟨_, _, _, rfl, rfl, at_ _ hjl, ?_⟩)⟩
                exact .inr (.inl ⟨_, _, _, rfl, rfl, ix1 _, rfl, rfl⟩)
              rintro d n5 v H8 F8 ⟨rfl, rfl⟩ ad5 r5
              cases r5
              refine ⟨_, _, rfl, rfl, F8, some (.d (.int ((i + 1 + k : Nat) : Int))), ?_⟩
              have N11 := (N10.adv ad5).set 4 (s := .d (.int ((nvF l i k).1 + (nvG l (i + 1 + k)).2))) (v := .int ((nvF l i k).1 + (nvG l (i + 1 + k)).2)) rfl (.int _)
              have ek : nvF l i (k + 1) = ((nvF l i k).1 + (nvG l (i + 1 + k)).2, (nvF l i k).2 ++ [i + 1 + k]) := by
                simp only [nvF, if_pos hle]
              rw [ek]
              rw [List.set_set] at N11
              exact N11
            · rw [if_neg (by simpa using hle)]
              refine ⟨F6, some (.d (.int ((i + 1 + k : Nat) : Int))), ?_⟩
              have ek : nvF l i (k + 1) = nvF l i k := by
                simp only [nvF, if_neg hle]
              rw [ek]
              exact N8
          · rintro σ5 H5 ⟨F5, y5, N6⟩
            have e3 : ((List.range i).map (fun j => (nvF l j (l.length - (j + 1))).2) ++ List.replicate (l.length - i) ([] : List Nat)).set i (nvF l i (l.length - (i + 1))).2 = (List.range (i + 1)).map (fun j => (nvF l j (l.length - (j + 1))).2) ++ List.replicate (l.length - (i + 1)) [] := by
              rw [List.range_succ, List.map_append, show l.length - i = (l.length - (i + 1)) + 1 by omega, List.replicate_succ, List.set_append_right _ _ (by simp)]
              simp
            rw [e3] at N6
            exact ⟨F5, _, _, _, _, N6⟩
      · rintro σ' H' ⟨F', y2, y3, y4, y5, N⟩
        rw [List.length_map, hcl] at N
        obtain ⟨v1, q1, q2⟩ := N.rel.sl 1 (.raw (.ref D0)) rfl
        cases q2
        have hT : (List.range l.length).map (fun j => (nvF l j (l.length - (j + 1))).2) ++ List.replicate (l.length - l.length) [] = nvT l := by simp [nvT]
        rw [hT] at N
        refine ⟨_, q1, hq (nvTD l) n (.ref D0) H' (fun a => if a ∈ D0 :: cs then H' a else F' a) hP ⟨N.rel.adv.keep, fun a ha => ?_, fun a o e => ?_, N.rel.adv.box⟩ ?_⟩
        · have : a ∉ D0 :: cs := fun z => ha (N.new a z).2
          show (if a ∈ D0 :: cs then _ else _) = _
          rw [if_neg this]
          exact N.rel.adv.old a ha
        · have e : (if a ∈ D0 :: cs then H' a else F' a) = some o := e
          by_cases z : a ∈ D0 :: cs
          · rw [if_pos z] at e; exact e
          · rw [if_neg z] at e; exact N.rel.same a o e
        · refine ⟨.lst (xs := cs.map .ref) (.inl (.inl ?_)) ?_, D0 :: cs, D0, cs.map .ref, _, cs, rfl, rfl, hD0, .inl ⟨rfl, N.cell⟩, (List.nodup_cons.mp N.nd).1, nv_fresh cs (nvT l) N.len (List.nodup_cons.mp N.nd).2 (fun c hc => (N.new c (List.mem_cons_of_mem _ hc)).2) N.cells⟩
          · show (if D0 ∈ D0 :: cs then _ else _) = _
            rw [if_pos (by simp)]
            exact N.cell
          · refine nv_freeze cs (nvT l) N.len fun j c e => ?_
            obtain ⟨tb, g1, g2⟩ := N.cells j c e
            refine ⟨tb, g1, ?_⟩
            show (if c ∈ D0 :: cs then _ else _) = _
            rw [if_pos (by simp [List.mem_of_getElem? e])]
            exact g2
end
end TL
set_option Elab.async false
set_option linter.all false
set_option maxRecDepth 100000
set_option maxHeartbeats 4000000
namespace TL
open PySem PySem.Spec PyProof.Rows L2
/-! ### a name's own list becomes the box -/
def Sl.plain : Sl → Bool
  | .d _ => true
  | .raw _ => true
  | .dk _ => true
  | .dt _ => true
  | _ => false
def plainE : Ev → Bool
  | [] => true
  | some s :: r => s.plain && plainE r
  | none :: r => plainE r
def noBx : Option Sl → Option Sl
  | some .box => none
  | o => o
def clrB (τ : Ev) : Ev := τ.map noBx
@[simp] theorem plainE_nil : plainE [] = true := rfl
@[simp] theorem plainE_none (r : Ev) : plainE (none :: r) = plainE r := rfl
@[simp] theorem plainE_some (s : Sl) (r : Ev) : plainE (some s :: r) = (s.plain && plainE r) := rfl
@[simp] theorem plain_d (x : D) : (Sl.d x).plain = true := rfl
@[simp] theorem clrB_nil : clrB [] = [] := rfl
@[simp] theorem clrB_none (r : Ev) : clrB (none :: r) = none :: clrB r := rfl
@[simp] theorem clrB_d (x : D) (r : Ev) : clrB (some (.d x) :: r) = some (.d x) :: clrB r := rfl
@[simp] theorem clrB_ow (x : List D) (r : Ev) : clrB (some (.ow x) :: r) = some (.ow x) :: clrB r := rfl
@[simp] theorem clrB_box (r : Ev) : clrB (some .box :: r) = none :: clrB r := rfl
theorem plainE_at : ∀ {τ : Ev} {i : Nat} {s : Sl}, plainE τ = true → τ[i]? = some (some s) → s.plain = true
  | [], i, s, _, e => by simp at e
  | some t :: r, 0, s, h, e => by
    simp at e h
    subst e
    exact h.1
  | none :: r, 0, s, h, e => by simp at e
  | some t :: r, i + 1, s, h, e => by
    simp at h
    exact plainE_at h.2 (by simpa using e)
  | none :: r, i + 1, s, h, e => plainE_at (τ := r) h (by simpa using e)
section
variable {X : Cx}
theorem pss_close {sts : List Stmt} {t : TS} (h : PSs X sts t) : PSs X sts (fun Dd σ H => ∃ (b : Addr) (x y : Int), H b = some (.lst [.int x, .int y, .int 0]) ∧ 0 ≤ x ∧ (0 ≤ y ∧ y < 2 ^ 62) ∧ t Dd σ (upd H b (.ext (boxP b 0)))) :=
  ⟨fun pins s σ H Dd I ⟨b, x, y, hb, h1, h2, q⟩ => h.run pins s σ _ Dd (box_close I hb h1 h2 (Int.le_refl 0) (Int.le_refl 0)) q⟩
def sBox (i : Nat) (m : SM) : SM := fun E τ n => ∃ x y : Int, τ[i]? = some (some (.ow [.int x, .int y, .int 0])) ∧ 0 ≤ x ∧ (0 ≤ y ∧ y < 2 ^ 62) ∧ plainE (τ.set i none) = true ∧
  m { nx := fun τ' _ => E.nx (clrB τ') n, rt := fun d _ => E.rt d n, bk := fun τ' _ => E.bk (clrB τ') n, ct := fun τ' _ => E.ct (clrB τ') n, xx := fun τ' x _ => E.xx (clrB τ') x n } (τ.set i (some .box)) 0
theorem s_box {kr : Kd} {sts : List Stmt} {m : SM} (i : Nat) (h : S2 X kr sts m) : S2 X kr sts (sBox i m) := by
  refine ⟨fun Wx tk => pss_weak (pss_close (h.ps Wx tk)) fun Dd σ H ⟨A, τ, n, F, E, eK, R, ⟨x, y, e, h1, h2, hp, hm⟩, eo⟩ => ?_⟩
  obtain ⟨v, hv, b, vs, rfl, hb0, hbF, hbl, hd⟩ := R.sl i _ e
  have ev : vs = [V.int x, V.int y, V.int 0] := dpAll_ints (ns := [x, y, 0]) (vs := vs) hd
  subst ev
  have hi : i < τ.length := (List.getElem?_eq_some_iff.mp e).1
  have sF : Same F (upd H b (.ext (boxP b 0))) := fun c o z => by rw [upd_ne (ne_of_none z hbF)]; exact R.same c o z
  have h0b : ∀ c, A.H0 c ≠ none → c ≠ b := fun c hc z => by subst z; exact hc hb0
  -- back from the box's own act
  have back : ∀ {n' : Nat} {H' F' : Hp}, Adv (some b) 0 n' (upd H b (.ext (boxP b 0))) F H' F' → Adv A.bx A.n0 n A.H0 A.F0 H' F' := fun {n' H' F'} a' => by
    refine ⟨fun c o z hc => ?_, fun c hc => ?_, a'.sub, fun c hc => ?_⟩
    · have nb := h0b c (by rw [z]; exact fun z => nomatch z)
      exact a'.keep c o (by rw [upd_ne nb]; exact R.adv.keep c o z hc) fun z => nb (Option.some.inj z).symm
    · have nb := h0b c hc
      have h2 : upd H b (.ext (boxP b 0)) c ≠ none := by
        rw [upd_ne nb]
        by_cases z : A.bx = some c
        · rw [R.box c z]; exact fun z => nomatch z
        · obtain ⟨o, q⟩ := Option.ne_none_iff_exists'.mp hc
          rw [R.adv.keep c o q z]
          exact fun z => nomatch z
      rw [a'.old c h2, R.adv.old c hc]
    · have q := R.box c hc
      have nb : c ≠ b := fun z => by subst z; rw [q] at hbl; cases hbl
      exact a'.keep c _ (by rw [upd_ne nb]; exact q) fun z => nb (Option.some.inj z).symm
  have h0 : ∀ c, upd H b (.ext (boxP b 0)) c = none → A.H0 c = none := fun c z => by
    have nb : c ≠ b := fun w => by subst w; rw [upd_same] at z; cases z
    rw [upd_ne nb] at z
    exact R.h0some z
  have backR : ∀ {τ' : Ev} {n' : Nat} {σ' : L2.St} {H' F' : Hp}, Rel ⟨A.K, upd H b (.ext (boxP b 0)), F, some b, 0⟩ τ' n' σ' H' F' → Rel A (clrB τ') n σ' H' F' := fun {τ' n' σ' H' F'} R' => by
    have at_ : ∀ (j : Nat) (s : Sl), (clrB τ')[j]? = some (some s) → τ'[j]? = some (some s) ∧ s ≠ .box := fun j s z => by
      unfold clrB at z
      rw [List.getElem?_map] at z
      cases q : τ'[j]? with
      | none => rw [q] at z; cases z
      | some o =>
        rw [q] at z
        cases o with
        | none => cases z
        | some s' => cases s' <;> first | (cases z; done) | (cases z; exact ⟨rfl, fun w => nomatch w⟩)
    refine ⟨R.ok, by unfold clrB; rw [List.length_map]; exact R'.len, back R'.adv, fun j s z => ?_, fun j l a s s' hj z1 o1 z2 o2 => R'.dis j l a s s' hj (at_ _ _ z1).1 o1 (at_ _ _ z2).1 o2⟩
    obtain ⟨z1, z2⟩ := at_ j s z
    obtain ⟨u, g1, g2⟩ := R'.sl j s z1
    refine ⟨u, g1, ?_⟩
    cases s with
    | d x => exact g2
    | ow xs => obtain ⟨c, ws, e1, e2, r⟩ := g2; exact ⟨c, ws, e1, h0 c e2, r⟩
    | box => exact absurd rfl z2
    | raw w => exact g2
    | dk kvs => exact g2
    | dt kvs => exact g2
    | odk kvs => obtain ⟨c, ws, e1, e2, r⟩ := g2; exact ⟨c, ws, e1, h0 c e2, r⟩
    | odt kvs => obtain ⟨c, ws, e1, e2, r⟩ := g2; exact ⟨c, ws, e1, h0 c e2, r⟩
    | nl as xss => obtain ⟨c, e1, nd, e2, f2, e3, na⟩ := g2; exact ⟨c, e1, nd, h0 c e2, f2, e3, na.imp fun b hb vs xs p1 p2 p3 p4 => ⟨h0 b p1, p2, p3, p4⟩⟩
  refine ⟨b, x, y, hbl, h1, h2, ⟨A.K, upd H b (.ext (boxP b 0)), F, some b, 0⟩, τ.set i (some .box), 0, F, _, eK, ?_, hm, ?_⟩
  · refine ⟨⟨sF, fun c hc => ?_⟩, by rw [List.length_set]; exact R.len, Adv.refl sF fun c hc => ?_, fun j s z => ?_, fun j l a s s' hj z1 o1 z2 o2 => ?_⟩
    · cases hc; exact ⟨upd_same, hbF⟩
    · cases hc; exact upd_same
    · by_cases q : j = i
      · subst q
        rw [List.getElem?_set_self hi] at z
        cases z
        exact ⟨_, hv, b, rfl, rfl⟩
      · rw [List.getElem?_set_ne (Ne.symm q)] at z
        obtain ⟨u, g1, g2⟩ := R.sl j s z
        have pl := plainE_at (i := j) (s := s) hp (by rw [List.getElem?_set_ne (Ne.symm q)]; exact z)
        refine ⟨u, g1, ?_⟩
        cases s with
        | d x => exact g2
        | raw w => exact g2
        | dk kvs => exact g2
        | dt kvs => exact g2
        | _ => cases pl
    · by_cases q : j = i
      · subst q
        rw [List.getElem?_set_self hi] at z1
        cases z1
        cases o1
      · rw [List.getElem?_set_ne (Ne.symm q)] at z1
        have pl := plainE_at (i := j) (s := s) hp (by rw [List.getElem?_set_ne (Ne.symm q)]; exact z1)
        cases s with
        | d x => cases o1
        | raw w => cases o1
        | dk kvs => cases o1
        | dt kvs => cases o1
        | _ => cases pl
  · exact ⟨fun τ' n' σ' H' F' p R' s => eo.nx _ _ _ _ _ p (backR R') s, fun τ' n' σ' H' F' p R' s => eo.bk _ _ _ _ _ p (backR R') s, fun τ' n' σ' H' F' p R' s => eo.ct _ _ _ _ _ p (backR R') s,
      fun d n' v H' F' p a' r' => eo.rt d n v H' F' p (back a') (r'.h0 h0), fun τ' x n' σ' H' F' cls dd p R' s q => eo.xx _ x _ _ _ _ _ _ p (backR R') s q⟩
end
/-! ### calls of defs with repr -/
section
variable {X : Cx} {x : Str} {p pos : Pos} {a : Expr} {es : List Expr}
theorem pe_callG {k : Nat} {f : Addr} {fd : FuncData} {ps : List Str} {sp : Sp} {t : TA} (G : GOk X.prog X.w X.K X.mg X.base k f fd ps sp) (hgd : X.A.guards = some []) (hr : Room k X.A) (hg : Gl X x) (hm : X.mg x = some (.ref f)) (hk : PySem.W.keepIn X.K (.ref f) = true) (hb : Binds X.K fd ps [])
    (ha : PA X (a :: es) t) (hdb : (x == ("__debug__" : Str)) = false := by decide) (he : starEach (a :: es) X.env = (false, eval a X.env) :: starEach es X.env := by rfl) (hpl : (backTo pos (starEach es X.env)).any (·.1) = false := by rfl) :
    PE X (.Call (.Name x p) (a :: es) [] pos) (fun σ H Q => t σ H fun vs H1 => sp vs H1 Q E0) := by
  refine ⟨fun pins s σ H Q I h => ?_⟩
  refine wpAny_Call_Name_kw (ld_glob I hg hm ?_ hdb)
  refine PySem.W.callWith_K (h₀ := X.base) I.ok.mod.kin hk (thn (ha.run pos pins s σ H _ I h) fun us s1 ⟨vs, H1, I1, r, q⟩ => ⟨I1.kIn, ?_⟩) he hpl
  exact run_G G hgd hr hb I1 r q
theorem e_calG {P : Program} {w : World} {K : PySem.W.Frag} {mg : Str → Option Value} {base : Heap} {ar : Arguments} {ps : List Str} {k : Nat} {kr : Kd} {f : FM} {m : AM} (c : GCal P w K mg base x ar ps k kr f) {A0 : Around} (hgd : A0.guards = some []) (hr : Room k X.A) (hg : Gl X x) (ha : A2 X (a :: es) m) (hA : X.A.guards = A0.guards := by rfl)
    (hdb : (x == ("__debug__" : Str)) = false := by decide) (he : starEach (a :: es) X.env = (false, eval a X.env) :: starEach es X.env := by rfl) (hpl : (backTo pos (starEach es X.env)).any (·.1) = false := by rfl)
    (hX : XEq P w K mg base X := by exact ⟨rfl, rfl, rfl, rfl, rfl⟩) :
    E2 X kr (.Call (.Name x p) (a :: es) [] pos) (mCal ps.length f m) := by
  obtain ⟨rfl, rfl, rfl, rfl, rfl⟩ := hX
  obtain ⟨fa, fd, q, b, s, F, G, g, bi⟩ := c.ex
  refine ⟨pe_weak (pe_callG G (hA.trans hgd) hr hg g F.kp bi ha.pa hdb he hpl) fun σ H Q h => ?_⟩
  have h1 := tCall_go (E := E0) h
  have e : (fun vs H1 => Pr X.K kr ps.length f (vs ++ []) H1 Q E0) = fun vs H1 => Pr X.K kr ps.length f vs H1 Q E0 := by
    funext vs H1
    rw [List.append_nil]
  exact e ▸ h1
end
end TL
set_option Elab.async false
set_option linter.all false
set_option maxRecDepth 100000
set_option maxHeartbeats 4000000
namespace TL
open PySem PySem.Spec PyProof.Rows L2
/-! ### an own list is lent -/
def flatD : D → Bool
  | .none => true
  | .bool _ => true
  | .int _ => true
  | .str _ => true
  | _ => false
@[simp] theorem flatD_none : flatD .none = true := rfl
@[simp] theorem flatD_bool {b : Bool} : flatD (.bool b) = true := rfl
@[simp] theorem flatD_int {i : Int} : flatD (.int i) = true := rfl
@[simp] theorem flatD_str {x : Str} : flatD (.str x) = true := rfl
def mLend (i : Nat) (m : EM) : EM := fun τ n Q => ∃ xs, τ[i]? = some (some (.ow xs)) ∧ m (τ.set i (some (.d (.list xs)))) n fun d n' => flatD d = true ∧ Q d n'
section
variable {X : Cx} {a : Expr} {ma : EM}
theorem e_lend (i : Nat) (h : E2 X .fz a ma) : E2 X .fz a (mLend i ma) := by
  refine ⟨pe_weak h.pe fun σ H Q ⟨A, τ, n, F, P, eK, R, ⟨xs, e, hm⟩, hq⟩ => ?_⟩
  obtain ⟨F', s, R'⟩ := R.frz e
  refine ⟨A, _, n, F', _, eK, R', hm, fun d n' v H' F'' p a' r => ?_⟩
  refine hq d n' v H' F p.2 ⟨a'.keep, fun _ _ => rfl, fun c o z => ?_, a'.box⟩ ?_
  · have z1 := s c o z
    exact a'.sub c o ((a'.old c (by rw [R.same c o z]; exact fun z => nomatch z)).trans z1)
  · have r' : Dp X.K F'' v d := r
    show Dp X.K F v d
    have := p.1
    cases r' with
    | non => exact .non
    | bl b => exact .bl b
    | int i => exact .int i
    | str x => exact .str x
    | lst _ _ => cases this
    | tup _ _ => cases this
    | raw _ _ _ => cases this
    | pdc _ => cases this
    | exc _ _ _ => cases this
end
@[simp] theorem mLend_ap {i : Nat} {m : EM} {τ : Ev} {n : Nat} {Q : D → Nat → Prop} : mLend i m τ n Q ↔ ∃ xs, τ[i]? = some (some (.ow xs)) ∧ m (τ.set i (some (.d (.list xs)))) n fun d n' => flatD d = true ∧ Q d n' := Iff.rfl
@[simp] theorem sBox_ap {i : Nat} {m : SM} {E : En} {τ : Ev} {n : Nat} : sBox i m E τ n ↔ ∃ x y : Int, τ[i]? = some (some (.ow [.int x, .int y, .int 0])) ∧ 0 ≤ x ∧ (0 ≤ y ∧ y < 2 ^ 62) ∧ plainE (τ.set i none) = true ∧
  m { nx := fun τ' _ => E.nx (clrB τ') n, rt := fun d _ => E.rt d n, bk := fun τ' _ => E.bk (clrB τ') n, ct := fun τ' _ => E.ct (clrB τ') n, xx := fun τ' x _ => E.xx (clrB τ') x n } (τ.set i (some .box)) 0 := Iff.rfl
/-! ### a op b op c -/
def mCh (f g : Op2) (a b c : EM) : EM := fun τ n Q => a τ n fun x n1 => b τ n1 fun y n2 => f x y fun z => ∃ k, z = .bool k ∧ if k = true then c τ n2 fun w n3 => g y w fun d => Q d n3 else Q (.bool false) n2
section
variable {X : Cx} {a b c : Expr} {ma mb mc : EM} {pos : Pos}
theorem chain_go {K : PySem.W.Frag} {f g : Op2} {r r' : R2} (hf : Does2 K .fz f r) (hg : Does2 K .fz g r') {σ : L2.St} {H : Hp} {Q : VK} (h : tE K .fz (mCh f g ma mb mc) σ H Q) : tChain r r' (tE K .bw ma) (tE K .bw mb) (tE K .bw mc) σ H Q := by
  obtain ⟨A, τ, n, F, P, eK, R, hm, hq⟩ := h
  refine tE_run eK R hm fun x n1 v1 H1 F1 p1 a1 r1 => ?_
  refine tE_run eK (R.step a1) p1 fun y n2 v2 H2 F2 p2 a2 r2 => ?_
  have a12 := a1.trans a2
  have R2 := R.step a12
  refine hf H2 F2 v1 v2 x y _ _ R2.same (bw_adv (H0 := H2) r1 a2 (R.step a1).same (R.step a1).box) r2 p2 fun d v H3 F3 p3 a3 r3 => ?_
  obtain ⟨k, rfl, p3⟩ := p3
  have r3' : Dp K F3 v (.bool k) := r3
  cases r3'
  refine ⟨k, rfl, ?_⟩
  have a23 := a3.adv R2.box
  have R3 := R2.step a23
  cases k with
  | false => exact hq _ n2 _ H3 F3 p3 (a12.trans a23) (.bl false)
  | true =>
    rw [if_pos rfl]
    refine tE_run eK R3 p3 fun w n3 v4 H4 F4 p4 a4 r4 => ?_
    refine hg H4 F4 v2 v4 y w _ _ (R3.step a4).same (bw_adv (H0 := H4) r2 (a23.trans a4) R2.same R2.box) r4 p4 fun d v H5 F5 p5 a5 r5 => ?_
    exact hq d n3 v H5 F5 p5 ((a12.trans a23).trans (a4.trans (a5.adv (R3.step a4).box))) r5
theorem e_ch {op op' : CmpOp} {r r' : R2} {f g : Op2} (ho : OpR X (compareOp op) r) (ho' : OpR X (compareOp op') r') (hf : Does2 X.K .fz f r) (hg : Does2 X.K .fz g r') (ha : E2 X .bw a ma) (hb : E2 X .bw b mb) (hc : E2 X .bw c mc)
    (hm : lastMarks [op, op'] [b, c] = false) : E2 X .fz (.Compare a [op, op'] [b, c] pos) (mCh f g ma mb mc) :=
  ⟨pe_weak (pe_chain ho ho' ha.pe hb.pe hc.pe hm) fun _ _ _ h => chain_go hf hg h⟩
theorem t_ch {op op' : CmpOp} {r r' : R2} {f g : Op2} (ho : OpR X (compareOp op) r) (ho' : OpR X (compareOp op') r') (hf : Does2 X.K .fz f r) (hg : Does2 X.K .fz g r') (ha : E2 X .bw a ma) (hb : E2 X .bw b mb) (hc : E2 X .bw c mc)
    (hm : lastMarks [op, op'] [b, c] = false) : T2 X (.Compare a [op, op'] [b, c] pos) (mT (mCh f g ma mb mc)) :=
  ⟨pt_weak (pt_chain ho ho' ha.pe hb.pe hc.pe hm) fun _ _ _ h => chain_go hf hg (tT_mT h)⟩
theorem e_chLtLt (ha : E2 X .bw a ma) (hb : E2 X .bw b mb) (hc : E2 X .bw c mc) (hm : lastMarks [.Lt, .Lt] [b, c] = false := by with_unfolding_all rfl) : E2 X .fz (.Compare a [.Lt, .Lt] [b, c] pos) (mCh dLt dLt ma mb mc) := e_ch op_lt op_lt (does_I0 fun _ _ _ => .bl _) (does_I0 fun _ _ _ => .bl _) ha hb hc hm
theorem t_chLtLt (ha : E2 X .bw a ma) (hb : E2 X .bw b mb) (hc : E2 X .bw c mc) (hm : lastMarks [.Lt, .Lt] [b, c] = false := by with_unfolding_all rfl) : T2 X (.Compare a [.Lt, .Lt] [b, c] pos) (mT (mCh dLt dLt ma mb mc)) := t_ch op_lt op_lt (does_I0 fun _ _ _ => .bl _) (does_I0 fun _ _ _ => .bl _) ha hb hc hm
theorem e_chLtLe (ha : E2 X .bw a ma) (hb : E2 X .bw b mb) (hc : E2 X .bw c mc) (hm : lastMarks [.Lt, .LtE] [b, c] = false := by with_unfolding_all rfl) : E2 X .fz (.Compare a [.Lt, .LtE] [b, c] pos) (mCh dLt dLe ma mb mc) := e_ch op_lt op_le (does_I0 fun _ _ _ => .bl _) (does_I0 fun _ _ _ => .bl _) ha hb hc hm
theorem t_chLtLe (ha : E2 X .bw a ma) (hb : E2 X .bw b mb) (hc : E2 X .bw c mc) (hm : lastMarks [.Lt, .LtE] [b, c] = false := by with_unfolding_all rfl) : T2 X (.Compare a [.Lt, .LtE] [b, c] pos) (mT (mCh dLt dLe ma mb mc)) := t_ch op_lt op_le (does_I0 fun _ _ _ => .bl _) (does_I0 fun _ _ _ => .bl _) ha hb hc hm
theorem e_chLeLt (ha : E2 X .bw a ma) (hb : E2 X .bw b mb) (hc : E2 X .bw c mc) (hm : lastMarks [.LtE, .Lt] [b, c] = false := by with_unfolding_all rfl) : E2 X .fz (.Compare a [.LtE, .Lt] [b, c] pos) (mCh dLe dLt ma mb mc) := e_ch op_le op_lt (does_I0 fun _ _ _ => .bl _) (does_I0 fun _ _ _ => .bl _) ha hb hc hm
theorem t_chLeLt (ha : E2 X .bw a ma) (hb : E2 X .bw b mb) (hc : E2 X .bw c mc) (hm : lastMarks [.LtE, .Lt] [b, c] = false := by with_unfolding_all rfl) : T2 X (.Compare a [.LtE, .Lt] [b, c] pos) (mT (mCh dLe dLt ma mb mc)) := t_ch op_le op_lt (does_I0 fun _ _ _ => .bl _) (does_I0 fun _ _ _ => .bl _) ha hb hc hm
theorem e_chLeLe (ha : E2 X .bw a ma) (hb : E2 X .bw b mb) (hc : E2 X .bw c mc) (hm : lastMarks [.LtE, .LtE] [b, c] = false := by with_unfolding_all rfl) : E2 X .fz (.Compare a [.LtE, .LtE] [b, c] pos) (mCh dLe dLe ma mb mc) := e_ch op_le op_le (does_I0 fun _ _ _ => .bl _) (does_I0 fun _ _ _ => .bl _) ha hb hc hm
theorem t_chLeLe (ha : E2 X .bw a ma) (hb : E2 X .bw b mb) (hc : E2 X .bw c mc) (hm : lastMarks [.LtE, .LtE] [b, c] = false := by with_unfolding_all rfl) : T2 X (.Compare a [.LtE, .LtE] [b, c] pos) (mT (mCh dLe dLe ma mb mc)) := t_ch op_le op_le (does_I0 fun _ _ _ => .bl _) (does_I0 fun _ _ _ => .bl _) ha hb hc hm
end
@[simp] theorem mCh_ap {f g : Op2} {a b c : EM} {τ : Ev} {n : Nat} {Q : D → Nat → Prop} : mCh f g a b c τ n Q ↔ a τ n fun x n1 => b τ n1 fun y n2 => f x y fun z => ∃ k, z = .bool k ∧ if k = true then c τ n2 fun w n3 => g y w fun d => Q d n3 else Q (.bool false) n2 := Iff.rfl
end TL
set_option Elab.async false
set_option linter.all false
set_option maxRecDepth 100000
set_option maxHeartbeats 4000000
namespace TL
open PySem PySem.Spec PyProof.Rows L2
/-! ### methods of a tuple; index -/
section
variable {X : Cx} {pins : List (Addr × Obj)} {σ : L2.St} {H : Hp} {s : Shared}
theorem plT_is {p : Addr} {xs : List V} (I : Inv X pins σ H s) (h : PlT X.K H p xs) : s.TypeIs (.ref p) "tuple" ∧ ∃ ob, s.heap.get? p = some ob ∧ ob.dict = none := by
  rcases h with ⟨o, e, d⟩ | ⟨o, its, n, e1, e2, d, _⟩
  · obtain ⟨g, _, us, _, ⟨o', g', c, _⟩⟩ := I.hok p _ e
    exact ⟨⟨o', g', c⟩, o, g, d⟩
  · exact ⟨⟨o, I.kIn p o e1, e2⟩, o, I.kIn p o e1, d⟩
variable {o e : Expr} {es : List Expr} {to : TE} {t : TA} {name : Str} {apos cpos : Pos} {id : String} {r : V → List V → Hp → VK → Prop}
def tBMT (K : PySem.W.Frag) (r : V → List V → Hp → VK → Prop) (to : TE) (t : TA) : TE := fun σ H Q => to σ H fun x H1 => (∃ p xs, x = .ref p ∧ PlT K H1 p xs) ∧ t σ H1 fun xs H2 => r x xs H2 Q
theorem pe_bmT (slot : Slot "tuple" name id) (hty : typeOf (.builtin id) = pure (.type "method_descriptor")) (hm : MtR X id r) (ho : PE X o to) (ha : PA X (e :: es) t)
    (hbase : attributeBase o name X.env (eval o X.env) = eval o X.env := by rfl)
    (hfew : ((backTo cpos (starEach (e :: es) X.env)).all (fun x => !x.1) && (backToKw cpos (keywordEach [] X.env)).all (fun x => x.1.isSome)
      && decide ((e :: es).length + ([] : List Keyword).length + (if ([] : List Keyword).isEmpty then 0 else 1) < 30)) = true := by rfl)
    (hline : (apos.endLine == cpos.line) = true := by rfl) (hs : starEach (e :: es) X.env = (false, eval e X.env) :: starEach es X.env := by rfl) (hplain : (backTo cpos (starEach es X.env)).any (·.1) = false := by rfl) :
    PE X (.Call (.Attribute o name apos) (e :: es) [] cpos) (tBMT X.K r to t) := by
  refine ⟨fun pins s σ H Q I h => ?_⟩
  refine wpAny_Call_method_late hbase hfew hline rfl (thn (ho.run pins s σ H _ I h) fun v s1 ⟨x, H1, I1, r1, ⟨p, xs, ex, ty⟩, q1⟩ => ?_)
  subst ex
  obtain rfl : v = Value.ref p := r1
  obtain ⟨h1, h2⟩ := plT_is I1 ty
  refine ⟨"tuple", id, PySem.F.plainAttrs_tuple, slot, hty, h1, (fun a ea => by cases ea; exact h2), ?_⟩
  have hA := ha.run cpos pins s1 σ H1 _ I1 q1
  rw [hs] at hA ⊢
  refine Calls.callWith_builtin (by show (false || (backTo cpos (starEach es X.env)).any (·.1)) = false; rw [hplain] <;> rfl) (Calls.evalArgs_plain ?_)
  exact thn hA fun us s2 ⟨vs, H2, I2, r2, q2⟩ => hm pins s2 σ H2 (.ref p) vs (.ref p) us Q I2 rfl r2 q2
def rIndexT (K : PySem.W.Frag) : V → List V → Hp → VK → Prop := fun x xs H Q => ∃ (a : Addr) (y : V) (d : PyData) (ds : List PyData) (j : Nat) (z : PyData), x = V.ref a ∧ xs = [y] ∧ L2.Dp K H (V.ref a) (.tuple ds) ∧ L2.Dp K H y d ∧
  SeqAt.shaped (.tuple ds) = true ∧ SeqAt.shaped d = true ∧ ds[j]? = some z ∧ PyData.eqv z d = true ∧ (∀ (m : Nat) (z' : PyData), m < j → ds[m]? = some z' → PyData.eqv z' d = false) ∧ Q (.int (j : Nat)) H
theorem layAll_tup {ds : List PyData} (h : SeqAt.shaped (.tuple ds) = true) : PyData.canLayAll0 ds = true ∧ PyData.depthAll ds ≤ 64 := by
  unfold SeqAt.shaped at h
  simp [PyData.canLay0, PyData.depth] at h
  exact ⟨h.1, by omega⟩
theorem mt_indexT (hu : X.A.units + 65 < cLine) : MtR X "tuple.index" (rIndexT X.K) := by
  intro pins s σ H x xs v us Q I rx rxs h
  obtain ⟨a, y, d, ds, j, z, rfl, rfl, hl, hy, sl, sd, hz, hzj, hno, q⟩ := h
  cases rx
  cases rxs with
  | cons ry rt =>
    rename_i uy ut
    cases rt
    obtain ⟨bs, r1⟩ := L2.Dp.reads I d y uy hy ry
    obtain ⟨hxs, hdep⟩ := layAll_tup sl
    have hroom : X.A.units + 1 + min (PyData.depthAll ds) d.depth < cLine := by omega
    cases hl with
    | tup hs ha =>
      obtain ⟨its, rv, ⟨⟨cls, dd, data, sls⟩, ho, hc, n, hdt⟩, hlen⟩ := I.tuple hs
      simp only at hc hdt
      subst hc hdt
      obtain ⟨as, h4⟩ := L2.Dp.readsAll I ds _ its ha rv
      have hn : its.length = ds.length := SeqAt.ReadsAll.length ds its as h4
      have hmap : its.map (SeqAt.readOf s.heap) = ds := SeqAt.readsAll_map ds its as hxs h4
      obtain ⟨hjd, _⟩ := List.getElem?_eq_some_iff.mp hz
      have hjl : j < its.length := by omega
      have hj : j < its.toArray.size := by simpa using hjl
      have at_ : ∀ (m : Nat) (hm : m < its.toArray.size) (z' : PyData), ds[m]? = some z' → SeqAt.readOf s.heap its.toArray[m] = z' := by
        intro m hm z' hz'
        have hml : m < its.length := by simpa using hm
        rw [← hmap, List.getElem?_map, List.getElem?_eq_getElem hml] at hz'
        have e1 : SeqAt.readOf s.heap its[m] = z' := Option.some.inj hz'
        simpa using e1
      refine call_meets PySem.F.slot_tuple_index ⟨_, ho, rfl⟩ PySem.F.entry_tuple_index (PySem.F.args_tuple_index_2 _ _)
        (TI.tuple_indexAt a its.toArray n dd sls uy (fun u => PyData.eqv (SeqAt.readOf s.heap u) d) j hj ?_ ?_) ⟨ho, SeqAt.items_eqAt (vs := its.toArray) (show ReadsAll s.heap its.toArray.toList ds as from h4) r1 hxs (SeqAt.canLay_of_shaped sd) hroom, ⟨.int (j : Nat), H, I.tok _, ⟨_, rfl⟩, q⟩⟩
      · show PyData.eqv (SeqAt.readOf s.heap its.toArray[j]) d = true
        rw [at_ j hj z hz]
        exact hzj
      · intro m hm hmj
        have hmd : m < ds.length := by
          have : m < its.length := by simpa using hm
          omega
        show PyData.eqv (SeqAt.readOf s.heap its.toArray[m]) d = false
        rw [at_ m hm _ (List.getElem?_eq_getElem hmd)]
        exact hno m _ hmj (List.getElem?_eq_getElem hmd)
end
def mIndexT (a b : EM) : EM := fun τ n Q => a τ n fun x n1 => ∃ ds, x = .tuple ds ∧ b τ n1 fun y n2 => ∃ j z, SeqAt.shaped (.tuple ds) = true ∧ SeqAt.shaped y = true ∧ ds[j]? = some z ∧ PyData.eqv z y = true ∧ (∀ (m : Nat) (z' : D), m < j → ds[m]? = some z' → PyData.eqv z' y = false) ∧ Q (.int (j : Nat)) n2
section
variable {X : Cx} {a b : Expr} {ma mb : EM} {apos cpos : Pos}
theorem e_indexT {k : Nat} (hr : Room k X.A) (ha : E2 X .fz a ma) (hb : E2 X .fz b mb) (hbase : attributeBase a "index" X.env (eval a X.env) = eval a X.env := by rfl)
    (hfew : ((backTo cpos (starEach [b] X.env)).all (fun x => !x.1) && (backToKw cpos (keywordEach [] X.env)).all (fun x => x.1.isSome)
      && decide (([b] : List Expr).length + ([] : List Keyword).length + (if ([] : List Keyword).isEmpty then 0 else 1) < 30)) = true := by rfl)
    (hline : (apos.endLine == cpos.line) = true := by rfl) (hs : starEach [b] X.env = (false, eval b X.env) :: starEach [] X.env := by rfl) (hplain : (backTo cpos (starEach [] X.env)).any (·.1) = false := by rfl) :
    E2 X .fz (.Call (.Attribute a "index" apos) [b] [] cpos) (mIndexT ma mb) := by
  refine ⟨pe_weak (pe_bmT PySem.F.slot_tuple_index PySem.F.type_tuple_index (mt_indexT (Room.units65 hr)) ha.pe (pa_cons hb.pe pa_nil hs) hbase hfew hline hs hplain) fun σ H Q ⟨A, τ, n, F, P, eK, R, hm, hq⟩ => tE_run eK R hm ?_⟩
  rintro x n1 v1 H1 F1 ⟨ds, rfl, p1⟩ a1 r1
  have r1' : Dp X.K F1 v1 (.tuple ds) := r1
  cases id r1' with
  | tup hs ha =>
    refine ⟨⟨_, _, rfl, hs.mono a1.sub⟩, tE_run eK (R.step a1) p1 ?_⟩
    rintro y n2 v2 H2 F2 ⟨j, z, s1, s2, e1, e2, e3, p2⟩ a2 r2
    have a12 := a1.trans a2
    have r2' : Dp X.K F2 v2 y := r2
    have s12 := a2.fro a1.sub
    refine ⟨_, v2, y, ds, j, z, rfl, rfl, ?_, ?_, s1, s2, e1, e2, e3, hq _ n2 _ H2 F2 p2 a12 (.int _)⟩
    · exact dp_l2 _ _ (lay0_shaped s1) (dp_mono (s12.trans a2.sub) _ _ r1')
    · exact dp_l2 _ _ (lay0_shaped s2) (dp_mono a2.sub _ _ r2')
end
@[simp] theorem mIndexT_ap {a b : EM} {τ : Ev} {n : Nat} {Q : D → Nat → Prop} : mIndexT a b τ n Q ↔ a τ n fun x n1 => ∃ ds, x = .tuple ds ∧ b τ n1 fun y n2 => ∃ j z, SeqAt.shaped (.tuple ds) = true ∧ SeqAt.shaped y = true ∧ ds[j]? = some z ∧ PyData.eqv z y = true ∧ (∀ (m : Nat) (z' : D), m < j → ds[m]? = some z' → PyData.eqv z' y = false) ∧ Q (.int (j : Nat)) n2 := Iff.rfl
end TL
set_option Elab.async false
set_option linter.all false
set_option maxRecDepth 100000
set_option maxHeartbeats 4000000
namespace TL
open PySem PySem.Spec PyProof.Rows L2
/-! ### xs[::-1] -/
def dRevL : Op1 := fun x P => ∃ xs, x = .list xs ∧ P (.list xs.reverse)
@[simp] theorem dRevL_ap {xs : List D} {P : D → Prop} : dRevL (.list xs) P ↔ P (.list xs.reverse) := by simp [dRevL]
section
variable {X : Cx} {a : Expr} {ma : EM} {pos : Pos}
theorem e_revL {k : Nat} {p1 p2 p3 : Pos} (ha : E2 X .bw a ma) : E2 X .nw (.Subscript a (.Slice none none (some (.UnaryOp .USub (.Constant (.int 1) k p1) p2)) p3) pos) (m1 dRevL ma) := by
  refine ⟨pe_weak (pe_revL ha.pe) fun σ H Q ⟨A, τ, n, F, P, eK, R, hm, hq⟩ => tE_run eK R hm ?_⟩
  rintro x n1 v1 H1 F1 ⟨xs, rfl, p1⟩ a1 r1
  obtain ⟨q, vs, rfl, h1, h2⟩ := bw_list a1.sub r1
  refine ⟨q, vs, rfl, h1, fun a hp => ?_⟩
  obtain ⟨b1, b2⟩ := new_nw a1.sub hp (dpAll_reverse h2)
  exact hq _ n1 _ _ _ p1 (a1.trans (b1.adv (R.step a1).box)) (b2.h0 fun c h => a1.none_back c h)
end
end TL
set_option Elab.async false
set_option linter.all false
set_option maxRecDepth 100000
set_option maxHeartbeats 4000000
namespace TL
open PySem PySem.Spec PyProof.Rows L2
/-! ### list.index -/
def mIndexL (a b : EM) : EM := fun τ n Q => a τ n fun x n1 => ∃ ds, x = .list ds ∧ b τ n1 fun y n2 => ∃ (j : Nat) (z : D), SeqAt.shaped (.list ds) = true ∧ SeqAt.shaped y = true ∧ ds[j]? = some z ∧ PyData.eqv z y = true ∧ (∀ (m : Nat) (z' : D), m < j → ds[m]? = some z' → PyData.eqv z' y = false) ∧ Q (.int (j : Nat)) n2
@[simp] theorem mIndexL_ap {a b : EM} {τ : Ev} {n : Nat} {Q : D → Nat → Prop} : mIndexL a b τ n Q ↔ a τ n fun x n1 => ∃ ds, x = .list ds ∧ b τ n1 fun y n2 => ∃ (j : Nat) (z : D), SeqAt.shaped (.list ds) = true ∧ SeqAt.shaped y = true ∧ ds[j]? = some z ∧ PyData.eqv z y = true ∧ (∀ (m : Nat) (z' : D), m < j → ds[m]? = some z' → PyData.eqv z' y = false) ∧ Q (.int (j : Nat)) n2 := Iff.rfl
section
variable {X : Cx} {a b : Expr} {ma mb : EM} {apos cpos : Pos}
theorem e_index {k : Nat} (hr : Room k X.A) (ha : E2 X .bw a ma) (hb : E2 X .bw b mb) (hbase : attributeBase a "index" X.env (eval a X.env) = eval a X.env := by rfl)
    (hfew : ((backTo cpos (starEach [b] X.env)).all (fun x => !x.1) && (backToKw cpos (keywordEach [] X.env)).all (fun x => x.1.isSome)
      && decide (([b] : List Expr).length + ([] : List Keyword).length + (if ([] : List Keyword).isEmpty then 0 else 1) < 30)) = true := by rfl)
    (hline : (apos.endLine == cpos.line) = true := by rfl) (hs : starEach [b] X.env = (false, eval b X.env) :: starEach [] X.env := by rfl) (hplain : (backTo cpos (starEach [] X.env)).any (·.1) = false := by rfl) :
    E2 X .fz (.Call (.Attribute a "index" apos) [b] [] cpos) (mIndexL ma mb) := by
  refine ⟨pe_weak (pe_bm PySem.F.plainAttrs_list PySem.F.slot_list_index PySem.F.type_list_index (mt_indexD (Room.units65 hr)) ha.pe (pa_cons hb.pe pa_nil hs) hbase hfew hline hs hplain) fun σ H Q ⟨A, τ, n, F, P, eK, R, hm, hq⟩ => tE_run eK R hm ?_⟩
  rintro x n1 v1 H1 F1 ⟨ds, rfl, p1⟩ a1 r1
  obtain ⟨q, vs, rfl, h1, h2⟩ := bw_list a1.sub r1
  refine ⟨.inl ⟨rfl, vs, h1⟩, tE_run eK (R.step a1) p1 ?_⟩
  rintro y n2 v2 H2 F2 ⟨j, z, s1, s2, e1, e2, e3, p2⟩ a2 r2
  have a12 := a1.trans a2
  have r1' := bw_adv (H0 := H2) r1 a2 (R.step a1).same (R.step a1).box
  have s12 := a12.sub
  exact ⟨q, v2, y, ds, j, z, rfl, rfl, bw_l2 s12 (lay0_shaped s1) r1', bw_l2 s12 (lay0_shaped s2) r2, s1, s2, e1, e2, e3, hq _ n2 _ H2 F2 p2 a12 (.int _)⟩
end
end TL
set_option Elab.async false
set_option linter.all false
set_option maxRecDepth 100000
set_option maxHeartbeats 4000000
namespace TL
open PySem PySem.Spec PyProof.Rows L2
/-! ### sorted(set(xs)), a list of ints -/
section
variable {P : Program} {w : World} {A : Around} {E : Value → Shared → Prop} {s : Shared}
abbrev sO (w : World) : Obj := { cls := .type "set", dict := none, data := .set #[] 0 (.fresh 0 0 (!w.params.followText "set-order")) }
set_option maxHeartbeats 3200000 in
theorem set_ofL {q : Addr} {its : Array Value} (ks : List Int) {Q : Value → Shared → Prop} (nohd : A.handled = none) (hq : s.heap.IsList q its) (ia : IntsAre its.toList ks) (few : ks.length + 1 < scanBound)
    (fin : ∀ (h' : Heap) (tk c : Nat), SetR w h' s.heap.objs.size (fun j => decide (j ∈ ks)) c → c ≤ ks.length → (∀ b o, s.heap.get? b = some o → h'.get? b = some o) → Q (.ref s.heap.objs.size) { s with heap := h', toks := tk }) :
    wpAny (model P w) A (call (.type "set") [.ref q]) Q E s := by
  have isz : its.size = ks.length := by
    have z := IntsAre.length ia
    rwa [Array.length_toList] at z
  obtain ⟨c0, tl0, mro0⟩ := F.called_set.mro
  have made0 := F.called_set.made
  have sub0 := F.called_set.sub
  refine wpAny_call (codeAny_of_tree (show wpAny _ _ (callAny (.type "set") _) _ _ _ from ?_))
  refine wpAny_pure ⟨Code.quiet_builtin _ (by decide +kernel), codeAny_builtin F.entry_type_call ?_⟩
  rw [Around.under_plain (weight_type_call_type "set" [.ref q] []) rfl]
  have nT := F.called_set.notType
  have cC := F.called_set.canCreate
  have tC := F.typeCall_set_1 (.ref q)
  repeat any_goals first | assumption | wp_step
  refine codeAny_mono (code_set_led1 (.ref q) (E := E) (Q₁ := fun ob s1 => ob = .ref s.heap.objs.size ∧ s1 = { s with heap := s.heap.push (sO w) }) ⟨rfl, rfl⟩) fun r1 s1 e1 => ?_
  match r1, e1 with
  | .error e, e1 => exact e1
  | .ok (.ret ob), e1 =>
    obtain ⟨rfl, rfl⟩ := e1
    have gS : (s.heap.push (sO w)).get? s.heap.objs.size = some (sO w) := Heap.get?_push_size _ rfl
    have tS : Shared.TypeIs { s with heap := s.heap.push (sO w) } (.ref s.heap.objs.size) "set" := ⟨_, gS, rfl⟩
    have li := F.called_set.init.lookup
    have bi := F.called_set.init.bind (.ref s.heap.objs.size)
    repeat any_goals first | assumption | wp_step
    refine codeAny_mono (codeAny_call_builtin (R := wants (fun r s2 => r = .none ∧ ∃ h' tk c, s2 = { s with heap := h', toks := tk } ∧ SetR w h' s.heap.objs.size (fun j => decide (j ∈ ks)) c ∧ c ≤ ks.length ∧ (∀ b o, s.heap.get? b = some o → h'.get? b = some o)) E)
      F.called_set.init.plain F.entry_set_init (check_set_init_1 tS ?_)) fun r2 s2 e2 => ?_
    · obtain ⟨⟨oc, od, odt, osl⟩, hoq, e3, n0, e4⟩ := hq
      simp only at e3 e4
      subst e3 e4
      have gq : (s.heap.push (sO w)).get? q = some { cls := .type "list", dict := od, data := .seq its n0, slots := osl } := Heap.get?_push_of_some _ hoq
      have sb1 := F.sub_list_set
      have sb2 := F.sub_list_frozenset
      have ne1 : (Value.type "list" == Value.type "dict") = false := by decide
      have lq : (s.heap.push (sO w)).IsList q its := ⟨_, gq, rfl, n0, rfl⟩
      unfold Builtin.«set.__init__» noKeywords Builtin.Frozenset.updateFrom
      generalize ePI : pyIter = PI
      wp_walk
      subst ePI
      refine wpAny_pyIter_list lq (wpAny_bind (wpAny_runValue ?_))
      have lt1 : q < s.heap.objs.size := Heap.lt_size hoq
      have nh3 : A.in1.in1.in1.handled = none := by simp [nohd]
      have neq1 : q ≠ (s.heap.push (sO w)).objs.size := by
        rw [Heap.size_push]
        exact Nat.ne_of_lt (Nat.lt_succ_of_lt lt1)
      have out1 : s.heap.objs.size ∉ [(s.heap.push (sO w)).objs.size, q] := by
        rw [Heap.size_push]
        intro z
        rcases List.mem_cons.mp z with z | z
        · exact absurd z (Nat.ne_of_lt (Nat.lt_succ_self _))
        · exact absurd (List.mem_singleton.mp z) (Nat.ne_of_gt lt1)
      have vals1 : ∀ (i : Nat) (v : Value), its[i]? = some v → ∃ k t, ks[i]? = some k ∧ v = .int k t := fun i v hv => by
        have li : i < ks.length := by rw [← isz]; exact (Array.getElem?_eq_some_iff.mp hv).1
        obtain ⟨t, e⟩ := IntsAre.int_at ia i v (by rw [Array.getElem?_toList]; exact hv)
        exact ⟨ks[i], t, List.getElem?_eq_getElem li, by rw [e, List.getD_eq_getElem?_getD, List.getElem?_eq_getElem li] <;> rfl⟩
      refine set_update_ints ((Walks.list nh3 _ q neq1 its).toS) s.heap.objs.size out1 ks isz few vals1 (its.size - 0) 0 _ (by omega) (Nat.zero_le _) ⟨⟨_, Heap.get?_push_size _ rfl, rfl, rfl⟩, lq.push _⟩ ⟨0, Nat.le_refl 0, setR_new_at (Heap.get?_push_of_some _ gS)⟩ fun s3 c3 mv cl R3 => ?_
      obtain ⟨h3, g3, d3, k3, o3⟩ := s3
      obtain rfl : g3 = s.gens := mv.gens
      obtain rfl : d3 = s.drawn := mv.drawn
      obtain rfl : o3 = s.os := mv.os
      refine wpAny_pure (show wpAny _ _ (ret Value.none) _ _ _ from ?_)
      refine wpAny_pure ⟨rfl, h3, k3, c3, rfl, R3, by rw [← isz]; exact cl, fun b o e => ?_⟩
      have b0 : b < s.heap.objs.size := Heap.lt_size e
      refine mv.heap b o ?_ (Heap.get?_push_of_some _ (Heap.get?_push_of_some _ e))
      rw [Heap.size_push]
      intro z
      rcases List.mem_cons.mp z with z | z
      · exact absurd z (Nat.ne_of_lt b0)
      · exact absurd (List.mem_singleton.mp z) (Nat.ne_of_lt (Nat.lt_succ_of_lt b0))
    · match r2, e2 with
      | .error e, e2 => exact e2
      | .ok (.ret r), e2 =>
        obtain ⟨rfl, h', tk, c', rfl, R3, cl, kp⟩ := e2
        repeat any_goals first | assumption | wp_step
        exact fin _ _ _ R3 cl kp
end
def rSetI (w : World) (K : PySem.W.Frag) : List V → Hp → VK → Prop := fun xs H Q => ∃ (l : Addr) (ks : List Int), xs = [V.ref l] ∧ SqL K H l (ks.map V.int) ∧ ks.length < 63 ∧ ∀ (a : Addr) (c : Nat), H a = none → c ≤ ks.length → Q (.ref a) (upd H a (SetO w a (fun j => decide (j ∈ ks)) c))
section
variable {X : Cx}
theorem cr_setI (hc : X.calm = true) : CallR X (.type "set") (rSetI X.w X.K) := by
  intro pins s σ H xs us Q I r h
  obtain ⟨l, ks, rfl, hl, few, q⟩ := h
  rw [Vals.ref1 r]
  obtain ⟨its, rv, pl, hz⟩ := I.list hl
  have hn : H s.heap.objs.size = none := I.hok.fresh (Nat.le_refl _)
  refine set_ofL (P := X.prog) (w := X.w) ks (I.ok.hd hc) pl.isList rv.ints (by unfold scanBound; omega) fun h' tk c R cl kp => ?_
  exact ⟨.ref s.heap.objs.size, upd H s.heap.objs.size (SetO X.w s.heap.objs.size (fun j => decide (j ∈ ks)) c), I.laid (t' := tk) kp (Nat.le_refl _) (setO_new R), rfl, q _ c hn cl⟩
variable {a : Expr} {ma : EM} {p p2 q pos : Pos}
/-- sorted(set(xs)): the members, rising, each once -/
def dSortSet : Op1 := fun x P => ∃ ks : List Int, x = .list (ks.map .int) ∧ ks.length < 63 ∧ ∀ ns : List Int, ns.Pairwise (· < ·) → (∀ k : Int, k ∈ ns ↔ k ∈ ks) → ns.length ≤ ks.length → P (.list (ns.map .int))
theorem e_sortSet (hc : X.calm = true) (ha : E2 X .bw a ma) (hg : Gl X "sorted") (hm : X.mg "sorted" = none) (hg2 : Gl X "set") (hm2 : X.mg "set" = none) (he : starEach [a] X.env = (false, eval a X.env) :: starEach [] X.env := by rfl) (hpl : (backTo q (starEach [] X.env)).any (·.1) = false := by rfl)
    (he2 : starEach [.Call (.Name "set" p2) [a] [] q] X.env = (false, eval (.Call (.Name "set" p2) [a] [] q) X.env) :: starEach [] X.env := by rfl) (hpl2 : (backTo pos (starEach [] X.env)).any (·.1) = false := by rfl) :
    E2 X .nw (.Call (.Name "sorted" p) [.Call (.Name "set" p2) [a] [] q] [] pos) (m1 dSortSet ma) := by
  refine ⟨pe_weak (pe_callB (cr_sortedSet hc) hg hm PyProof.Rows.boot_sorted (pa_cons (pe_callTy (cr_setI hc) hg2 hm2 PyProof.Rows.boot_set (pa_cons ha.pe pa_nil he) (by decide) (by decide) he hpl) pa_nil he2) (by decide) (by decide) he2 hpl2) fun σ H Q ⟨A, τ, n, F, P, eK, R, hm, hq⟩ => tE_run eK R hm ?_⟩
  rintro x n1 v1 H1 F1 ⟨ks, rfl, few, p1⟩ a1 r1
  obtain ⟨l, vs, rfl, h1, h2⟩ := bw_list a1.sub r1
  rw [dpAll_ints h2] at h1
  refine ⟨l, ks, rfl, h1, few, fun b c hb hc => ⟨b, _, c, rfl, upd_same, by omega, fun ns p s1 s2 s3 hp => ?_⟩⟩
  have b1 : PAdv H1 F1 (upd H1 b (SetO X.w b (fun j => decide (j ∈ ks)) c)) F1 := PAdv.new' a1.sub hb
  obtain ⟨b2, b3⟩ := new_nw b1.sub hp (ints_dpAll (K := X.K) (F := F1) ns)
  exact hq _ n1 _ _ _ (p1 ns s1 (fun k => by rw [s2, decide_eq_true_eq]) (by omega)) (a1.trans ((b1.trans b2).adv (R.step a1).box)) (b3.h0 fun c h => a1.none_back c (by
    cases e : H1 c with
    | none => rfl
    | some o => rw [b1.keep c o e] at h; cases h))
end
end TL
set_option Elab.async false
set_option linter.all false
set_option maxRecDepth 100000
set_option maxHeartbeats 4000000
namespace TL
open PySem PySem.Spec PyProof.Rows L2
/-! ### statements never reached; constants of the module -/
section
variable {X : Cx}
def sNo : SM := fun _ _ _ => False
theorem p_no {kr : Kd} {st : Stmt} : P2 X kr st sNo := ⟨fun _ _ => ⟨fun _ _ _ _ _ _ q => (let ⟨_, _, _, _, _, _, _, m, _⟩ := q; m.elim)⟩⟩
theorem e_cstS {x z : Str} {pos : Pos} (hg : Gl X x) (c : ∃ t, X.mg x = some (.str z t)) (hd : (x == ("__debug__" : Str)) = false := by decide) : E2 X .fz (.Name x pos) (mC (.str z)) := by
  obtain ⟨t, e⟩ := c
  exact e_c (pe_glob (v := .str z) hg e ⟨t, rfl⟩ hd) fun _ => .str z
theorem e_cstI {x : Str} {i : Int} {pos : Pos} (hg : Gl X x) (c : ∃ t, X.mg x = some (.int i t)) (hd : (x == ("__debug__" : Str)) = false := by decide) : E2 X .fz (.Name x pos) (mC (.int i)) := by
  obtain ⟨t, e⟩ := c
  exact e_c (pe_glob (v := .int i) hg e ⟨t, rfl⟩ hd) fun _ => .int i
end
end TL
set_option Elab.async false
set_option linter.all false
set_option maxRecDepth 100000
set_option maxHeartbeats 4000000
namespace TL
open PySem PySem.Spec PyProof.Rows L2
/-! ### zip(xs, ys, strict=True), each a list or a tuple -/
def ItB : Bool → Heap → Addr → Addr → Nat → Prop
  | true, h, it, l, i => h.IsTupleIter it l i
  | false, h, it, l, i => h.IsListIter it l i
def SqB : Bool → Heap → Addr → Array Value → Prop
  | true, h, l, xs => h.IsTuple l xs
  | false, h, l, xs => h.IsList l xs
theorem ItB.at {b : Bool} {h h' : Heap} {a l i} (x : ItB b h a l i) (e : ∀ o, h.get? a = some o → h'.get? a = some o) : ItB b h' a l i := by
  cases b with
  | true => exact Heap.IsTupleIter.at x e
  | false => exact Heap.IsListIter.at x e
theorem SqB.at {b : Bool} {h h' : Heap} {a xs} (x : SqB b h a xs) (e : ∀ o, h.get? a = some o → h'.get? a = some o) : SqB b h' a xs := by
  cases b with
  | true => exact Heap.IsTuple.at x e
  | false => exact Heap.IsList.at x e
theorem ItB.get {b : Bool} {h : Heap} {a l i} (x : ItB b h a l i) : ∃ o, h.get? a = some o ∧ ∀ v, o.data ≠ .cell v := by
  cases b with
  | true =>
    obtain ⟨o, e, _, d⟩ := x
    exact ⟨o, e, fun v q => by rw [d] at q; cases q⟩
  | false =>
    obtain ⟨o, e, _, d⟩ := x
    exact ⟨o, e, fun v q => by rw [d] at q; cases q⟩
section
variable {prog : Program} {w : World} {A : Around} {E : Value → Shared → Prop} {s : Shared}
theorem nextE_item {c : Bool} {it l : Addr} {i : Nat} {items : Array Value} {x : Value} {Q : Option Value → Shared → Prop} (hit : ItB c s.heap it l i) (hl : SqB c s.heap l items) (hx : items[i]? = some x)
    (hQ : ∀ h', ItB c h' it l (i + 1) → Heap.SameBut it s.heap h' → Q (some x) { s with heap := h' }) : wpAny (model prog w) A (Builtin.SmallTypes.nextOrEnd (.ref it)) Q E s := by
  unfold Builtin.SmallTypes.nextOrEnd
  refine wpAny_bind (wpAny_attempt ?_)
  cases c with
  | true => exact RZ.nextOf_tuple_item hit hl hx fun h' a b => wpAny_pure (hQ h' a b)
  | false => exact wpAny_nextOf_list_item hit hl hx fun h' a b => wpAny_pure (hQ h' a b)
theorem nextE_end {c : Bool} {it l : Addr} {i : Nat} {items : Array Value} {Q : Option Value → Shared → Prop} (hh : A.handled = none) (hit : ItB c s.heap it l i) (hl : SqB c s.heap l items) (hx : items[i]? = none)
    (hQ : ∀ h', Heap.ExtBut it s.heap h' → Q none { s with heap := h' }) : wpAny (model prog w) A (Builtin.SmallTypes.nextOrEnd (.ref it)) Q E s := by
  unfold Builtin.SmallTypes.nextOrEnd
  refine wpAny_bind (wpAny_attempt ?_)
  have key : ∀ h' e, Heap.ExtBut it s.heap h' → (∃ o, h'.get? e = some o ∧ o.cls = .type "StopIteration") → wpAny (model prog w) A (do if ← isInstance (.ref e) (.type "StopIteration") then pure none else throw (.ref e)) Q E { s with heap := h' } := fun h' e hk ⟨o, ho, hc⟩ => by
    refine wpAny_bind (wpAny_isInstance (T := "StopIteration") (b := true) ⟨o, ho, hc⟩ isSubtype_stop ?_)
    exact wpAny_pure (hQ h' hk)
  cases c with
  | true => exact RZ.nextOf_tuple_end hh hit hl hx key
  | false => exact wpAny_nextOf_list_end hh hit hl hx key
abbrev IsZipS (h : Heap) (z TI TO : Addr) (f0 : Value) : Prop :=
  h.get? z = some { cls := .type "zip", dict := none, data := .fields #[f0, .bool false, .bool true, .ref TI, .ref TO], slots := #[] }
theorem zipS_item {c1 c2 : Bool} {z TI TO i1 i2 l1 l2 : Addr} {k1 k2 : Nat} {xs ys : Array Value} {x y a b : Value} {Q : Value → Shared → Prop} (D : ZipApart z TI TO i1 i2 l1 l2)
    (hz : IsZipS s.heap z TI TO .none) (hTI : IsPair s.heap TI (.ref i1) (.ref i2)) (hTO : IsPair s.heap TO a b)
    (h1 : ItB c1 s.heap i1 l1 k1) (h2 : ItB c2 s.heap i2 l2 k2) (hl1 : SqB c1 s.heap l1 xs) (hl2 : SqB c2 s.heap l2 ys) (hx : xs[k1]? = some x) (hy : ys[k2]? = some y)
    (hQ : ∀ h', IsZipS h' z TI TO (rawInt s.heap.objs.size) → IsPair h' TO x y → ItB c1 h' i1 l1 (k1 + 1) → ItB c2 h' i2 l2 (k2 + 1) → IsPair h' s.heap.objs.size x y → h'.objs.size = s.heap.objs.size + 1 →
      (∀ c o, c ≠ z → c ≠ TO → c ≠ i1 → c ≠ i2 → s.heap.get? c = some o → h'.get? c = some o) → Q (.ref s.heap.objs.size) { s with heap := h' }) :
    wpAny (model prog w) A (Builtin.«zip.__next__» ⟨[.ref z], []⟩) (fun fin s' => ∃ v, fin = .done (.ret v) ∧ Q v s') E s := by
  show wpAny _ _ (field (.ref z) 2 >>= _) _ _ _
  refine wpAny_bind (wpAny_field hz rfl (x := .bool true) rfl ?_)
  show wpAny _ _ (field (.ref z) 3 >>= _) _ _ _
  refine wpAny_bind (wpAny_field hz rfl (x := .ref TI) rfl ?_)
  refine wpAny_bind (wpAny_seqItems hTI rfl ?_)
  show wpAny _ _ (Builtin.SmallTypes.ownedTupleIsFree (.ref z) >>= _) _ _ _
  refine wpAny_bind ?_
  unfold Builtin.SmallTypes.ownedTupleIsFree
  refine wpAny_bind (wpAny_field hz rfl (x := .none) rfl (wpAny_pure ?_))
  simp only [if_true]
  refine wpAny_bind (wpAny_rule ?_)
  refine wpAny_bind (wpAny_field hz rfl (x := .ref TO) rfl ?_)
  refine wpAny_bind (wpAny_setField_rec hz (by simp) fun h₁ hz₁ hs₁ => ?_)
  replace hz₁ : IsZipS h₁ z TI TO .ellipsis := hz₁
  refine wpAny_bind ?_
  simp only [List.zipIdx_cons, List.zipIdx_nil, List.forIn_cons, List.forIn_nil]
  refine wpAny_bind (wpAny_bind (wpAny_onRaise ?_))
  show wpAny _ _ (Builtin.SmallTypes.nextOrEnd (.ref i1)) _ _ _
  refine nextE_item (h1.at fun o e => hs₁.extBut _ o D.i1z e) (hl1.at fun o e => hs₁.extBut _ o D.l1z e) hx fun h₂ h1₂ hs₂ => ?_
  have hTO₂ : IsPair h₂ TO a b := hs₂.extBut _ _ D.TOi1 (hs₁.extBut _ _ D.TOz hTO)
  refine wpAny_bind (wpAny_seqItems hTO₂ rfl ?_)
  refine wpAny_bind (wpAny_updateSeq_pair hTO₂ fun h₃ hTO₃ hs₃ => ?_)
  replace hTO₃ : IsPair h₃ TO x b := hTO₃
  refine wpAny_bind (wpAny_letGo (wpAny_pure ?_))
  refine wpAny_bind (wpAny_bind (wpAny_onRaise ?_))
  show wpAny _ _ (Builtin.SmallTypes.nextOrEnd (.ref i2)) _ _ _
  refine nextE_item (h2.at fun o e => hs₃.extBut _ o D.TOi2.symm (hs₂.extBut _ o D.i12.symm (hs₁.extBut _ o D.i2z e)))
    (hl2.at fun o e => hs₃.extBut _ o D.l2TO (hs₂.extBut _ o D.l2i1 (hs₁.extBut _ o D.l2z e))) hy fun h₄ h2₄ hs₄ => ?_
  have hTO₄ : IsPair h₄ TO x b := hs₄.extBut _ _ D.TOi2 hTO₃
  refine wpAny_bind (wpAny_seqItems hTO₄ rfl ?_)
  refine wpAny_bind (wpAny_updateSeq_pair hTO₄ fun h₅ hTO₅ hs₅ => ?_)
  replace hTO₅ : IsPair h₅ TO x y := hTO₅
  refine wpAny_bind (wpAny_letGo (wpAny_pure (wpAny_pure ?_)))
  refine wpAny_bind (wpAny_seqItems hTO₅ rfl ?_)
  refine wpAny_bind (wpAny_newTuple ?_)
  have hsz : h₅.objs.size = s.heap.objs.size := by rw [hs₅.1, hs₄.1, hs₃.1, hs₂.1, hs₁.1]
  have hz₅ : IsZipS h₅ z TI TO .ellipsis := hs₅.extBut _ _ D.TOz.symm (hs₄.extBut _ _ D.i2z.symm (hs₃.extBut _ _ D.TOz.symm (hs₂.extBut _ _ D.i1z.symm hz₁)))
  have hk₅ : ∀ c o, c ≠ z → c ≠ TO → c ≠ i1 → c ≠ i2 → s.heap.get? c = some o → h₅.get? c = some o := fun c o c1 c2 c3 c4 e =>
    hs₅.extBut _ _ c2 (hs₄.extBut _ _ c4 (hs₃.extBut _ _ c2 (hs₂.extBut _ _ c3 (hs₁.extBut _ _ c1 e))))
  have h1₅ : ItB c1 h₅ i1 l1 (k1 + 1) := h1₂.at fun o e => hs₅.extBut _ o D.TOi1.symm (hs₄.extBut _ o D.i12 (hs₃.extBut _ o D.TOi1.symm e))
  have h2₅ : ItB c2 h₅ i2 l2 (k2 + 1) := h2₄.at fun o e => hs₅.extBut _ o D.TOi2.symm e
  have hzlt : z < h₅.objs.size := Heap.lt_size hz₅
  show wpAny _ _ (Builtin.SmallTypes.ownedTupleHandOut (.ref z) (.ref h₅.objs.size) >>= _) _ _ _
  refine wpAny_bind ?_
  unfold Builtin.SmallTypes.ownedTupleHandOut
  have hz₆ : IsZipS (h₅.push { cls := .type "tuple", data := .seq #[x, y] }) z TI TO .ellipsis := Heap.get?_push_of_some _ hz₅
  refine wpAny_bind (wpAny_setField_rec hz₆ (by simp) fun h₇ hz₇ hs₇ => ?_)
  replace hz₇ : IsZipS h₇ z TI TO (rawInt h₅.objs.size) := hz₇
  refine wpAny_setField_rec hz₇ (by simp) fun h₈ hz₈ hs₈ => ?_
  replace hz₈ : IsZipS h₈ z TI TO (rawInt h₅.objs.size) := hz₈
  have up : ∀ c o, c ≠ z → h₅.get? c = some o → h₈.get? c = some o := fun c o c1 e => hs₈.extBut _ _ c1 (hs₇.extBut _ _ c1 (Heap.get?_push_of_some _ e))
  have hT₈ : IsPair h₈ h₅.objs.size x y := hs₈.extBut _ _ (Nat.ne_of_gt hzlt) (hs₇.extBut _ _ (Nat.ne_of_gt hzlt) (Heap.get?_push_size _ rfl))
  have hz8 : h₈.objs.size = h₅.objs.size + 1 := by rw [hs₈.1, hs₇.1, Heap.size_push]
  rw [hsz] at hz₈ hT₈ hz8
  refine wpAny_pure ⟨_, rfl, ?_⟩
  show Q (.ref h₅.objs.size) _
  rw [hsz]
  exact hQ h₈ hz₈ (up _ _ D.TOz hTO₅) (h1₅.at fun o e => up _ o D.i1z e) (h2₅.at fun o e => up _ o D.i2z e) hT₈ hz8 fun c o c1 c2 c3 c4 e => up c o c1 (hk₅ c o c1 c2 c3 c4 e)
theorem zipS_end {c1 c2 : Bool} {z TI TO i1 i2 l1 l2 : Addr} {k1 k2 : Nat} {xs ys : Array Value} {a b : Value} {Q : Fin → Shared → Prop} (hh : A.handled = none) (D : ZipApart z TI TO i1 i2 l1 l2)
    (hz : IsZipS s.heap z TI TO .none) (hTI : IsPair s.heap TI (.ref i1) (.ref i2)) (hTO : IsPair s.heap TO a b)
    (h1 : ItB c1 s.heap i1 l1 k1) (h2 : ItB c2 s.heap i2 l2 k2) (hl1 : SqB c1 s.heap l1 xs) (hl2 : SqB c2 s.heap l2 ys) (hx : xs[k1]? = none) (hy : ys[k2]? = none)
    (hE : ∀ h' e, (∀ c o, c ≠ z → c ≠ TO → c ≠ i1 → c ≠ i2 → s.heap.get? c = some o → h'.get? c = some o) → (∃ o, h'.get? e = some o ∧ o.cls = .type "StopIteration") → E (.ref e) { s with heap := h' }) :
    wpAny (model prog w) A (Builtin.«zip.__next__» ⟨[.ref z], []⟩) Q E s := by
  show wpAny _ _ (field (.ref z) 2 >>= _) _ _ _
  refine wpAny_bind (wpAny_field hz rfl (x := .bool true) rfl ?_)
  show wpAny _ _ (field (.ref z) 3 >>= _) _ _ _
  refine wpAny_bind (wpAny_field hz rfl (x := .ref TI) rfl ?_)
  refine wpAny_bind (wpAny_seqItems hTI rfl ?_)
  show wpAny _ _ (Builtin.SmallTypes.ownedTupleIsFree (.ref z) >>= _) _ _ _
  refine wpAny_bind ?_
  unfold Builtin.SmallTypes.ownedTupleIsFree
  refine wpAny_bind (wpAny_field hz rfl (x := .none) rfl (wpAny_pure ?_))
  simp only [if_true]
  refine wpAny_bind (wpAny_rule ?_)
  refine wpAny_bind (wpAny_field hz rfl (x := .ref TO) rfl ?_)
  refine wpAny_bind (wpAny_setField_rec hz (by simp) fun h₁ hz₁ hs₁ => ?_)
  replace hz₁ : IsZipS h₁ z TI TO .ellipsis := hz₁
  refine wpAny_bind ?_
  simp only [List.zipIdx_cons, List.zipIdx_nil, List.forIn_cons, List.forIn_nil]
  refine wpAny_bind (wpAny_bind (wpAny_onRaise ?_))
  show wpAny _ _ (Builtin.SmallTypes.nextOrEnd (.ref i1)) _ _ _
  refine nextE_end hh (h1.at fun o e => hs₁.extBut _ o D.i1z e) (hl1.at fun o e => hs₁.extBut _ o D.l1z e) hx fun h₂ hs₂ => ?_
  have hz₂ : IsZipS h₂ z TI TO .ellipsis := hs₂ _ _ D.i1z.symm hz₁
  refine wpAny_bind (wpAny_setField_rec hz₂ (by simp) fun h₃ hz₃ hs₃ => ?_)
  have h2₃ : ItB c2 h₃ i2 l2 k2 := h2.at fun o e => hs₃.extBut _ o D.i2z (hs₂ _ o D.i12.symm (hs₁.extBut _ o D.i2z e))
  have hl2₃ : SqB c2 h₃ l2 ys := hl2.at fun o e => hs₃.extBut _ o D.l2z (hs₂ _ o D.l2i1 (hs₁.extBut _ o D.l2z e))
  refine wpAny_bind ?_
  show wpAny _ _ (forIn [(Value.ref i2, 1)] _ _ >>= _) _ _ _
  simp only [List.forIn_cons, List.forIn_nil]
  refine wpAny_bind (wpAny_bind ?_)
  refine wpAny_bind (nextE_end hh h2₃ hl2₃ hy fun h₄ hs₄ => ?_)
  refine wpAny_pure (wpAny_pure ?_)
  refine wpAny_bind (wpAny_rule ?_)
  unfold Builtin.SmallTypes.stopIteration
  refine wpAny_bind ?_
  simp only [newExc, newTuple]
  refine wpAny_bind (wpAny_newObj_type ?_ (by size_fits))
  refine wpAny_bind (m := firstArgMember _ _) (wpAny_of_eq (a := Value.none) (by first | rfl | (simp only [firstArgMember]; rfl)) ?_)
  refine wpAny_newObj_type ?_ (by size_fits)
  simp only [raiseNew]
  refine wpAny_bind (wpAny_handled ?_)
  rw [hh]
  refine wpAny_bind (wpAny_pure (wpAny_throw ?_))
  exact hE _ _ (fun c o c1 c2 c3 c4 x => Heap.get?_push_of_some _ (Heap.get?_push_of_some _ (hs₄ _ _ c4 (hs₃.extBut _ _ c1 (hs₂ _ _ c3 (hs₁.extBut _ _ c1 x)))))) ⟨_, Heap.get?_push_size _ rfl, rfl⟩
theorem nextS_item {c1 c2 : Bool} {z TI TO i1 i2 l1 l2 : Addr} {k1 k2 : Nat} {xs ys : Array Value} {x y a b : Value} {Q : Option Value → Shared → Prop} (D : ZipApart z TI TO i1 i2 l1 l2)
    (hz : IsZipS s.heap z TI TO .none) (hTI : IsPair s.heap TI (.ref i1) (.ref i2)) (hTO : IsPair s.heap TO a b)
    (h1 : ItB c1 s.heap i1 l1 k1) (h2 : ItB c2 s.heap i2 l2 k2) (hl1 : SqB c1 s.heap l1 xs) (hl2 : SqB c2 s.heap l2 ys) (hx : xs[k1]? = some x) (hy : ys[k2]? = some y)
    (hQ : ∀ h', IsZipS h' z TI TO (rawInt s.heap.objs.size) → IsPair h' TO x y → ItB c1 h' i1 l1 (k1 + 1) → ItB c2 h' i2 l2 (k2 + 1) → IsPair h' s.heap.objs.size x y → h'.objs.size = s.heap.objs.size + 1 →
      (∀ c o, c ≠ z → c ≠ TO → c ≠ i1 → c ≠ i2 → s.heap.get? c = some o → h'.get? c = some o) → Q (some (.ref s.heap.objs.size)) { s with heap := h' }) :
    wpAny (model prog w) A (pyNext (.ref z)) Q E s := by
  have hT : s.TypeIs (.ref z) "zip" := ⟨_, hz, rfl⟩
  unfold pyNext
  exact wpAny_bind (wpAny_attempt (wpAny_callSpecial?_slot (name := Str.ofString "__next__") hT F.slot_zip_next
    (wpAny_call_entry F.slot_zip_next hT F.entry_zip_next
      (zipS_item D hz hTI hTO h1 h2 hl1 hl2 hx hy fun h' a1 a2 a3 a4 a5 a6 a7 => wpAny_pure (hQ h' a1 a2 a3 a4 a5 a6 a7)) (F.args_zip_next_1 _))))
theorem nextS_end {c1 c2 : Bool} {z TI TO i1 i2 l1 l2 : Addr} {k1 k2 : Nat} {xs ys : Array Value} {a b : Value} {Q : Option Value → Shared → Prop} (hh : A.handled = none) (D : ZipApart z TI TO i1 i2 l1 l2)
    (hz : IsZipS s.heap z TI TO .none) (hTI : IsPair s.heap TI (.ref i1) (.ref i2)) (hTO : IsPair s.heap TO a b)
    (h1 : ItB c1 s.heap i1 l1 k1) (h2 : ItB c2 s.heap i2 l2 k2) (hl1 : SqB c1 s.heap l1 xs) (hl2 : SqB c2 s.heap l2 ys) (hx : xs[k1]? = none) (hy : ys[k2]? = none)
    (hQ : ∀ h', (∀ c o, c ≠ z → c ≠ TO → c ≠ i1 → c ≠ i2 → s.heap.get? c = some o → h'.get? c = some o) → Q none { s with heap := h' }) : wpAny (model prog w) A (pyNext (.ref z)) Q E s := by
  have hT : s.TypeIs (.ref z) "zip" := ⟨_, hz, rfl⟩
  unfold pyNext
  refine wpAny_bind (wpAny_attempt (wpAny_callSpecial?_slot (name := Str.ofString "__next__") hT F.slot_zip_next
    (wpAny_call_entry F.slot_zip_next hT F.entry_zip_next (zipS_end hh D hz hTI hTO h1 h2 hl1 hl2 hx hy fun h' e hk he => ?_) (F.args_zip_next_1 _))))
  obtain ⟨o, ho, hc⟩ := he
  refine wpAny_bind (wpAny_isInstance (T := "StopIteration") (b := true) ⟨o, ho, hc⟩ isSubtype_stop ?_)
  exact wpAny_pure (hQ _ hk)
theorem goS {elts : List Expr} {x1} {pos : Pos} {z TI TO T : Addr} {Q : Unit → Shared → Prop} (hz : IsZipS s.heap z TI TO (rawInt T))
    (hQ : ∀ h', IsZipS h' z TI TO .none → Heap.SameBut z s.heap h' → Q () { s with heap := h' }) :
    wpAny (model prog w) A (letOwnedTupleGo (.Tuple elts x1 pos) (.ref z) (.ref T)) Q E s := by
  unfold letOwnedTupleGo
  refine wpAny_bind (wpAny_load hz ?_)
  show wpAny _ _ (if (["enumerate", "zip", "dict_itemiterator", "dict_reverseitemiterator", "odict_iterator", "itertools.zip_longest", "itertools.pairwise"].contains "zip" &&
      (#[rawInt T, .bool false, .bool true, .ref TI, .ref TO] : Array Value)[0]? == some (rawInt T)) = true then _ else _) Q E s
  rw [if_pos (by simp)]
  refine wpAny_bind (wpAny_rule ?_)
  show wpAny _ _ (setField (.ref z) 0 .none) Q E s
  exact wpAny_setField_rec hz (by simp) fun h' hz' hs' => hQ h' hz' hs'
theorem iterS {z TI TO : Addr} {f0 : Value} {Q : Value → Shared → Prop} (hz : IsZipS s.heap z TI TO f0) (h : Q (.ref z) s) : wpAny (model prog w) A (pyIter (.ref z)) Q E s := by
  have hT : s.TypeIs (.ref z) "zip" := ⟨_, hz, rfl⟩
  refine wpAny_pyIter_slot hT F.slot_zip_iter (wpAny_call_entry F.slot_zip_iter hT F.entry_zip_iter ?_ (F.args_zip_iter_1 _))
  show wpAny _ _ (ret (.ref z)) _ _ s
  exact wpAny_pure ⟨_, rfl, "zip", _, hT, F.slot_zip_next.lookup, h⟩
end
def itO (c : Bool) (l : Addr) : Obj := { cls := .type (if c then "tuple_iterator" else "list_iterator"), data := .fields #[.ref l, .int 0 0] }
abbrev zsH1 (c1 : Bool) (h : Heap) (l1 : Addr) : Heap := h.push (itO c1 l1)
abbrev zsH2 (c1 c2 : Bool) (h : Heap) (l1 l2 : Addr) : Heap := (zsH1 c1 h l1).push (itO c2 l2)
abbrev zsH3 (c1 c2 : Bool) (h : Heap) (l1 l2 : Addr) : Heap := (zsH2 c1 c2 h l1 l2).push { cls := .type "tuple", data := .seq #[.ref h.objs.size, .ref (zsH1 c1 h l1).objs.size] }
abbrev zsH4 (c1 c2 : Bool) (h : Heap) (l1 l2 : Addr) : Heap := (zsH3 c1 c2 h l1 l2).push { cls := .type "tuple", data := .seq #[.none, .none] }
abbrev zsH5 (c1 c2 : Bool) (h : Heap) (l1 l2 : Addr) : Heap := (zsH4 c1 c2 h l1 l2).push { cls := .type "zip", data := .fields #[.none, .bool false, .bool true, .ref (zsH2 c1 c2 h l1 l2).objs.size, .ref (zsH3 c1 c2 h l1 l2).objs.size] }
abbrev stk : Str := Str.ofString "strict"
theorem iterB {prog : Program} {w : World} {A : Around} {E : Value → Shared → Prop} {s : Shared} {c : Bool} {l : Addr} {xs : Array Value} {Q : Value → Shared → Prop} (hl : SqB c s.heap l xs)
    (h : Q (.ref s.heap.objs.size) { s with heap := s.heap.push (itO c l) }) : wpAny (model prog w) A (pyIter (.ref l)) Q E s := by
  cases c with
  | true => exact wpAny_pyIter_tuple hl h
  | false => exact wpAny_pyIter_list hl h
set_option maxHeartbeats 3000000 in
theorem meets_zsNew (c1 c2 : Bool) (l1 l2 : Addr) (xs ys : Array Value) :
    Meets (Builtin.«zip.__new__» ⟨[.type "zip", .ref l1, .ref l2], [(stk, .bool true)]⟩) (fun _ R s => SqB c1 s.heap l1 xs ∧ SqB c2 s.heap l2 ys ∧
      R (.ok (.ret (.ref (zsH4 c1 c2 s.heap l1 l2).objs.size))) { s with heap := zsH5 c1 c2 s.heap l1 l2 }) :=
  .of_wp fun prog w A R s h => by
    obtain ⟨hp, g, d, tk, os⟩ := s; obtain ⟨hl1, hl2, h⟩ := h
    have hsub := sub_zip
    have e1 : (Str.ofString "strict" != ("strict" : Str)) = false := by decide +kernel
    have hL1 : SqB c1 (Shared.heap ⟨hp, g, d, tk, os⟩) l1 xs := hl1
    have hL2 : SqB c2 (Shared.heap ⟨hp.push (itO c1 l1), g, d, tk, os⟩) l2 ys := hl2.at fun o e => Heap.get?_push_of_some _ e
    wp_walk using iterB hL1, iterB hL2
    exact ⟨_, rfl, h⟩
end TL
set_option Elab.async false
set_option linter.all false
set_option maxRecDepth 100000
set_option maxHeartbeats 4000000
namespace TL
open PySem PySem.Spec PyProof.Rows L2
theorem tcS (a b v : Value) : checkTypeCall "zip" ⟨[a, b], [(stk, v)]⟩ = pure () := by kernel_rfl
theorem ncS (a b v : Value) : checkBuiltinCall "zip.__new__" ⟨[.type "zip", a, b], [(stk, v)]⟩ = pure () := by kernel_rfl
theorem aoS (obj a b v : Value) : argsOk "object.__init__" ⟨[obj, a, b], [(stk, v)]⟩ := by unfold argsOk; kernel_rfl
theorem itO_is (c : Bool) {h : Heap} {a l : Addr} (e : h.get? a = some (itO c l)) : ItB c h a l 0 := by
  cases c with
  | true => exact ⟨_, e, rfl, rfl⟩
  | false => exact ⟨_, e, rfl, rfl⟩
section
variable {prog : Program} {w : World} {A : Around} {E : Value → Shared → Prop} {s : Shared}
theorem call_zipS {c1 c2 : Bool} {l1 l2 : Addr} {xs ys : Array Value} {Q : Value → Shared → Prop} (hl1 : SqB c1 s.heap l1 xs) (hl2 : SqB c2 s.heap l2 ys)
    (h : ∀ h', IsZipS h' (s.heap.objs.size + 4) (s.heap.objs.size + 2) (s.heap.objs.size + 3) .none → IsPair h' (s.heap.objs.size + 2) (.ref s.heap.objs.size) (.ref (s.heap.objs.size + 1)) →
      IsPair h' (s.heap.objs.size + 3) .none .none → ItB c1 h' s.heap.objs.size l1 0 → ItB c2 h' (s.heap.objs.size + 1) l2 0 → h'.objs.size = s.heap.objs.size + 5 →
      (∀ c o, s.heap.get? c = some o → h'.get? c = some o) → Q (.ref (s.heap.objs.size + 4)) { s with heap := h' }) :
    wpAny (model prog w) A (call (.type "zip") [.ref l1, .ref l2] [(stk, .bool true)]) Q E s := by
  refine callType_newKw F.called_zip (by decide) (tcS _ _ _) (ncS _ _ _) (fun obj => aoS obj _ _ _) F.entry_zip_new
    (meets_zsNew c1 c2 l1 l2 xs ys) ⟨hl1, hl2, ?_⟩
  have fr : ∀ c l, (itO c l).isFreed = false := fun c l => by cases c <;> rfl
  have z1 : (zsH1 c1 s.heap l1).objs.size = s.heap.objs.size + 1 := Heap.size_push ..
  have z2 : (zsH2 c1 c2 s.heap l1 l2).objs.size = s.heap.objs.size + 2 := by rw [Heap.size_push, z1]
  have z3 : (zsH3 c1 c2 s.heap l1 l2).objs.size = s.heap.objs.size + 3 := by rw [Heap.size_push, z2]
  have z4 : (zsH4 c1 c2 s.heap l1 l2).objs.size = s.heap.objs.size + 4 := by rw [Heap.size_push, z3]
  have z5 : (zsH5 c1 c2 s.heap l1 l2).objs.size = s.heap.objs.size + 5 := by rw [Heap.size_push, z4]
  have g5 : (zsH5 c1 c2 s.heap l1 l2).get? (zsH4 c1 c2 s.heap l1 l2).objs.size = some _ := Heap.get?_push_size _ rfl
  have g4 : (zsH5 c1 c2 s.heap l1 l2).get? (zsH3 c1 c2 s.heap l1 l2).objs.size = some _ := Heap.get?_push_of_some _ (Heap.get?_push_size _ rfl)
  have g3 : (zsH5 c1 c2 s.heap l1 l2).get? (zsH2 c1 c2 s.heap l1 l2).objs.size = some _ := Heap.get?_push_of_some _ (Heap.get?_push_of_some _ (Heap.get?_push_size _ rfl))
  have g2 : (zsH5 c1 c2 s.heap l1 l2).get? (zsH1 c1 s.heap l1).objs.size = some _ := Heap.get?_push_of_some _ (Heap.get?_push_of_some _ (Heap.get?_push_of_some _ (Heap.get?_push_size _ (fr c2 l2))))
  have g1 : (zsH5 c1 c2 s.heap l1 l2).get? s.heap.objs.size = some _ := Heap.get?_push_of_some _ (Heap.get?_push_of_some _ (Heap.get?_push_of_some _ (Heap.get?_push_of_some _ (Heap.get?_push_size _ (fr c1 l1)))))
  show _ ∧ _
  rw [z2, z3, z4] at g5
  rw [z1, z2] at g3
  rw [z3] at g4
  rw [z1] at g2
  rw [z4]
  exact ⟨⟨_, g5, rfl⟩, h _ g5 g3 g4 (itO_is c1 g1) (itO_is c2 g2) z5 fun c o x =>
    Heap.get?_push_of_some _ (Heap.get?_push_of_some _ (Heap.get?_push_of_some _ (Heap.get?_push_of_some _ (Heap.get?_push_of_some _ x))))⟩
theorem callWith_typeKw {M : Model} {A : Around} {E : Value → Shared → Prop} {s : Shared} {env : Env} {pos : Pos} {T : String} {e : Expr} {rest : List Expr} {kws : List Keyword} {Q : Value → Shared → Prop}
    (h : wpAny M A (spliced (backTo pos (starEach (e :: rest) env))) (fun vs s₁ => wpAny M A (evalAll ((backToKw pos (keywordEach kws env)).map (·.2)))
      (fun kvs s₂ => wpAny M A (call (.type T) vs (((backToKw pos (keywordEach kws env)).filterMap (·.1)).zip kvs)) Q E s₂) E s₁) E s)
    (he : backTo pos (starEach (e :: rest) env) = (false, eval e env) :: backTo pos (starEach rest env) := by rfl)
    (hplain : (backTo pos (starEach (e :: rest) env)).any (·.1) = false := by rfl)
    (hall : (backToKw pos (keywordEach kws env)).all (·.1.isSome) = true := by rfl)
    (hkw : (backToKw pos (keywordEach kws env)).any (·.1.isNone) = false := by rfl) :
    wpAny M A (callWith pos (.type T) [] (backTo pos (starEach (e :: rest) env)) (backToKw pos (keywordEach kws env))) Q E s := by
  unfold callWith
  refine wpAny_bind (wpAny_holding (wpAny_mono (Q := fun a s₁ => wpAny M A (call (.type T) ([] ++ a.pos) a.kw) Q E s₁) ?_ (fun a s₁ h₁ => wpAny_bind (wpAny_standAt ?_)) fun _ _ x => x))
  · rw [he] at h ⊢
    exact PyProof.Rows.evalArgs_kwB hall h
  simp only [hplain, hkw, Bool.or_false]
  refine wpAny_bind (wpAny_pure ?_)
  exact wpAny_bind (wpAny_mono h₁ (fun r s₂ hr => wpAny_bind (wpAny_holding (wpAny_point (wpAny_pure hr)))) fun _ _ x => x)
end
/-! ### as HandS reads it -/
def SqX (c : Bool) (K : PySem.W.Frag) (H : Hp) (a : Addr) (xs : List V) : Prop := if c = true then SqT K H a xs else SqL K H a xs
/-- what stands at a and b as they are at each turn, the items in new pairs -/
def ItzS (c1 c2 : Bool) (K : PySem.W.Frag) (a b : Addr) : It :=
  ⟨fun i H => ∃ (xs ys : List V) (x y : V), SqX c1 K H a xs ∧ SqX c2 K H b ys ∧ xs[i]? = some x ∧ ys[i]? = some y,
    fun i H v H' => ∃ T x y, v = .ref T ∧ H T = none ∧ H' = upd H T (.tup [x, y]) ∧ (∀ xs, SqX c1 K H a xs → xs[i]? = some x) ∧ ∀ ys, SqX c2 K H b ys → ys[i]? = some y,
    fun i H => ∃ xs ys : List V, SqX c1 K H a xs ∧ SqX c2 K H b ys ∧ xs.length ≤ i ∧ ys.length ≤ i⟩
theorem sqx_get {X : Cx} {pins : List (Addr × Obj)} {σ : L2.St} {H : Hp} {s : Shared} {c : Bool} {a : Addr} {xs : List V} (I : Inv X pins σ H s) (h : SqX c X.K H a xs) : ∃ its : List Value, Vals xs its ∧ SqB c s.heap a its.toArray ∧ a < s.heap.objs.size := by
  cases c with
  | true =>
    obtain ⟨its, rv, p, _⟩ := I.tuple (show SqT X.K H a xs from h)
    obtain ⟨o, ho, _⟩ := id p
    exact ⟨its, rv, p, Heap.lt_size ho⟩
  | false =>
    obtain ⟨its, rv, p, _⟩ := I.list (show SqL X.K H a xs from h)
    exact ⟨its, rv, p.isList, p.lt⟩
theorem sqx_inj {X : Cx} {pins : List (Addr × Obj)} {σ : L2.St} {H : Hp} {s : Shared} {c : Bool} {a : Addr} {xs ys : List V} (I : Inv X pins σ H s) (h : SqX c X.K H a xs) (h' : SqX c X.K H a ys) : xs = ys := by
  cases c with
  | true => exact I.tuple_inj (show SqT X.K H a xs from h) h'
  | false => exact I.list_inj (show SqL X.K H a xs from h) h'
theorem turn_zipS {c1 c2 : Bool} {P : Program} {w : World} {K : PySem.W.Frag} {elts : List Expr} {kk : Nat} {tpos : Pos} {a b z TI TO i1 i2 : Addr} (D : ZipApart z TI TO i1 i2 a b) :
    Turn P w K (.Tuple elts kk tpos) (ItzS c1 c2 K a b) [z, TI, TO, i1, i2] z (fun i h => IsZipS h z TI TO .none ∧ IsPair h TI (.ref i1) (.ref i2) ∧ (∃ x y, IsPair h TO x y) ∧ ItB c1 h i1 a i ∧ ItB c2 h i2 b i) where
  mem := by simp
  obj := fun i h st c hc => by
    obtain ⟨hz, hTI, ⟨x, y, hTO⟩, h1, h2⟩ := st
    have e' : c = z ∨ c = TI ∨ c = TO ∨ c = i1 ∨ c = i2 := by simpa using hc
    rcases e' with q | q | q | q | q
    · rw [q]; exact ⟨_, hz, fun v q => nomatch q⟩
    · rw [q]; exact ⟨_, hTI, fun v q => nomatch q⟩
    · rw [q]; exact ⟨_, hTO, fun v q => nomatch q⟩
    · rw [q]; exact h1.get
    · rw [q]; exact h2.get
  keep := fun i h h' st k => by
    obtain ⟨hz, hTI, ⟨x, y, hTO⟩, h1, h2⟩ := st
    exact ⟨k z (by simp) _ hz, k TI (by simp) _ hTI, ⟨x, y, k TO (by simp) _ hTO⟩, h1.at fun o q => k i1 (by simp) o q, h2.at fun o q => k i2 (by simp) o q⟩
  item := by
    intro X hP hw hK hc i pins s σ H E I hf st hg
    subst hP hw hK
    obtain ⟨hz, hTI, ⟨x0, y0, hTO⟩, h1, h2⟩ := st
    obtain ⟨xs, ys, x, y, hqx, hqy, hx, hy⟩ := hg
    obtain ⟨its, rv, p, _⟩ := sqx_get I hqx
    obtain ⟨its2, rv2, p2, _⟩ := sqx_get I hqy
    obtain ⟨u, hu, ru⟩ := rv.get hx
    obtain ⟨u2, hu2, ru2⟩ := rv2.get hy
    have hzl : z < s.heap.objs.size := Heap.lt_size hz
    refine nextS_item D hz hTI hTO h1 h2 p p2 (x := u) (y := u2) (by simpa using hu) (by simpa using hu2) fun h' z' TO' h1' h2' hT hsz hk => ?_
    refine ⟨_, rfl, goS (s := { s with heap := h' }) z' fun h'' z'' sb => ?_⟩
    have hT2 : h''.get? s.heap.objs.size = some { cls := .type "tuple", data := .seq #[u, u2] } := (sb.2 _ (Nat.ne_of_gt hzl)).trans hT
    have new : ObjOk X.prog X.w (upd H s.heap.objs.size (.tup [x, y])) h'' s.heap.objs.size (.tup [x, y]) :=
      ⟨by show 2 ≤ sizeLine; decide, [u, u2], .cons ru (.cons ru2 .nil), ⟨_, hT2, rfl, _, rfl⟩⟩
    have I1 : Inv X pins σ (upd H s.heap.objs.size (.tup [x, y])) { s with heap := h'' } :=
      I.turnedNew (t' := s.toks) (ch := [z, TI, TO, i1, i2]) (fun c o hb q => (sb.2 c (fun q' => hb (by simp [q']))).trans (hk c o (fun q' => hb (by simp [q'])) (fun q' => hb (by simp [q'])) (fun q' => hb (by simp [q'])) (fun q' => hb (by simp [q'])) q)) hf (Nat.le_refl _) new
    refine ⟨.ref s.heap.objs.size, _, I1, rfl, ⟨_, x, y, rfl, I.hok.fresh (Nat.le_refl _), rfl, fun l hl => by rw [sqx_inj I hl hqx]; exact hx, fun l hl => by rw [sqx_inj I hl hqy]; exact hy⟩, ⟨z'', ?_, ⟨u, u2, ?_⟩, ?_, ?_⟩, fun c hcm => ?_⟩
    · exact (sb.2 _ D.TIz).trans (hk _ _ D.TIz D.TITO D.TIi1 D.TIi2 hTI)
    · exact (sb.2 _ D.TOz).trans TO'
    · exact h1'.at fun o q => (sb.2 _ D.i1z).trans q
    · exact h2'.at fun o q => (sb.2 _ D.i2z).trans q
    · have hlt : c < s.heap.objs.size := by
        have e' : c = z ∨ c = TI ∨ c = TO ∨ c = i1 ∨ c = i2 := by simpa using hcm
        rcases e' with q | q | q | q | q
        · rw [q]; exact hzl
        · rw [q]; exact Heap.lt_size hTI
        · rw [q]; exact Heap.lt_size hTO
        · rw [q]; obtain ⟨_, e1, _⟩ := h1.get; exact Heap.lt_size e1
        · rw [q]; obtain ⟨_, e2, _⟩ := h2.get; exact Heap.lt_size e2
      rw [upd_ne (Nat.ne_of_lt hlt)]
      exact (hf c hcm).1
  done := by
    intro X hP hw hK hc i pins s σ H E I hf st hg
    subst hP hw hK
    obtain ⟨hz, hTI, ⟨x0, y0, hTO⟩, h1, h2⟩ := st
    obtain ⟨xs, ys, hqx, hqy, q1, q2⟩ := hg
    obtain ⟨its, rv, p, _⟩ := sqx_get I hqx
    obtain ⟨its2, rv2, p2, _⟩ := sqx_get I hqy
    have l1 := rv.length
    have l2 := rv2.length
    exact nextS_end (I.ok.hd hc) D hz hTI hTO h1 h2 p p2 (by simp; omega) (by simp; omega) fun h' hk => ⟨rfl, I.turnedL (t' := s.toks) (ch := [z, TI, TO, i1, i2]) (fun c o hb q =>
      hk c o (fun q' => hb (by simp [q'])) (fun q' => hb (by simp [q'])) (fun q' => hb (by simp [q'])) (fun q' => hb (by simp [q'])) q) hf⟩
  self := fun A i s Q E st h => iterS st.1 h
def iZipSx (K : PySem.W.Frag) (ta : TA) : TI := fun σ H R => ta σ H fun vs H1 => ∃ c1 c2 a b xs ys, vs = [.ref a, .ref b] ∧ SqX c1 K H1 a xs ∧ SqX c2 K H1 b ys ∧ R (ItzS c1 c2 K a b) H1
theorem pi_zipS {X : Cx} {e e2 : Expr} {ta : TA} {p pos tpos kpos : Pos} {elts : List Expr} {kk ck : Nat} {cpos : Pos} (hg : Gl X "zip") (hm : X.mg "zip" = none) (ha : PA X [e, e2] ta)
    (he : backTo pos (starEach [e, e2] X.env) = (false, eval e X.env) :: backTo pos (starEach [e2] X.env) := by rfl) (hpl : (backTo pos (starEach [e, e2] X.env)).any (·.1) = false := by rfl) :
    PI X (.Tuple elts kk tpos) (.Call (.Name "zip" p) [e, e2] [⟨some "strict", .Constant (.bool true) ck cpos, kpos⟩] pos) (iZipSx X.K ta) := by
  refine ⟨fun pins s σ H R I h => ?_⟩
  refine wpAny_Call_Name_kw (ld_blt I hg hm PyProof.Rows.boot_zip ?_)
  refine callWith_typeKw (thn (ha.run pos pins s σ H _ I h) fun us s1 ⟨vs, H1, I1, r1, q1⟩ => thn ((pk_cons pe_bl pk_nil).run pos pins s1 σ H1 (fun zs H2 => zs = [.bl true] ∧ H1 = H2) I1 ⟨rfl, rfl⟩) fun ws s2 ⟨zs, H2, I2, r2, e1, e2⟩ => ?_) he hpl rfl rfl
  subst e1 e2
  obtain ⟨c1, c2, a, b, xs, ys, ex, hqx, hqy, q⟩ := q1
  subst ex
  cases r2 with
  | cons rb rn =>
  cases rn
  cases rb
  cases r1 with
  | cons r rr =>
    cases rr with
    | cons r' rr =>
      cases rr
      cases r
      cases r'
      have fresh5 : ∀ c, c ∈ [s2.heap.objs.size + 4, s2.heap.objs.size + 2, s2.heap.objs.size + 3, s2.heap.objs.size, s2.heap.objs.size + 1] → FpOk X pins H1 c := fun c hcm => by
        have e' : c = s2.heap.objs.size + 4 ∨ c = s2.heap.objs.size + 2 ∨ c = s2.heap.objs.size + 3 ∨ c = s2.heap.objs.size ∨ c = s2.heap.objs.size + 1 := by simpa using hcm
        have hle : s2.heap.objs.size ≤ c := by
          rcases e' with z | z | z | z | z
          · rw [z]; exact Nat.le_add_right _ _
          · rw [z]; exact Nat.le_add_right _ _
          · rw [z]; exact Nat.le_add_right _ _
          · rw [z]; exact Nat.le_refl _
          · rw [z]; exact Nat.le_add_right _ _
        exact I2.fpOk hle (I2.hok.fresh hle)
      obtain ⟨its, rv, p1, b1⟩ := sqx_get I2 hqx
      obtain ⟨its2, rv2, p2, b2⟩ := sqx_get I2 hqy
      refine call_zipS p1 p2 fun h' hz hTI hTO h1 h2 hsz hk => iterS hz ?_
      have I3 : Inv X pins σ H1 { s2 with heap := h' } := I2.kept (t' := s2.toks) hk
      exact ⟨s2.heap.objs.size + 4, [s2.heap.objs.size + 4, s2.heap.objs.size + 2, s2.heap.objs.size + 3, s2.heap.objs.size, s2.heap.objs.size + 1], _, _, H1, rfl, I3, turn_zipS (PySem.W.ktu_apart s2.heap.objs.size a b b1 b2), ⟨hz, hTI, ⟨_, _, hTO⟩, h1, h2⟩, fresh5, q⟩
/-! ### as plain data -/
def dZipS (x y : D) (P : List D → Prop) : Prop := ∃ xs ys, (x = .list xs ∨ x = .tuple xs) ∧ (y = .list ys ∨ y = .tuple ys) ∧ xs.length = ys.length ∧ P (zipD xs ys)
def iZpS (m m' : EM) : IM := fun τ n Q => m τ n fun x n1 => m' τ n1 fun y n2 => dZipS x y fun zs => Q zs n2
theorem sqx_mono {c : Bool} {K : PySem.W.Frag} {H H' : Hp} {a : Addr} {xs : List V} (e : Same H H') (h : SqX c K H a xs) : SqX c K H' a xs := by
  cases c with
  | true => exact seqT e (show SqT K H a xs from h)
  | false => exact e.seq (show SqL K H a xs from h)
theorem dp_sqx {K : PySem.W.Frag} {F : Hp} {v : V} {x : D} {xs : List D} (e : x = .list xs ∨ x = .tuple xs) (h : Dp K F v x) : ∃ (c : Bool) (a : Addr) (vs : List V), v = .ref a ∧ SqX c K F a vs ∧ DpAll K F vs xs := by
  rcases e with rfl | rfl
  · cases h with
    | lst h1 d1 => exact ⟨false, _, _, rfl, h1, d1⟩
  · cases h with
    | tup h1 d1 => exact ⟨true, _, _, rfl, h1.sq, d1⟩
theorem itzS_yf {K : PySem.W.Frag} {F : Hp} {c1 c2 : Bool} {a b : Addr} {vs ws : List V} {xs ys : List D} (hlen : xs.length = ys.length) (h : SqX c1 K F a vs) (h' : SqX c2 K F b ws) (hd : DpAll K F vs xs) (hd' : DpAll K F ws ys) : YF K (ItzS c1 c2 K a b) (zipD xs ys) F := fun i H F2 s1 s2 => by
  have hH : SqX c1 K H a vs := sqx_mono s2 (sqx_mono s1 h)
  have hH' : SqX c2 K H b ws := sqx_mono s2 (sqx_mono s1 h')
  refine ⟨fun d e => ?_, fun hl => ⟨vs, ws, hH, hH', ?_⟩⟩
  · rw [zipD_get] at e
    cases q : xs[i]? with
    | none => rw [q] at e; cases e
    | some x =>
      cases q' : ys[i]? with
      | none => rw [q, q'] at e; cases e
      | some y =>
        rw [q, q'] at e
        cases e
        obtain ⟨v, e1, e2⟩ := dpAll_get hd q
        obtain ⟨u, e3, e4⟩ := dpAll_get hd' q'
        refine ⟨⟨vs, ws, v, u, hH, hH', e1, e3⟩, ?_⟩
        rintro x' H2 ⟨T, w1, w2, rfl, hT, rfl, f1, f2⟩
        have g1 := f1 vs hH
        have g2 := f2 ws hH'
        rw [e1] at g1
        rw [e3] at g2
        cases g1
        cases g2
        exact pair_yield s2 hT (dp_mono s1 x _ e2) (dp_mono s1 y _ e4)
  · rw [zipD_len] at hl
    rw [dpAll_len hd, dpAll_len hd']
    omega
section
variable {X : Cx} {a b : Expr} {ma mb : EM} {p pos tpos kpos cpos : Pos}
theorem i_zipS {elts : List Expr} {kk ck : Nat} (hg : Gl X "zip") (hm : X.mg "zip" = none) (ha : E2 X .fz a ma) (hb : E2 X .fz b mb)
    (hs : starEach [a, b] X.env = (false, eval a X.env) :: starEach [b] X.env := by rfl) (hs' : starEach [b] X.env = (false, eval b X.env) :: starEach [] X.env := by rfl)
    (he : backTo pos (starEach [a, b] X.env) = (false, eval a X.env) :: backTo pos (starEach [b] X.env) := by rfl) (hpl : (backTo pos (starEach [a, b] X.env)).any (·.1) = false := by rfl) :
    I2 X (.Tuple elts kk tpos) (.Call (.Name "zip" p) [a, b] [⟨some "strict", .Constant (.bool true) ck cpos, kpos⟩] pos) (iZpS ma mb) := by
  refine ⟨pi_weak (pi_zipS hg hm (pa_cons ha.pe (pa_cons hb.pe pa_nil hs') hs) he hpl) fun σ H R ⟨A, τ, n, F, P, eK, Rl, hm, hq⟩ => tE_run eK Rl hm fun x n1 v1 H1 F1 p1 a1 r1 => tE_run eK (Rl.step a1) p1 ?_⟩
  rintro y n2 v2 H2 F2 ⟨xs, ys, ex, ey, hlen, q⟩ a2 r2
  have r1' := dp_mono (a2.fro a1.sub) x v1 r1
  have a12 := a1.trans a2
  obtain ⟨c1, l1, vs, rfl, h1, d1⟩ := dp_sqx ex r1'
  obtain ⟨c2, l2, ws, rfl, h2, d2⟩ := dp_sqx ey r2
  exact ⟨c1, c2, l1, l2, vs, ws, rfl, sqx_mono a2.sub h1, sqx_mono a2.sub h2, hq _ n2 _ H2 F2 q a12 (itzS_yf hlen h1 h2 d1 d2)⟩
end
@[simp] theorem dZipS_LT {xs ys : List D} {P : List D → Prop} : dZipS (.list xs) (.tuple ys) P ↔ xs.length = ys.length ∧ P (zipD xs ys) := by simp [dZipS]
@[simp] theorem dZipS_LL {xs ys : List D} {P : List D → Prop} : dZipS (.list xs) (.list ys) P ↔ xs.length = ys.length ∧ P (zipD xs ys) := by simp [dZipS]
@[simp] theorem dZipS_TT {xs ys : List D} {P : List D → Prop} : dZipS (.tuple xs) (.tuple ys) P ↔ xs.length = ys.length ∧ P (zipD xs ys) := by simp [dZipS]
@[simp] theorem dZipS_TL {xs ys : List D} {P : List D → Prop} : dZipS (.tuple xs) (.list ys) P ↔ xs.length = ys.length ∧ P (zipD xs ys) := by simp [dZipS]
@[simp] theorem iZpS_ap {m m' : EM} {τ : Ev} {n : Nat} {R : List D → Nat → Prop} : iZpS m m' τ n R ↔ m τ n fun x n1 => m' τ n1 fun y n2 => dZipS x y fun zs => R zs n2 := Iff.rfl
end TL
set_option Elab.async false
set_option linter.all false
set_option maxRecDepth 100000
set_option maxHeartbeats 4000000
namespace TL
open PySem PySem.Spec PyProof.Rows L2
/-! ### dicts whose keys are tuples of ints -/
theorem th_eq (P : Program) (w : World) (k : List Int) : (tupleKind (intKind P w)).hash k = th k := rfl
theorem dE_ok {P : Program} {w : World} {H : Hp} {h : Heap} {a : Addr} {kbs : List (List Int × Addr)} (p : dEp a kbs h) : ObjOk P w H h a (dE a kbs) := by
  have q := p
  obtain ⟨_, _, xs, _, o, es, ep, ho, _⟩ := p
  refine ⟨q, ⟨o, ho⟩, fun h1 h2 p1 k => ?_⟩
  obtain ⟨y, z, xs, e, o, es, ep, ho, r⟩ := p1
  exact ⟨y, z, xs, e, o, es, ep, k _ ho, r⟩
theorem dE_new (h : Heap) (hb : sysModules < h.objs.size) : dEp h.objs.size [] (h.push { cls := .type "dict", data := .dict #[] }) :=
  ⟨beq_eq_false_iff_ne.mpr (Ne.symm (Nat.ne_of_lt hb)), Nat.zero_le _, [], rfl, _, #[], 0, Heap.get?_push_size _ rfl, ⟨rfl, rfl, rfl⟩, rfl, rfl, List.nodup_nil⟩
/-- a key is put: where it stands already, at its old place -/
def putB (kbs : List (List Int × Addr)) (k : List Int) (b : Addr) : List (List Int × Addr) := if k ∈ kbs.map (·.1) then kbs else kbs ++ [(k, b)]
theorem putB_len (kbs : List (List Int × Addr)) (k : List Int) (b : Addr) : (putB kbs k b).length ≤ kbs.length + 1 := by
  unfold putB
  split
  · omega
  · simp
theorem atKey_mem {xs : List (List Int × Addr × Value)} {k : List Int} : (atKey xs k).isSome = true ↔ k ∈ xs.map (·.1) := by
  unfold atKey
  rw [Option.isSome_map, List.find?_isSome]
  simp only [decide_eq_true_eq, List.mem_map]
theorem stored_put {xs : List (List Int × Addr × Value)} {kbs : List (List Int × Addr)} (e : xs.map (fun x => (x.1, x.2.1)) = kbs) (k : List Int) (b : Addr) (v : Value) : (storedH xs k b v).map (fun x => (x.1, x.2.1)) = putB kbs k b := by
  have em : kbs.map (·.1) = xs.map (·.1) := by rw [← e, List.map_map]; rfl
  unfold storedH putB
  rw [em]
  by_cases h : k ∈ xs.map (·.1)
  · rw [if_pos (atKey_mem.mpr h), if_pos h, ← e, List.map_map]
    refine List.map_congr_left fun x _ => ?_
    simp only [Function.comp_def, putAt]
    split <;> rfl
  · rw [if_neg (fun z => h (atKey_mem.mp z)), if_neg h, List.map_append, e]
    rfl
section
variable {X : Cx} {pins : List (Addr × Obj)} {σ : L2.St} {H : Hp} {s : Shared}
theorem dE_full {a : Addr} {kbs : List (List Int × Addr)} (I : Inv X pins σ H s) (e : H a = some (dE a kbs)) (hk : ∀ p ∈ kbs, SqT X.K H p.2 (p.1.map V.int)) :
    (a == sysModules) = false ∧ kbs.length ≤ sizeLine ∧ ∃ xs, xs.map (fun x => (x.1, x.2.1)) = kbs ∧ s.heap.DictOfH (tupleKind (intKind X.prog X.w)) a xs := by
  obtain ⟨⟨y, z, xs, ex, o, es, ep, ho, h1, h2, h3, h4⟩, _⟩ := I.hok a _ e
  refine ⟨y, z, xs, ex, o, es, ep, ho, h1, h2, h3, fun x hx => ?_, h4⟩
  exact I.isT (hk (x.1, x.2.1) (by rw [← ex]; exact List.mem_map.mpr ⟨x, hx, rfl⟩))
theorem dE_set {A : Around} {E : Value → Shared → Prop} {D b : Addr} {kbs : List (List Int × Addr)} {k : List Int} {r : Value} {Q : Unit → Shared → Prop} (hu : A.units < cLine) (I : Inv X pins σ H s) (hD : H D = some (dE D kbs)) (hz : kbs.length < sizeLine)
    (hk : ∀ p ∈ kbs, SqT X.K H p.2 (p.1.map V.int)) (hb : SqT X.K H b (k.map V.int)) (h : ∀ s', Inv X pins σ (upd H D (dE D (putB kbs k b))) s' → Q () s') : wpAny (model X.prog X.w) A (dictSet D (.ref b) r) Q E s := by
  obtain ⟨y, z, xs, ex, dd⟩ := dE_full I hD hk
  have hx : xs.length ≤ sizeLine := by rw [← List.length_map (as := xs) (fun x => (x.1, x.2.1)), ex]; exact z
  refine wpAny_dictSet_heap (hsz := hx) (knd := tupleKind (intKind X.prog X.w)) hu (I.isT hb) dd fun h' dd' hs => h _ ?_
  obtain ⟨q, es, ep, hq, h2, h3, h4, _, h5⟩ := dd'
  have hl := putB_len kbs k b
  refine d_write I (by rw [hD]; exact True.intro) hs ⟨q, hq⟩ (dE_ok ⟨y, by omega, _, stored_put ex k b r, q, es, ep, hq, h2, h3, h4, h5⟩)
/-- `in` -/
def rInE (K : PySem.W.Frag) (neg : Bool) : R2 := fun x y H Q => ∃ a b kbs k, x = .ref b ∧ y = .ref a ∧ H a = some (dE a kbs) ∧ (∀ p ∈ kbs, SqT K H p.2 (p.1.map V.int)) ∧ SqT K H b (k.map V.int) ∧
  Q (.bl (if neg then !decide (k ∈ kbs.map (·.1)) else decide (k ∈ kbs.map (·.1)))) H
theorem at_dec {xs : List (List Int × Addr × Value)} {kbs : List (List Int × Addr)} (e : xs.map (fun x => (x.1, x.2.1)) = kbs) (k : List Int) : (atKey xs k).isSome = decide (k ∈ kbs.map (·.1)) := by
  have em : kbs.map (·.1) = xs.map (·.1) := by rw [← e, List.map_map]; rfl
  rw [em, Bool.eq_iff_iff, atKey_mem]
  simp only [decide_eq_true_eq]
theorem op_inE (hu : X.A.units + 1 < cLine) : OpR X (compareOp .In) (rInE X.K false) := by
  intro pins s σ H x y v u Q I rx ry h
  obtain ⟨a, b, kbs, k, ex0, ey0, ea, hk, hb, q⟩ := h
  subst ex0 ey0
  cases rx
  cases ry
  obtain ⟨yy, z, xs, ex, dd⟩ := dE_full I ea hk
  refine wpAny_in_heap (knd := tupleKind (intKind X.prog X.w)) (tupleKind_room_in1 hu) (I.isT hb) yy dd ?_
  rw [at_dec ex k]
  exact ⟨.bl _, H, I.tok _, rfl, q⟩
theorem op_ninE (hu : X.A.units + 1 < cLine) : OpR X (compareOp .NotIn) (rInE X.K true) := by
  intro pins s σ H x y v u Q I rx ry h
  obtain ⟨a, b, kbs, k, ex0, ey0, ea, hk, hb, q⟩ := h
  subst ex0 ey0
  cases rx
  cases ry
  obtain ⟨yy, z, xs, ex, dd⟩ := dE_full I ea hk
  refine wpAny_notIn_heap (knd := tupleKind (intKind X.prog X.w)) (tupleKind_room_in1 hu) (I.isT hb) yy dd ?_
  rw [at_dec ex k]
  exact ⟨.bl _, H, I.tok _, rfl, q⟩
end
/-! ### a dict comprehension, the dict by an own description -/
section
variable {X : Cx} {α : Type}
def tDcG (O : Addr → α → HO) (a0 : α) (S : Hp → Addr → α → V → V → α → Prop) (wi : TI) (g : TG) (tt : TT) (tk tv : TE) (vs : List Nat) : TE := fun σ H Q => wi σ H fun J H1 => ∀ D, H1 D = none → ∃ W : Nat → Nat → Hp → Prop, (∃ m, W 0 m (upd H1 D (O D a0))) ∧ ∀ i m H, W i m H →
  (J.stop i H ∧ Q (.ref D) H) ∨ (J.go i H ∧ ∃ Nx : Hp → Prop, (∀ H', Nx H' → ∃ m', m' < m ∧ W (i + 1) m' H') ∧ ∀ x H', J.yld i H x H' → g x (wipe σ vs) H' fun σ2 H2 => wipe σ2 vs = wipe σ vs ∧ tt σ2 H2 fun b H3 =>
    if b = true then tk σ2 H3 fun y H4 => tv σ2 H4 fun z H5 => ∃ a a', H5 D = some (O D a) ∧ S H5 D a y z a' ∧ Nx (upd H5 D (O D a')) else Nx H3)
/-- the walk of any of them, as HandS walks those with plain keys -/
theorem dcg_core {O : Addr → α → HO} {a0 : α} {S : Hp → Addr → α → V → V → α → Prop} {pins : List (Addr × Obj)} {s : Shared} {σ : L2.St} {H : Hp} {Q : VK} {kx vx tg iter : Expr} {ifs : List Expr} {scope : Scope} {own : List (Str × Nat)} {pos pos' : Pos} {wi : TI} {g : TG} {tt : TT} {tk tv : TE} {use : Option (Value → Sem Unit)} {Qf : Value → Shared → Prop}
    (hnew : ∀ (Hx : Hp) (h : Heap), sysModules < h.objs.size → ObjOk X.prog X.w Hx (h.push { cls := .type "dict", data := .dict #[] }) h.objs.size (O h.objs.size a0))
    (hst : ∀ (X' : Cx) {pins : List (Addr × Obj)} {σ : L2.St} {H : Hp} {s : Shared} {D : Addr} {a a' : α} {y z : V} {u r : Value} {Q : Unit → Shared → Prop} {E : Value → Shared → Prop}, X'.prog = X.prog → X'.w = X.w → X'.K = X.K → Inv X' pins σ H s → H D = some (O D a) → S H D a y z a' → RelV y u → RelV z r → (∀ s', Inv X' pins σ (upd H D (O D a')) s' → Q () s') →
      wpAny (model X.prog X.w) X.A (dictSet D u r) Q E s)
    (hc : X.calm = true) (hN : X.N.Nodup) (I : Inv X pins σ H s) (hi : PI X tg iter wi) (ok : BlkOk X.N X.env.scope scope own)
    (hg : ∀ (s : Shared) (H : Hp) (C : Addr) (cl : List (Str × Addr)) (fp : List Addr), PG (X.blk s H scope (compEnvC scope cl C X.env) fp) tg g) (ht : ∀ (s : Shared) (H : Hp) (C : Addr) (cl : List (Str × Addr)) (fp : List Addr), PTs (X.blk s H scope (compEnvC scope cl C X.env) fp) ifs tt)
    (hk : ∀ (s : Shared) (H : Hp) (C : Addr) (cl : List (Str × Addr)) (fp : List Addr), PE (X.blk s H scope (compEnvC scope cl C X.env) fp) kx tk)
    (he : ∀ (s : Shared) (H : Hp) (C : Addr) (cl : List (Str × Addr)) (fp : List Addr), PE (X.blk s H scope (compEnvC scope cl C X.env) fp) vx tv) (hs : ∀ x, foldedSetIterable iter X.env x = pure x)
    (h : tDcG O a0 S wi g tt tk tv (own.map (·.2)) σ H Q)
    (hRR : ∀ D C s' m H', Inv X pins σ H' s' → Q (.ref D) H' → s'.heap.Ns C m → FpOk X pins H' C → compPost (model X.prog X.w) X.A X.xe use Qf (.ref D) C (.ok .next) s') :
    wpAny (model X.prog X.w) X.A (comprehension (.DictComp kx vx [⟨tg, iter, ifs, 0⟩] scope pos) scope X.env pos' newDict false (eval iter X.env) use) Qf X.xe s := by
  have hfree : ∀ y ∈ scope.names, y.2 = .free → ∃ c, X.env.cells.lookup y.1 = some c := fun y hy e => by
    rcases ok.free y hy e with k | k
    · exact I.ok.has _ (.inl k)
    · exact I.ok.has _ (.inr k)
  refine wpAny_comprehension_free (use := use) rfl hs (closure_ok hfree) ok.kind (fun y hy e => by rw [ok.uniq y hy, e])
    (thn (hi.run pins s σ H _ I h) fun xv s1 hx => thn hx fun itv s2 h2 => ?_)
  obtain ⟨it, fp, tn, J, H2, e, I2, T, st2, f2, q⟩ := h2
  subst e
  refine wpAny_newObj_type (newEnv_comp ?_)
  generalize hD : s2.heap.objs.size = D
  have hDn : H2 D = none := I2.hok.fresh (Nat.le_of_eq hD)
  obtain ⟨W, ⟨m0, w0⟩, turn⟩ := q D hDn
  generalize hs3 : ({ s2 with heap := s2.heap.push { cls := .type "dict", data := .dict #[] } } : Shared) = s3
  have I3 : Inv X pins σ (upd H2 D (O D a0)) s3 := by
    rw [← hs3]
    refine I2.laid (t' := s2.toks) (fun b o e => Heap.get?_push_of_some _ e) (Nat.le_of_eq hD) ?_
    rw [← hD]
    exact hnew _ s2.heap I2.big
  have h3 : s3.heap = s2.heap.push { cls := .type "dict", data := .dict #[] } := by rw [← hs3]
  have sz : ∀ b ∈ fp, b < s2.heap.objs.size := fun b hb => by
    obtain ⟨o, e, _⟩ := T.obj _ _ st2 b hb
    exact Heap.lt_size e
  have f3 : ∀ b ∈ fp, FpOk X pins (upd H2 D (O D a0)) b ∧ b < s3.heap.objs.size := fun b hb => by
    have hlt := sz b hb
    refine ⟨⟨?_, (f2 b hb).2⟩, by rw [h3, Heap.size_push]; exact Nat.lt_succ_of_lt hlt⟩
    rw [upd_ne (by rw [← hD]; exact Nat.ne_of_lt hlt)]
    exact (f2 b hb).1
  have st3 : tn 0 s3.heap := T.keep _ _ _ st2 fun b _ o e => by rw [h3]; exact Heap.get?_push_of_some _ e
  have I4 := block_start I3 ok hN f3
  have pg := hg s3 (upd H2 D (O D a0)) s3.heap.objs.size (cellsFrom (s3.heap.objs.size + 1) scope.names (cloFrom X.env.cells scope.names [])) fp
  have pt := ht s3 (upd H2 D (O D a0)) s3.heap.objs.size (cellsFrom (s3.heap.objs.size + 1) scope.names (cloFrom X.env.cells scope.names [])) fp
  have pk := hk s3 (upd H2 D (O D a0)) s3.heap.objs.size (cellsFrom (s3.heap.objs.size + 1) scope.names (cloFrom X.env.cells scope.names [])) fp
  have pe := he s3 (upd H2 D (O D a0)) s3.heap.objs.size (cellsFrom (s3.heap.objs.size + 1) scope.names (cloFrom X.env.cells scope.names [])) fp
  show codeAny _ _ (.compStart (.DictComp kx vx [⟨tg, iter, ifs, 0⟩] scope pos) 0 (.ref it) (.ref D) (compEnvC scope (cellsFrom (s3.heap.objs.size + 1) scope.names (cloFrom X.env.cells scope.names [])) s3.heap.objs.size X.env)) (compPost (model X.prog X.w) X.A X.xe use Qf (.ref D) s3.heap.objs.size) { s3 with heap := pushCells (s3.heap.push { cls := .type "dict", data := .dict #[] }) scope.names }
  have nfp : ∀ b ∈ fp, (upd H2 D (O D a0)) b = none := fun b hb => (f3 b hb).1.1
  generalize hce : compEnvC scope (cellsFrom (s3.heap.objs.size + 1) scope.names (cloFrom X.env.cells scope.names [])) s3.heap.objs.size X.env = ce at I4 pg pt pk pe ⊢
  have cL : ce.locals = s3.heap.objs.size := by subst hce; rfl
  generalize hH3 : upd H2 D (O D a0) = H3 at I3 I4 pg pt pk pe w0 nfp f3
  generalize hs4 : ({ s3 with heap := pushCells (s3.heap.push { cls := .type "dict", data := .dict #[] }) scope.names } : Shared) = s4 at I4 ⊢
  have st4 : tn 0 s4.heap := T.keep _ _ _ st3 fun b _ o e => by rw [← hs4]; exact pushCells_keeps _ _ _ _ (Heap.get?_push_of_some _ e)
  have stat : ∀ {σ' : L2.St} {H' : Hp} {s' : Shared}, Inv (X.blk s3 H3 scope ce fp) [] σ' H' s' → (∀ b ∈ fp, H' b = none) → ∀ b ∈ fp, FpOk (X.blk s3 H3 scope ce fp) [] H' b := fun {σ' H' s'} I' hn b hb =>
    ⟨hn b hb, (I'.ok.exf b hb).1, I'.ok.exfs b hb, .inl hb, fun x c e => (I'.ok.exf b hb).2 x c e, fun p hp => absurd (show p ∈ ([] : List (Addr × Obj)) ++ [] from hp) (by simp)⟩
  have loop : codeAny (model X.prog X.w) X.A (.compLoop (.DictComp kx vx [⟨tg, iter, ifs, 0⟩] scope pos) 0 (.ref it) (.ref D) ce) (compPost (model X.prog X.w) X.A X.xe use Qf (.ref D) s3.heap.objs.size) s4 := by
    refine compLoop_anyD (fun n s' => ∃ i H', Inv (X.blk s3 H3 scope ce fp) [] (wipe σ (own.map (·.2))) H' s' ∧ tn i s'.heap ∧ (∀ b ∈ fp, H' b = none) ∧ W i n H') ?_ m0 ⟨0, H3, I4, st4, nfp, w0⟩
    rintro n s5 ⟨i, H5, I5, st5, n5, w5⟩
    rcases turn i n H5 w5 with ⟨stop, qq⟩ | ⟨go, Nx, hNx, step⟩
    · have td := T.done (X.blk s3 H3 scope ce fp) rfl rfl rfl hc i [] s5 _ H5 (fun _ _ => False) I5 (stat I5 n5) st5 stop
      refine thnF td fun r s6 ⟨hr, I6⟩ => ?_
      subst hr
      have I7 : Inv X pins σ H5 s6 := I3.call' (ch := fp) I6.os I6.base I6.hok I6.bare fun b hb => ⟨(f3 b hb).1.2.2.2.1, (f3 b hb).1.2.1, (f3 b hb).1.2.2.2.2.1, (f3 b hb).1.2.2.2.2.2⟩
      have nC : H5 s3.heap.objs.size = none := by
        have z : H5 ce.locals = none := I6.free
        rw [cL] at z
        exact z
      obtain ⟨m, hn, _⟩ := I6.loc
      have hn : s6.heap.Ns ce.locals m := hn
      rw [cL] at hn
      exact hRR D s3.heap.objs.size s6 m H5 I7 qq hn (I3.fpOk (Nat.le_refl _) nC)
    · have ti := T.item (X.blk s3 H3 scope ce fp) rfl rfl rfl hc i [] s5 _ H5 (fun _ _ => False) I5 (stat I5 n5) st5 go
      refine thnF ti fun r s6 ⟨u, hr, h6⟩ => ?_
      subst hr
      refine thnF h6 fun _ s7 ⟨x, H7, I7, r7, y7, st7, n7⟩ => ?_
      have I7' := I7.pinned (stat I7 n7) (T.obj _ _ st7)
      refine thnF (pg.run _ s7 _ H7 x u _ I7' r7 (step x H7 y7)) fun _ s8 ⟨σ8, H8, I8, hw8, q8⟩ => ?_
      refine thnF (pt.run _ s8 σ8 H8 _ I8 q8) fun b s9 ⟨H9, I9, q9⟩ => ?_
      have fin : ∀ {s' : Shared} {H' : Hp}, Inv (X.blk s3 H3 scope ce fp) ([] ++ pinsAt fp s7.heap) σ8 H' s' → Nx H' → ∃ m, m < n ∧ ∃ i H', Inv (X.blk s3 H3 scope ce fp) [] (wipe σ (own.map (·.2))) H' s' ∧ tn i s'.heap ∧ (∀ b ∈ fp, H' b = none) ∧ W i m H' := fun {s' H'} I' nx => by
        obtain ⟨m', hm, w'⟩ := hNx H' nx
        have pin' : ∀ b ∈ fp, ∀ o, s7.heap.get? b = some o → s'.heap.get? b = some o ∧ H' b = none := fun b hb o e =>
          let z := I'.pin (b, o) (List.mem_append_right _ (List.mem_append_right _ (mem_pinsAt hb e)))
          ⟨z.1, z.2.1⟩
        have hl : (wipe σ (own.map (·.2))).length = σ8.length := by rw [← hw8, wipe_length]
        refine ⟨m', hm, i + 1, H', (I'.unpinned (pins := [])).weak hl (fun j v e => ?_), T.keep _ _ _ st7 fun b hb o e => (pin' b hb o e).1, fun b hb => ?_, w'⟩
        · rw [← hw8] at e
          exact (wipe_some e).1
        · obtain ⟨o, e, _⟩ := T.obj _ _ st7 b hb
          exact (pin' b hb o e).2
      cases b with
      | false =>
        simp only [Bool.false_eq_true, if_false] at q9 ⊢
        exact fin I9 q9
      | true =>
        simp only [if_true] at q9 ⊢
        refine thnF (pk.run _ s9 σ8 H9 _ I9 q9) fun z s10 ⟨yk, H10, I10, r10, q10⟩ => ?_
        refine thnF (pe.run _ s10 σ8 H10 _ I10 q10) fun z2 s11 ⟨yv, H11, I11, r11, a1, a2, hD11, hs11, nx⟩ => ?_
        exact hst (X.blk s3 H3 scope ce fp) rfl rfl rfl I11 hD11 hs11 r10 r11 fun s12 I12 => fin I12 nx
  exact codeAny_compStart_dict loop (T.self X.A 0 _ _ _ st4 loop)
theorem pe_dcg {O : Addr → α → HO} {a0 : α} {S : Hp → Addr → α → V → V → α → Prop} {kx vx tg iter : Expr} {ifs : List Expr} {scope : Scope} {own : List (Str × Nat)} {pos : Pos} {wi : TI} {g : TG} {tt : TT} {tk tv : TE}
    (hnew : ∀ (Hx : Hp) (h : Heap), sysModules < h.objs.size → ObjOk X.prog X.w Hx (h.push { cls := .type "dict", data := .dict #[] }) h.objs.size (O h.objs.size a0))
    (hst : ∀ (X' : Cx) {pins : List (Addr × Obj)} {σ : L2.St} {H : Hp} {s : Shared} {D : Addr} {a a' : α} {y z : V} {u r : Value} {Q : Unit → Shared → Prop} {E : Value → Shared → Prop}, X'.prog = X.prog → X'.w = X.w → X'.K = X.K → Inv X' pins σ H s → H D = some (O D a) → S H D a y z a' → RelV y u → RelV z r → (∀ s', Inv X' pins σ (upd H D (O D a')) s' → Q () s') →
      wpAny (model X.prog X.w) X.A (dictSet D u r) Q E s)
    (hc : X.calm = true) (hN : X.N.Nodup) (hi : PI X tg iter wi) (ok : BlkOk X.N X.env.scope scope own)
    (hg : ∀ (s : Shared) (H : Hp) (C : Addr) (cl : List (Str × Addr)) (fp : List Addr), PG (X.blk s H scope (compEnvC scope cl C X.env) fp) tg g) (ht : ∀ (s : Shared) (H : Hp) (C : Addr) (cl : List (Str × Addr)) (fp : List Addr), PTs (X.blk s H scope (compEnvC scope cl C X.env) fp) ifs tt)
    (hk : ∀ (s : Shared) (H : Hp) (C : Addr) (cl : List (Str × Addr)) (fp : List Addr), PE (X.blk s H scope (compEnvC scope cl C X.env) fp) kx tk)
    (he : ∀ (s : Shared) (H : Hp) (C : Addr) (cl : List (Str × Addr)) (fp : List Addr), PE (X.blk s H scope (compEnvC scope cl C X.env) fp) vx tv) (hs : ∀ x, foldedSetIterable iter X.env x = pure x := by intro _; rfl) :
    PE X (.DictComp kx vx [⟨tg, iter, ifs, 0⟩] scope pos) (tDcG O a0 S wi g tt tk tv (own.map (·.2))) := by
  refine ⟨fun pins s σ H Q I h => ?_⟩
  rw [arm_eval_DictComp]
  refine dcg_core hnew hst hc hN I hi ok hg ht hk he hs h fun D C s' m H' I' q hn f => ⟨m, hn, fun h'' sb => ?_⟩
  obtain ⟨f0, f1, f2, f3, f4, f5⟩ := f
  exact ⟨.ref D, H', I'.turned (t' := s'.toks) (fun b o hb e => (sb.2 b hb).trans e) f0 f1 f3 f4 f5, rfl, q⟩
end
end TL
set_option Elab.async false
set_option linter.all false
set_option maxRecDepth 100000
set_option maxHeartbeats 4000000
namespace TL
open PySem PySem.Spec PyProof.Rows L2
/-! ### dicts with tuple keys, as plain data -/
def putL (ks : List (List Int)) (k : List Int) : List (List Int) := if k ∈ ks then ks else ks ++ [k]
def dceD (g : GM) (c : CM) (mk mv : EM) (τw : Ev) : List D → List (List Int) → Nat → (List (List Int) → Nat → Prop) → Prop
  | [], acc, n, Q => Q acc n
  | x :: r, acc, n, Q => g x τw n fun τ1 n1 => c τ1 n1 fun b n2 => if b = true then mk τ1 n2 fun y n3 => mv τ1 n3 fun _ n4 => ∃ k, y = keyT k ∧ acc.length < sizeLine ∧ dceD g c mk mv τw r (putL acc k) n4 Q else dceD g c mk mv τw r acc n2 Q
theorem ints_V {K : PySem.W.Frag} {F : Hp} : ∀ {k : List Int} {vs : List V}, DpAll K F vs (k.map PyData.int) → vs = k.map V.int
  | [], _, h => by cases h; rfl
  | i :: k, _, h => by
    cases h with
    | cons a b =>
      cases a
      rw [ints_V b]
      rfl
theorem key_plT {K : PySem.W.Frag} {F : Hp} {v : V} {k : List Int} (r : Dp K F v (keyT k)) : ∃ b, v = .ref b ∧ PlT K F b (k.map V.int) := by
  cases r with
  | tup hs ha =>
    rw [ints_V ha] at hs
    exact ⟨_, rfl, hs⟩
def SE (K : PySem.W.Frag) (H : Hp) (_ : Addr) (a : List (List Int × Addr)) (y _ : V) (a' : List (List Int × Addr)) : Prop := ∃ k b, y = .ref b ∧ a.length < sizeLine ∧ (∀ p ∈ a, SqT K H p.2 (p.1.map V.int)) ∧ SqT K H b (k.map V.int) ∧ a' = putB a k b
structure DeI (A : Act) (bx : Option Addr) (n1 : Nat) (H1 F1 : Hp) (D0 : Addr) (acc : List (List Int)) (n : Nat) (H F : Hp) : Prop where
  adv : Adv bx n1 n H1 F1 H F
  fr : F D0 = none
  nb : bx ≠ some D0
  at_ : ∃ kbs, H D0 = some (dE D0 kbs) ∧ (∀ p ∈ kbs, PlT A.K F p.2 (p.1.map V.int)) ∧ kbs.map (·.1) = acc
theorem DeI.step {A : Act} {bx : Option Addr} {n1 n n' : Nat} {H1 F1 H F H' F' : Hp} {D0 : Addr} {acc : List (List Int)} (L : DeI A bx n1 H1 F1 D0 acc n H F) (ad : Adv bx n n' H F H' F') : DeI A bx n1 H1 F1 D0 acc n' H' F' := by
  obtain ⟨kbs, h1, h2, h3⟩ := L.at_
  refine ⟨L.adv.trans ad, ?_, L.nb, kbs, ad.keep D0 _ h1 L.nb, fun p hp => (h2 p hp).mono (ad.fro L.adv.sub), h3⟩
  rw [ad.old D0 (by rw [h1]; exact fun z => nomatch z)]
  exact L.fr
theorem putB_keys {kbs : List (List Int × Addr)} {acc : List (List Int)} (e : kbs.map (·.1) = acc) (k : List Int) (b : Addr) : (putB kbs k b).map (·.1) = putL acc k := by
  unfold putB putL
  rw [e]
  split
  · exact e
  · rw [List.map_append, e]
    rfl
theorem putB_pl {K : PySem.W.Frag} {F : Hp} {kbs : List (List Int × Addr)} {k : List Int} {b : Addr} (h : ∀ p ∈ kbs, PlT K F p.2 (p.1.map V.int)) (hb : PlT K F b (k.map V.int)) : ∀ p ∈ putB kbs k b, PlT K F p.2 (p.1.map V.int) := by
  intro p hp
  unfold putB at hp
  split at hp
  · exact h p hp
  · rcases List.mem_append.mp hp with hp | hp
    · exact h p hp
    · rw [List.mem_singleton] at hp
      subst hp
      exact hb
theorem dce_read {A : Act} {τ : Ev} {n1 : Nat} {σ : L2.St} {H1 F1 : Hp} {vs : List Nat} {J : It} {items : List D} {g : GM} {c : CM} {mk mv : EM} {ws : List Nat} {P : List (List Int) → Nat → Prop} {Qd : Addr → Hp → Prop} (R : Rel A τ n1 σ H1 F1) (hw : ∀ i ∈ ws, i ∈ vs)
    (y : YH A.K J items A.bx n1 H1 F1) (h : dceD g c mk mv (wipeE τ vs) items [] n1 P)
    (hq : ∀ D0 acc n' H' F', H1 D0 = none → P acc n' → DeI A A.bx n1 H1 F1 D0 acc n' H' F' → Qd D0 H') :
    ∀ D0, H1 D0 = none → ∃ W : Nat → Nat → Hp → Prop, (∃ m, W 0 m (upd H1 D0 (dE D0 []))) ∧ ∀ i m H, W i m H →
  (J.stop i H ∧ Qd D0 H) ∨ (J.go i H ∧ ∃ Nx : Hp → Prop, (∀ H', Nx H' → ∃ m', m' < m ∧ W (i + 1) m' H') ∧ ∀ x H', J.yld i H x H' → tG A.K ws g x (L2.wipe σ vs) H' fun σ2 H2 => L2.wipe σ2 vs = L2.wipe σ vs ∧ tT A.K c σ2 H2 fun b H3 =>
    if b = true then tE A.K .fz mk σ2 H3 fun y H4 => tE A.K .fz mv σ2 H4 fun z H5 => ∃ a a', H5 D0 = some (dE D0 a) ∧ SE A.K H5 D0 a y z a' ∧ Nx (upd H5 D0 (dE D0 a')) else Nx H3) := by
  intro D0 hD0
  have hF1 : F1 D0 = none := by
    cases e : F1 D0 with
    | none => rfl
    | some o => rw [R.same D0 o e] at hD0; cases hD0
  have nb : A.bx ≠ some D0 := fun z => by rw [R.box D0 z] at hD0; cases hD0
  refine ⟨fun i m H => ∃ acc n F, m = items.length - i ∧ i ≤ items.length ∧ DeI A A.bx n1 H1 F1 D0 acc n H F ∧ dceD g c mk mv (wipeE τ vs) (items.drop i) acc n P, ⟨items.length, [], n1, F1, rfl, Nat.zero_le _, ⟨(PAdv.new' R.same hD0).adv R.box, hF1, nb, [], upd_same, (fun p hp => by cases hp), rfl⟩, by rw [List.drop_zero]; exact h⟩, ?_⟩
  rintro i m H ⟨acc, n, F, rfl, hi, L, q⟩
  obtain ⟨y1, y2⟩ := y i n H F L.adv
  by_cases hl : i < items.length
  · have ed : items.drop i = items[i] :: items.drop (i + 1) := List.drop_eq_getElem_cons hl
    rw [ed] at q
    obtain ⟨g1, g2⟩ := y1 items[i] (List.getElem?_eq_getElem hl)
    refine .inr ⟨g1, fun H' => ∃ acc n F, DeI A A.bx n1 H1 F1 D0 acc n H' F ∧ dceD g c mk mv (wipeE τ vs) (items.drop (i + 1)) acc n P, ?_, ?_⟩
    · rintro H' ⟨acc', n', F', L', q'⟩
      exact ⟨items.length - (i + 1), by omega, acc', n', F', rfl, hl, L', q'⟩
    · intro x H2 hy
      obtain ⟨F2, a2, d2⟩ := g2 x H2 hy
      have L2' := L.step (a2.adv (R.step L.adv).box)
      have R2 := (R.step L2'.adv).wipe vs
      refine ⟨A, wipeE τ vs, n, F2, _, items[i], rfl, R2, d2, q, fun τ3 n3 σ3 H3 F3 p3 R3 s3 a3 x3 => ⟨?_, ?_⟩⟩
      · rw [x3.1 vs hw]
        exact lc_read.wipe_wipe σ vs
      · have L3 := L2'.step a3
        refine tT_go rfl R3 p3 fun t n4 H4 F4 p4 a4 => ?_
        have L4 := L3.step a4
        cases t with
        | true =>
          rw [if_pos rfl] at p4 ⊢
          refine tE_run rfl (R3.step a4) p4 fun d n5 v H5 F5 p5 a5 r5 => ?_
          refine tE_run rfl ((R3.step a4).step a5) p5 fun d2 n6 v2 H6 F6 p6 a6 r6 => ?_
          obtain ⟨k, rfl, hz, p6⟩ := p6
          have R6 := ((R3.step a4).step a5).step a6
          have L6 := (L4.step a5).step a6
          obtain ⟨kbs, h61, h62, h63⟩ := L6.at_
          obtain ⟨b, rfl, hb⟩ := key_plT (dp_mono (a6.fro ((R3.step a4).step a5).same) (keyT k) v r5)
          refine ⟨kbs, putB kbs k b, h61, ⟨k, b, rfl, by rw [← List.length_map (as := kbs) (·.1), h63]; exact hz, fun p hp => seqT L6.adv.sub (h62 p hp).sq, seqT L6.adv.sub hb.sq, rfl⟩, putL acc k, n6, F6, ⟨⟨fun c o e hb' => ?_, L6.adv.old, fun c o e => ?_, fun b' hb' => ?_⟩, L6.fr, nb, putB kbs k b, upd_same, putB_pl h62 hb, putB_keys h63 k b⟩, p6⟩
          · rw [upd_ne (ne_of_none e hD0)]; exact L6.adv.keep c o e hb'
          · rw [upd_ne (ne_of_none e L6.fr)]; exact L6.adv.sub c o e
          · rw [upd_ne (fun z => by subst z; exact nb hb')]; exact L6.adv.box b' hb'
        | false =>
          rw [if_neg Bool.false_ne_true] at p4 ⊢
          exact ⟨acc, n4, F4, L4, p4⟩
  · have ei : i = items.length := by omega
    subst ei
    rw [List.drop_length] at q
    exact .inl ⟨y2 (Nat.le_refl _), hq D0 acc n H F hD0 q L⟩
/-- {k: v for ..}, the keys tuples of ints -/
def mDcE (mi : IM) (g : GM) (c : CM) (mk mv : EM) (vs : List Nat) : EM := fun τ n Q => mi τ n fun items n1 => dceD g c mk mv (wipeE τ vs) items [] n1 fun ks n2 => Q (pdD (ks.map keyT)) n2
section
variable {X : Cx} {K : PySem.W.Frag} {tg iter : Expr} {a b o kx vx : Expr} {ma mb mk mv : EM} {p pos tpos spos dpos : Pos} {kr : Kd} {x : Str}
theorem e_dcE {k : Nat} {ifs : List Expr} {scope : Scope} {own : List (Str × Nat)} {mi : IM} {g : GM} {c : CM} {ws : List Nat} (hr : Room k X.A) (hc : X.calm = true) (hN : X.N.Nodup) (hi : J2 X tg iter mi) (ok : BlkOk X.N X.env.scope scope own)
    (hg : ∀ (s : Shared) (H : Hp) (C : Addr) (cl : List (Str × Addr)) (fp : List Addr), G2 (X.blk s H scope (compEnvC scope cl C X.env) fp) ws tg g) (ht : ∀ (s : Shared) (H : Hp) (C : Addr) (cl : List (Str × Addr)) (fp : List Addr), C2 (X.blk s H scope (compEnvC scope cl C X.env) fp) ifs c)
    (hk : ∀ (s : Shared) (H : Hp) (C : Addr) (cl : List (Str × Addr)) (fp : List Addr), E2 (X.blk s H scope (compEnvC scope cl C X.env) fp) .fz kx mk)
    (hv : ∀ (s : Shared) (H : Hp) (C : Addr) (cl : List (Str × Addr)) (fp : List Addr), E2 (X.blk s H scope (compEnvC scope cl C X.env) fp) .fz vx mv) (hw : ∀ i ∈ ws, i ∈ own.map (·.2) := by decide) (hs : ∀ x, foldedSetIterable iter X.env x = pure x := by intro _; rfl) :
    E2 X .fz (.DictComp kx vx [⟨tg, iter, ifs, 0⟩] scope dpos) (mDcE mi g c mk mv (own.map (·.2))) := by
  have hu := hr.units
  refine ⟨pe_weak (pe_dcg (O := dE) (a0 := []) (S := SE X.K) (tk := tE X.K .fz mk) (tv := tE X.K .fz mv) (g := tG X.K ws g) (tt := tT X.K c)
    (fun Hx h hb => dE_ok (dE_new h hb))
    (fun X' pins σ H s D a a' y z u r Q E e1 e2 e3 I hD hS ry rz hh => by
      obtain ⟨k, b, rfl, hz, hk, hb, rfl⟩ := hS
      cases ry
      rw [← e1, ← e2]
      exact dE_set (by omega) I hD hz (by rw [e3]; exact hk) (by rw [e3]; exact hb) hh)
    hc hN hi.pi ok (fun s H C cl fp => (hg s H C cl fp).pg) (fun s H C cl fp => (ht s H C cl fp).pt) (fun s H C cl fp => (hk s H C cl fp).pe) (fun s H C cl fp => (hv s H C cl fp).pe) hs)
    fun σ H Q ⟨A, τ, n, F, P, eK, R, hm, hq⟩ => ⟨A, τ, n, F, _, eK, R, hm, fun items n1 J H1 F1 p1 a1 yy => ?_⟩⟩
  have eK' : A.K = X.K := eK
  have := dce_read (Qd := fun D0 H' => Q (.ref D0) H') (R.step a1) hw (eK'.symm ▸ yy) p1 fun D0 acc n' H' F' hD p' L => by
    obtain ⟨kbs, h1, h2, h3⟩ := L.at_
    have ad := a1.trans L.adv
    have sf : Same F' (upd F' D0 (dE D0 kbs)) := fun c o z => by rw [upd_ne (ne_of_none z L.fr)]; exact z
    have hH : H D0 = none := a1.none_back D0 hD
    have ad2 : Adv A.bx n n' H F H' (upd F' D0 (dE D0 kbs)) := by
      refine ⟨ad.keep, fun c hc => ?_, fun c o z => ?_, ad.box⟩
      · rw [upd_ne (fun z => by subst z; exact hc hH)]
        exact ad.old c hc
      · by_cases q : c = D0
        · subst q; rw [upd_same] at z; cases z; exact h1
        · rw [upd_ne q] at z; exact ad.sub c o z
    refine hq _ n' _ H' _ p' ad2 ?_
    rw [← eK']
    refine .pdc ⟨kbs, upd_same, fun p hp => (h2 p hp).mono sf, ?_⟩
    rw [← h3, List.map_map]
    rfl
  rw [eK'] at this
  exact this
/-- k in d, d such a dict -/
def dMemE (neg : Bool) : Op2 := fun x y P => ∃ (k : List Int) (ks : List (List Int)), x = keyT k ∧ y = pdD (ks.map keyT) ∧ P (.bool (if neg then !decide (k ∈ ks) else decide (k ∈ ks)))
theorem map_injL {α β : Type} {f : α → β} (hf : ∀ a b, f a = f b → a = b) : ∀ {xs ys : List α}, xs.map f = ys.map f → xs = ys
  | [], [], _ => rfl
  | [], _ :: _, h => by cases h
  | _ :: _, [], h => by cases h
  | a :: xs, b :: ys, h => by
    rw [List.map_cons, List.map_cons] at h
    injection h with h1 h2
    rw [hf a b h1, map_injL hf h2]
theorem keyT_inj {k k' : List Int} (h : keyT k = keyT k') : k = k' := by
  unfold keyT at h
  injection h with h
  exact map_injL (fun a b e => by injection e) h
theorem does_inE {K : PySem.W.Frag} (neg : Bool) : Does2 K .fz (dMemE neg) (rInE K neg) := by
  rintro H F vx vy x y P Q s rx ry ⟨k, ks, rfl, rfl, p⟩ hq
  rcases rx with rx | ⟨_, _, _, e, _⟩
  rotate_left
  · cases e
  rcases ry with ry | ⟨_, _, _, e, _⟩
  rotate_left
  · cases e
  obtain ⟨b, rfl, hb⟩ := key_plT rx
  cases ry with
  | pdc hp =>
    obtain ⟨kbs, h1, h2, h3⟩ := hp
    refine ⟨_, b, kbs, k, rfl, rfl, s _ _ h1, fun p hp => seqT s (h2 p hp).sq, seqT s hb.sq, hq _ _ H F p (PAdv.refl s) ?_⟩
    have e : ks = kbs.map (·.1) := by
      refine map_injL (fun a b e => keyT_inj e) (h3.trans ?_)
      rw [List.map_map]
      rfl
    rw [e]
    exact .bl _
theorem e_inE {k : Nat} (hr : Room k X.A) (ha : E2 X .bw a ma) (hb : E2 X .bw b mb) (hm : behindInMarks .In b = false := by rfl) : E2 X .fz (.Compare a [.In] [b] pos) (m2 (dMemE false) ma mb) := e_cmp (op_inE (by have := hr.units; omega)) (does_inE false) ha hb hm
theorem e_ninE {k : Nat} (hr : Room k X.A) (ha : E2 X .bw a ma) (hb : E2 X .bw b mb) (hm : behindInMarks .NotIn b = false := by rfl) : E2 X .fz (.Compare a [.NotIn] [b] pos) (m2 (dMemE true) ma mb) := e_cmp (op_ninE (by have := hr.units; omega)) (does_inE true) ha hb hm
theorem t_inE {k : Nat} (hr : Room k X.A) (ha : E2 X .bw a ma) (hb : E2 X .bw b mb) (hm : behindInMarks .In b = false := by rfl) : T2 X (.Compare a [.In] [b] pos) (mT (m2 (dMemE false) ma mb)) := t_cmp (op_inE (by have := hr.units; omega)) (does_inE false) ha hb hm
theorem t_ninE {k : Nat} (hr : Room k X.A) (ha : E2 X .bw a ma) (hb : E2 X .bw b mb) (hm : behindInMarks .NotIn b = false := by rfl) : T2 X (.Compare a [.NotIn] [b] pos) (mT (m2 (dMemE true) ma mb)) := t_cmp (op_ninE (by have := hr.units; omega)) (does_inE true) ha hb hm
end
@[simp] theorem mDcE_ap {mi : IM} {g : GM} {c : CM} {mk mv : EM} {vs : List Nat} {τ : Ev} {n : Nat} {Q : D → Nat → Prop} : mDcE mi g c mk mv vs τ n Q ↔ mi τ n fun items n1 => dceD g c mk mv (wipeE τ vs) items [] n1 fun ks n2 => Q (pdD (ks.map keyT)) n2 := Iff.rfl
end TL
set_option Elab.async false
set_option linter.all false
set_option maxRecDepth 100000
set_option maxHeartbeats 4000000
namespace TL
open PySem PySem.Spec PyProof.Rows L2
/-! ### xs[i] += e; dict([(k, v) ..]) -/
section
variable {X : Cx}
theorem get_listG : PGet X (rIxL X.K) := by
  intro pins s σ H x y v u Q I rx ry h
  obtain ⟨p, xs, i, z, rfl, rfl, hq, he, q⟩ := h
  cases rx
  obtain ⟨t, rfl⟩ := ry
  obtain ⟨its, r, pl, hz⟩ := I.list hq
  obtain ⟨j, h1, h2, h3, h4, h5⟩ := atI_get he
  obtain ⟨w, ew, rw'⟩ := r.get h2
  have hl := r.length
  have hn := line63
  have fin : EP X pins σ Q w s := ⟨z, H, I, rw', q⟩
  by_cases h0 : 0 ≤ i
  · have hj : i.toNat = j := by
      rw [seqIndex_of h0 h5] at h1
      exact Option.some.inj h1
    exact wpAny_getItem_list pl.isList h0 (by omega) (by rw [hj]; simpa using ew) fin
  · have hj : (i + (its.toArray.size : Int)).toNat = j := by
      rw [seqIndex_neg (by omega) h4] at h1
      rw [List.size_toArray, ← hl]
      exact Option.some.inj h1
    exact wpAny_getItem_list_neg pl.isList (by omega) (by rw [List.size_toArray] <;> omega) (by omega) (by rw [hj]; simpa using ew) fin
variable {o b e : Expr} {mb me : EM} {kr : Kd} {tpos pos : Pos} {x : Str}
/-- xs[i] op= e of ints, xs owned at slot j -/
def sAugIx (f : Int → Int → Int) (j : Nat) (mi me : EM) : SM := fun E τ n => ∃ xs, τ[j]? = some (some (.ow xs)) ∧ mi τ n fun y n1 => ∃ (i : Int) (k : Nat) (z : Int), y = .int i ∧ ixN xs.length i = some k ∧ xs[k]? = some (.int z) ∧ me τ n1 fun d n2 => ∃ w : Int, d = .int w ∧ E.nx (τ.set j (some (.ow (xs.set k (.int (f z w)))))) n2
theorem p_augIx {op : Operator} {f : Int → Int → Int} {j : Nat} (hp : PIp X op (ipI f)) (ho : PE X o (tVar j)) (hi : E2 X .bw b mb) (h : E2 X .bw e me)
    (ha : ∀ ov iv new, augStore b ov iv new = (do holding [new, ov, iv] (setItem ov iv new); release [new, ov, iv] []; pure .next) := by intros; rfl) : P2 X kr (.AugAssign (.Subscript o b tpos) op e pos) (sAugIx f j mb me) := by
  refine ⟨fun Wx tk => ps_weak (ps_augS ho hi.pe get_listG h.pe hp set_list ha) fun Dd σ H ⟨A, τ, n, F, E, eK, R, ⟨xs, e0, p⟩, e⟩ => ?_⟩
  obtain ⟨w, g1, g2⟩ := R.sl j _ e0
  refine ⟨w, g1, tE_run eK R p ?_⟩
  rintro y n1 vy H1 F1 ⟨i, k, z, rfl, hk, hz, p1⟩ a1 r1
  have R1 := R.step a1
  obtain ⟨w', g1', l, vs, rfl, k1, k2, k3, k4⟩ := R1.sl j _ e0
  rw [g1] at g1'
  cases g1'
  obtain ⟨v0, ev0, dv0⟩ := dpAll_get k4 hz
  cases dv0
  have hk' : ixN vs.length i = some k := by rw [dpAll_len k4]; exact hk
  refine ⟨l, vs, i, .int z, rfl, bw_int r1, .inl (.inl k3), by unfold atI; rw [hk']; exact ev0, tE_run eK R1 p1 ?_⟩
  rintro d n2 vd H2 F2 ⟨u, rfl, p2⟩ a2 r2
  have R2 := R1.step a2
  obtain ⟨w', g1', l', vs', e1, k1', k2', k3', k4'⟩ := R2.sl j _ e0
  rw [g1] at g1'
  cases g1'
  cases e1
  have hk2 : ixN vs'.length i = some k := by rw [dpAll_len k4']; exact hk
  exact ⟨z, u, rfl, bw_int r2, l, vs', i, k, rfl, bw_int r1, k3', hk2, e.nx _ n2 _ _ F2 p2 (R2.upd e0 g1 (dpAll_set (.int _) k k4')) ((a1.trans a2).fro R.same)⟩
/-- name = dict([(k, v) ..]) -/
def sSetDp (i : Nat) (ma : EM) : SM := fun E τ n => ma τ n fun d n1 => ∃ kvs : List (Key × D), d = .list (kvs.map fun p => .tuple [keyD p.1, p.2]) ∧ E.nx (τ.set i (some (.dk (kvs.foldl (fun acc p => putD acc p.1 p.2) [])))) n1
theorem KD.merge {K : PySem.W.Frag} {F : Hp} : ∀ {more : List (Key × V)} {ms : List (Key × D)} {ws : List (Key × V)} {kvs : List (Key × D)}, KD K F more ms → KD K F ws kvs → KD K F (mergeK ws more) (ms.foldl (fun acc p => putD acc p.1 p.2) kvs) := by
  intro more ms ws kvs h
  unfold KD at h
  induction h generalizing ws kvs with
  | nil => exact id
  | cons a _ ih =>
    rename_i p q _ _ _
    intro h0
    show KD K F (mergeK (putK ws p.1 p.2) _) (List.foldl _ (putD kvs q.1 q.2) _)
    refine ih ?_
    rw [a.1]
    exact h0.put q.1 a.2
theorem pairs_read {K : PySem.W.Frag} {H F : Hp} (s : Same F H) : ∀ {kvs : List (Key × D)} {vs : List V}, DpAll K F vs (kvs.map fun p => PyData.tuple [keyD p.1, p.2]) →
    ∃ (ps : List Addr) (ws : List (Key × V)), vs = ps.map V.ref ∧ Paired (fun p kv => SqT K H p [kV kv.1, kv.2]) ps ws ∧ KD K F ws kvs
  | [], _, h => by cases h; exact ⟨[], [], rfl, .nil, .nil⟩
  | p :: r, _, h => by
    cases h with
    | cons a b =>
      obtain ⟨ps, ws, rfl, h1, h2⟩ := pairs_read s b
      cases a with
      | tup hs ha =>
        cases ha with
        | cons c1 c2 =>
          cases c2 with
          | cons c2 c3 =>
            cases c3
            rw [key_eq c1] at hs
            exact ⟨_ :: ps, (p.1, _) :: ws, rfl, .cons (seqT s hs.sq) h1, .cons ⟨rfl, c2⟩ h2⟩
theorem p_setDp {i : Nat} {pos' p cpos : Pos} {a : Expr} {ma : EM} (hN0 : X.N.Nodup) (hi0 : X.N[i]? = some x) (hx : Loc X.env.scope x) (hc : X.calm = true) (hg : Gl X "dict") (hm : X.mg "dict" = none) (ha : E2 X .bw a ma)
    (he : starEach [a] X.env = (false, eval a X.env) :: starEach [] X.env := by rfl) (hpl : (backTo cpos (starEach [] X.env)).any (·.1) = false := by rfl)
    (hsw : swapsWith (.Call (.Name "dict" p) [a] [] cpos) (some (.Name x pos')) pos.line X.env = pure false := by rfl)
    (hf : X.fn x = true ∨ X.env.scope.names.lookup x = some .local := by first | exact .inl rfl | exact .inr rfl | assumption) :
    P2 X kr (.Assign [.Name x pos'] (.Call (.Name "dict" p) [a] [] cpos) pos) (sSetDp i ma) := by
  refine ⟨fun Wx tk => ps_weak (ps_set hN0 hi0 hx (pe_callTy (call_dictP hc) hg hm PyProof.Rows.boot_dict (pa_cons ha.pe pa_nil he) (by decide) (by decide) he hpl) hsw hf) fun Dd σ H ⟨A, τ, n, F, E, eK, R, hm, e⟩ => tE_run eK R hm ?_⟩
  rintro d n1 v H1 F1 ⟨kvs, rfl, p1⟩ a1 r1
  have R1 := R.step a1
  obtain ⟨l, vs, rfl, hq, hd⟩ := bw_list a1.sub r1
  obtain ⟨ps, ws, rfl, h1, h2⟩ := pairs_read a1.sub hd
  refine ⟨l, ps, ws, rfl, hq, h1, fun q hq => ?_⟩
  have hF : F1 q = none := by
    cases e : F1 q with
    | none => rfl
    | some o => rw [a1.sub q o e] at hq; cases hq
  have pa : PAdv H1 F1 (upd H1 q (.dK (mergeK [] ws))) (upd F1 q (.dK (mergeK [] ws))) := PAdv.new a1.sub hq
  have sf : Same F1 (upd F1 q (.dK (mergeK [] ws))) := pa.fro a1.sub
  have ad := a1.trans (pa.adv R1.box)
  refine e.nx _ n1 _ _ _ p1 ((R.step ad).setS (s := .dk (kvs.foldl (fun acc p => putD acc p.1 p.2) [])) i ⟨q, _, rfl, upd_same, ?_⟩ fun z => by cases z) (ad.fro R.same)
  rw [eK]
  exact (KD.merge h2 .nil).mono sf
end
@[simp] theorem sAugIx_ap {f : Int → Int → Int} {j : Nat} {mi me : EM} {E : En} {τ : Ev} {n : Nat} : sAugIx f j mi me E τ n ↔ ∃ xs, τ[j]? = some (some (.ow xs)) ∧ mi τ n fun y n1 => ∃ (i : Int) (k : Nat) (z : Int), y = .int i ∧ ixN xs.length i = some k ∧ xs[k]? = some (.int z) ∧ me τ n1 fun d n2 => ∃ w : Int, d = .int w ∧ E.nx (τ.set j (some (.ow (xs.set k (.int (f z w)))))) n2 := Iff.rfl
@[simp] theorem sSetDp_ap {i : Nat} {ma : EM} {E : En} {τ : Ev} {n : Nat} : sSetDp i ma E τ n ↔ ma τ n fun d n1 => ∃ kvs : List (Key × D), d = .list (kvs.map fun p => .tuple [keyD p.1, p.2]) ∧ E.nx (τ.set i (some (.dk (kvs.foldl (fun acc p => putD acc p.1 p.2) [])))) n1 := Iff.rfl
end TL
set_option Elab.async false
set_option linter.all false
set_option maxRecDepth 100000
set_option maxHeartbeats 4000000
namespace TL
open PySem PySem.Spec PyProof.Rows L2
/-! ### two names at once, some of them in cells: by a tuple -/
section
variable {X : Cx} {a b : Expr} {ma mb : EM} {kr : Kd} {pos : Pos}
theorem p_parT {k1 k2 : Kd} {i j : Nat} {x y : Str} {px py pt : Pos} {kt q2 pt2} (hk1 : k1 ≠ .bw) (hk2 : k2 ≠ .bw) (hc : X.calm = true) (hN : X.N.Nodup) (hi : X.N[i]? = some x) (hj : X.N[j]? = some y) (hij : i ≠ j)
    (hx : Loc X.env.scope x) (hy : Loc X.env.scope y) (ha : E2 X k1 a ma) (hb : E2 X k2 b mb)
    (hw : swappedStores [.Tuple [.Name x px, .Name y py] kt pt] (.Tuple [a, b] q2 pt2) X.env = pure none := by rfl)
    (hs : swapsWithSole [.Tuple [.Name x px, .Name y py] kt pt] (.Tuple [a, b] q2 pt2) pos.line X.env = pure false := by rfl)
    (h1 : (assignEach [.Tuple [.Name x px, .Name y py] kt pt] X.env).map (·.2) = [assign (.Tuple [.Name x px, .Name y py] kt pt) X.env] := by rfl)
    (s1 : starEach [a, b] X.env = (false, eval a X.env) :: starEach [b] X.env := by rfl) (s2 : starEach [b] X.env = (false, eval b X.env) :: starEach [] X.env := by rfl)
    (hfx : X.fn x = true ∨ X.env.scope.names.lookup x = some .local := by first | exact .inl rfl | exact .inr rfl | assumption) (hfy : X.fn y = true ∨ X.env.scope.names.lookup y = some .local := by first | exact .inl rfl | exact .inr rfl | assumption)
    (t1 : (assignEach [.Name x px, .Name y py] X.env).map (·.2) = assign (.Name x px) X.env :: (assignEach [.Name y py] X.env).map (·.2) := by rfl) (t2 : (assignEach [.Name y py] X.env).map (·.2) = assign (.Name y py) X.env :: (assignEach [] X.env).map (·.2) := by rfl)
    (hn : (assignEach [.Name x px, .Name y py] X.env).length = 2 := by rfl) (hst : (assignEach [.Name x px, .Name y py] X.env).findIdx? (·.1) = none := by rfl) :
    P2 X kr (.Assign [.Tuple [.Name x px, .Name y py] kt pt] (.Tuple [a, b] q2 pt2) pos) (sPar k1 k2 i j ma mb) := by
  refine ⟨fun Wx tk => ps_weak (ps_asg (pe_tup (pa_cons ha.pe (pa_cons hb.pe pa_nil s2) s1)) (pg_tup hc (pgs_cons (pg_name hN hi hx hfx) (pgs_cons (pg_name hN hj hy hfy) pgs_nil t2) t1) hn hst) hs hw h1) fun Dd σ H ⟨A, τ, n, F, E, eK, R, p, e⟩ => ?_⟩
  refine tE_run eK R p fun d1 n1 v1 H1 F1 p1 a1 r1 => tE_run eK (R.step a1) p1 fun d2 n2 v2 H2 F2 p2 a2 r2 => ?_
  rw [← eK] at r1 r2
  have a12 := a1.trans a2
  refine ⟨by show 2 ≤ sizeLine; decide, fun q hq => ⟨q, [v1, v2], rfl, .inl (.inl upd_same), rfl, v1, [v2], rfl, v2, [], rfl, rfl, ?_⟩⟩
  have R2 : Rel A ((τ.set i (some (slOf k1 d1))).set j (some (slOf k2 d2))) n2 ((σ.set i (some v1)).set j (some v2)) H2 F2 := by
    have R1 : Rel A (τ.set i (some (slOf k1 d1))) n2 (σ.set i (some v1)) H2 F2 := (R.set1 i hk1 a1 r1).step a2
    exact R1.set (Hs := H1) j hk2 (fun a h => R.h0some (a1.none_back a h)) (fun l s b hl e1 e0 e2 => ((R.set1 i hk1 a1 r1).own e1 e0 e2).2.2) r2
  have a3 : Adv A.bx n2 n2 H2 F2 (upd H2 q (.tup [v1, v2])) F2 := (PAdv.new' a2.sub hq).adv R2.box
  exact e.nx _ n2 _ _ F2 p2 (R2.step a3) ((a12.trans a3).fro R.same)
end
end TL
set_option Elab.async false
set_option linter.all false
set_option maxRecDepth 100000
set_option maxHeartbeats 4000000
namespace TL
open PySem PySem.Spec PyProof.Rows L2
/-! ### sum of a list of truths -/
def cntB (bs : List Bool) : Int := ((bs.filter id).length : Nat)
def bv (bs : List Bool) (i : Nat) : Int := if bs.getD i false = true then 1 else 0
theorem preSum_bv (bs : List Bool) : ∀ i, i ≤ bs.length → preSum (bv bs) i = cntB (bs.take i)
  | 0, _ => rfl
  | i + 1, h => by
    have ih := preSum_bv bs i (by omega)
    show preSum (bv bs) i + bv bs i = _
    rw [ih, List.take_succ_eq_append_getElem h]
    unfold cntB bv
    rw [List.filter_append, List.length_append]
    have e : bs.getD i false = bs[i] := by simp [show i < bs.length by omega]
    rw [e]
    cases bs[i] <;> simp
section
variable {prog : Program} {w : World} {A : Around} {E : Value → Shared → Prop} {s : Shared} {t : Addr}
theorem sum_bools {bs : List Bool} {items : Array Value} {Q : Value → Shared → Prop} (hh : A.handled = none) (ht : s.heap.IsList t items) (hi : items = (bs.map Value.bool).toArray)
    (h : ∀ h' tk t', (∀ b o, s.heap.get? b = some o → h'.get? b = some o) → Q (.int (cntB bs) t') { s with heap := h', toks := tk }) :
    wpAny (model prog w) A (call (.builtin "sum") [.ref t]) Q E s := by
  obtain ⟨o, ho, hc, n, hd⟩ := id ht
  have hne : t ≠ s.heap.objs.size := Nat.ne_of_lt (Heap.lt_size ho)
  have hsz : items.size = bs.length := by rw [hi]; simp
  have W := (Walks.list (prog := prog) (w := w) (A := A.in1) hh s.heap.objs.size t hne items).toS
  rw [hsz] at W
  refine call_sum_walkAnyB (wpAny_pyIter_list ht ?_)
  refine ⟨s.heap.objs.size, _, _, _, _, _, _, bv bs, rfl, W, ⟨⟨_, Heap.get?_push_size _ rfl, rfl, rfl⟩, ht.at fun o e => Heap.get?_push_of_some _ e⟩, fun b hb => ?_, fun i v hP => ?_, fun s' t' hm => ?_⟩
  · rcases List.mem_cons.mp hb with rfl | hb
    · exact Heap.lt_size (Heap.get?_push_size _ rfl)
    · obtain rfl := List.mem_singleton.mp hb
      exact Heap.lt_size (Heap.get?_push_of_some _ ho)
  · have hP' : items[i]? = some v := hP
    rw [hi, List.getElem?_toArray, List.getElem?_map] at hP'
    obtain ⟨b, hb, rfl⟩ := Option.map_eq_some_iff.mp hP'
    refine .inr ⟨b, rfl, ?_⟩
    unfold bv
    simp [hb]
  · obtain ⟨h', g', d', tk', os'⟩ := s'
    have e1 : g' = s.gens := hm.gens
    have e2 : d' = s.drawn := hm.drawn
    have e3 : os' = s.os := hm.os
    subst e1 e2 e3
    rw [preSum_bv bs _ (Nat.le_refl _), List.take_length]
    exact h h' tk' t' fun b o e => hm.heap b o (fun hb => absurd (Heap.lt_size e) ((List.mem_singleton.mp hb) ▸ Nat.lt_irrefl _)) (Heap.get?_push_of_some _ e)
end
section
variable {X : Cx} {K : PySem.W.Frag} {a : Expr} {ma : EM} {p pos : Pos}
def rSumB (K : PySem.W.Frag) : List V → Hp → VK → Prop := fun vs H Q => ∃ (a : Addr) (bs : List Bool), vs = [V.ref a] ∧ SqL K H a (bs.map V.bl) ∧ Q (.int (cntB bs)) H
theorem vals_bools : ∀ {bs : List Bool} {us : List Value}, Vals (bs.map V.bl) us → us = bs.map Value.bool
  | [], _, .nil => rfl
  | b :: bs, _, .cons r t => by
    cases r
    rw [vals_bools t]
    rfl
theorem cr_sumB (hc : X.calm = true) : CallR X (.builtin "sum") (rSumB X.K) := by
  intro pins s σ H vs us Q I r h
  obtain ⟨a, bs, rfl, hs, q⟩ := h
  obtain ⟨its, rv, pl, _⟩ := I.list hs
  rw [Vals.ref1 r]
  refine sum_bools (I.ok.hd hc) pl.isList (by rw [vals_bools rv]) fun h' tk t' hk => ?_
  exact ⟨.int _, H, I.kept hk, ⟨_, rfl⟩, q⟩
def dSumB : Op1 := fun x P => ∃ bs : List Bool, x = .list (bs.map .bool) ∧ P (.int (cntB bs))
theorem dpAll_bools {K : PySem.W.Frag} {F : Hp} : ∀ {bs : List Bool} {vs : List V}, DpAll K F vs (bs.map PyData.bool) → vs = bs.map V.bl
  | [], _, h => by cases h; rfl
  | b :: bs, _, h => by
    cases h with
    | cons a t =>
      cases a
      rw [dpAll_bools t]
      rfl
theorem does_sumB : DoesF K .fz dSumB (rSumB K) := by
  rintro H F vx x P Q s rx ⟨bs, rfl, p⟩ hq
  obtain ⟨l, vs, rfl, h1, h2⟩ := bw_list s rx
  rw [dpAll_bools h2] at h1
  exact ⟨l, bs, rfl, h1, hq _ _ H F p (PAdv.refl s) (.int _)⟩
theorem e_sumB (hc : X.calm = true) (ha : E2 X .bw a ma) (hg : Gl X "sum") (hm : X.mg "sum" = none) (he : starEach [a] X.env = (false, eval a X.env) :: starEach [] X.env := by rfl) (hpl : (backTo pos (starEach [] X.env)).any (·.1) = false := by rfl) : E2 X .fz (.Call (.Name "sum" p) [a] [] pos) (m1 dSumB ma) :=
  e_f1 (cr_sumB hc) does_sumB hg hm PyProof.Rows.boot_sum ha (by decide) (by decide) he hpl
end
@[simp] theorem dSumB_ap {bs : List Bool} {P : D → Prop} : dSumB (.list (bs.map .bool)) P ↔ P (.int (cntB bs)) := by
  constructor
  · rintro ⟨cs, e, h⟩
    have : bs = cs := map_injL (f := PyData.bool) (fun a b e => by injection e) (by injection e)
    subst this
    exact h
  · exact fun h => ⟨bs, rfl, h⟩
end TL
set_option Elab.async false
set_option linter.all false
set_option maxRecDepth 100000
set_option maxHeartbeats 4000000
/-! sorted: of pairs of a text and an int -/
namespace TL
open PySem PySem.Spec PyProof.Rows L2
def lexT (p q : Str × Int) : Bool := if (p.1 == q.1) = true then decide (p.2 < q.2) else decide (p.1.cps.toList < q.1.cps.toList)
theorem str_eq {x y : Str} (h : x.cps.toList = y.cps.toList) : x = y := by
  cases x; cases y
  simp at h
  subst h
  rfl
theorem str_beq {x y : Str} : ((x == y) = true) ↔ x = y := by
  constructor
  · intro h
    exact eq_of_beq h
  · rintro rfl
    exact beq_self_eq_true _
theorem lexT_iff {p q : Str × Int} : lexT p q = true ↔ p.1.cps.toList < q.1.cps.toList ∨ (p.1 = q.1 ∧ p.2 < q.2) := by
  unfold lexT
  by_cases e : p.1 = q.1
  · rw [if_pos (str_beq.mpr e), decide_eq_true_eq, e]
    have : ¬ q.1.cps.toList < q.1.cps.toList := List.lt_irrefl _
    simp [this]
  · rw [if_neg (fun z => e (str_beq.mp z)), decide_eq_true_eq]
    simp [e]
theorem lexT_no {p q : Str × Int} : lexT p q = false ↔ q.1.cps.toList < p.1.cps.toList ∨ (p.1 = q.1 ∧ q.2 ≤ p.2) := by
  have h : lexT p q = false ↔ ¬ (p.1.cps.toList < q.1.cps.toList ∨ (p.1 = q.1 ∧ p.2 < q.2)) := by
    rw [← lexT_iff]
    cases lexT p q <;> simp
  rw [h]
  by_cases e : p.1 = q.1
  · rw [e]
    have : ¬ q.1.cps.toList < q.1.cps.toList := List.lt_irrefl _
    simp [this]
  · simp only [e, false_and, or_false]
    constructor
    · intro h1
      rcases List.le_iff_lt_or_eq.mp (List.not_lt.mp h1) with h2 | h2
      · exact h2
      · exact absurd (str_eq h2).symm e
    · intro h1 h2
      exact List.lt_irrefl _ (List.lt_trans h1 h2)
theorem swo_lexT (k : Value → Str × Int) : SrtO.Swo fun v u => lexT (k v) (k u) := by
  refine ⟨fun x y h => ?_, fun x y z h1 h2 => ?_⟩
  · rcases lexT_iff.mp h with h | ⟨e, h⟩
    · exact lexT_no.mpr (.inl h)
    · exact lexT_no.mpr (.inr ⟨e.symm, by omega⟩)
  · rcases lexT_no.mp h1 with h1 | ⟨e1, h1⟩
    · rcases lexT_no.mp h2 with h2 | ⟨e2, h2⟩
      · exact lexT_no.mpr (.inl (List.lt_trans h1 h2))
      · rw [← e2] at h1
        exact lexT_no.mpr (.inl h1)
    · rcases lexT_no.mp h2 with h2 | ⟨e2, h2⟩
      · rw [e1] at h2
        exact lexT_no.mpr (.inl h2)
      · exact lexT_no.mpr (.inr ⟨e2.trans e1, by omega⟩)
def IsPairT (h : Heap) (v : Value) (p : Str × Int) : Prop := ∃ a o t u n, v = .ref a ∧ h.get? a = some o ∧ o.cls = .type "tuple" ∧ o.data = .seq #[.str p.1 t, .int p.2 u] n
theorem IsPairT.keeps {h h' : Heap} {v : Value} {x : Str × Int} (p : IsPairT h v x) (k : ∀ b o, h.get? b = some o → o.cls = .type "tuple" → h'.get? b = some o) : IsPairT h' v x := by
  obtain ⟨a, o, t, u, n, e, ho, hc, hd⟩ := p
  exact ⟨a, o, t, u, n, e, k _ _ ho hc, hc, hd⟩
section
variable {prog : Program} {w : World} {A : Around} {E : Value → Shared → Prop} {s : Shared}
theorem pairT_cmp {vs : List Value} {k : Value → Str × Int} (hp : ∀ v ∈ vs, IsPairT s.heap v (k v)) : SrtO.Cmp prog w A s (tuples' true) (fun p => p.1 ∈ vs) (SrtO.lt2 fun v u => lexT (k v) (k u)) := by
  intro p q hm hm'
  have h1 := hp _ hm
  have h2 := hp _ hm'
  show wpAny (model prog w) A (keyLt' (tuples' true) p.1 q.1) (fun r s' => s' = s ∧ r = lexT (k p.1) (k q.1)) (fun _ _ => False) s
  unfold lexT
  obtain ⟨a, o, t, u, n, e, ho, hc, hd⟩ := h1
  obtain ⟨a', o', t', u', n', e', ho', hc', hd'⟩ := h2
  generalize (k p.1).1 = x at hd ⊢
  generalize (k p.1).2 = y at hd ⊢
  generalize (k q.1).1 = x' at hd' ⊢
  generalize (k q.1).2 = y' at hd' ⊢
  rw [e, e']
  refine PySem.W.kat_lt ho hd ho' hd' ?_
  show PySem.W.KatLex prog w A true (decide (2 < 2)) _ [(.str x t, .str x' t'), (.int y u, .int y' u')] 0 s
  refine PySem.W.kat_cons (SeqAt.EqAt.str_str x t x' t' prog w _ _ ?_)
  refine PySem.W.kat_go (fun e1 => ?_) (fun e1 => ?_)
  · refine PySem.W.kat_yes (PySem.W.kat_cons (SeqAt.EqAt.int_int y u y' u' prog w _ _ ?_))
    refine PySem.W.kat_go (fun e2 => ?_) (fun e2 => ?_)
    · have ey : y = y' := by simpa using e2
      refine PySem.W.kat_yes (PySem.W.kat_nil ⟨rfl, ?_⟩)
      rw [if_pos e1, ey]
      exact (decide_eq_false (Int.lt_irrefl _)).symm
    · refine PySem.W.kat_no (PyProof.Rows.oneLt_any_int ?_)
      refine ⟨rfl, ?_⟩
      rw [if_pos e1]
  · refine PySem.W.kat_no (PyProof.Rows.oneLt_any_str ⟨rfl, ?_⟩)
    rw [if_neg (by rw [e1]; simp)]
theorem firstsT_of {h : Heap} : ∀ {vs : List Value}, (∀ v ∈ vs, ∃ p, IsPairT h v p) → ∃ fs : List Value, PySem.W.KatTups h vs fs ∧ fs.length = vs.length ∧ ∀ f ∈ fs, ∃ x t, f = Value.str x t
  | [], _ => ⟨[], PySem.W.KatTups.nil, rfl, fun _ hm => by simp at hm⟩
  | v :: vs, hp => by
    obtain ⟨fs, h1, h2, h3⟩ := firstsT_of (vs := vs) fun v' hm => hp v' (List.mem_cons_of_mem _ hm)
    obtain ⟨⟨x, y⟩, a, o, t, u, n, e, ho, hc, hd⟩ := hp v (List.mem_cons_self ..)
    subst e
    refine ⟨.str x t :: fs, PySem.W.KatTups.cons ho hc hd rfl h1, by rw [List.length_cons, List.length_cons, h2], fun f hm => ?_⟩
    rcases List.mem_cons.mp hm with rfl | hm
    · exact ⟨x, t, rfl⟩
    · exact h3 f hm
theorem pairsT_sortable {a : Addr} {vs : List Value} {k : Value → Str × Int} (h0 : 0 < vs.length) (hp : ∀ v ∈ vs, IsPairT s.heap v (k v)) (ha : ∀ o, s.heap.get? a = some o → o.cls ≠ .type "tuple") : SrtO.SortableO prog w A s a vs fun v u => lexT (k v) (k u) := by
  intro h' keep
  have hp' : ∀ v ∈ vs, IsPairT h' v (k v) := fun v hm => (hp v hm).keeps fun b o e c => keep b o (fun z => by subst z; exact ha o e c) e
  obtain ⟨fs, h1, h2, h3⟩ := firstsT_of fun v hm => ⟨_, hp' v hm⟩
  refine ⟨tuples' true, fun Q E hq => ?_, pairT_cmp hp'⟩
  refine PySem.W.kat_kind (T := .type "str") h1 (by omega) (fun f hm => ?_) (by rfl) ?_
  · obtain ⟨x, t, rfl⟩ := h3 f hm
    exact PySem.W.Looks.now
  · have e : (Value.type "str" != Value.type "tuple") = true := by first | decide +kernel | rfl | decide
    rw [e]
    exact hq
theorem sorted_pairsT {l : Addr} {vs : List Value} {k : Value → Str × Int} {Q : Value → Shared → Prop} (hl : s.heap.IsList l vs.toArray) (hz : vs.length ≤ sizeLine) (hp : ∀ v ∈ vs, IsPairT s.heap v (k v))
    (h : ∀ (h' : Heap) (d : Addr) (out : List Value), SrtO.Srtd (fun v u => lexT (k v) (k u)) out → SrtO.Stb (fun v u => lexT (k v) (k u)) out vs → (∀ b o, s.heap.get? b = some o → h'.get? b = some o) → s.heap.objs.size ≤ d → (∃ n, h'.get? d = some (seqObj "list" out.toArray n)) → Q (.ref d) { s with heap := h' }) :
    wpAny (model prog w) A (call (.builtin "sorted") [.ref l]) Q E s := by
  refine SrtO.sorted_ord (swo_lexT k) hl hz (fun h2 h₁ a ha kk => ?_) fun out hs hb => ?_
  · refine pairsT_sortable (s := { s with heap := h₁ }) (by omega) (fun v hm => (hp v hm).keeps fun b o e _ => (kk b o e).2) fun o e => ?_
    have e' : some o = some (seqObj "list" vs.toArray 0) := e.symm.trans ha
    cases e'
    intro c
    exact absurd (Value.type.inj c) (by decide)
  · exact h _ _ out hs hb (fun b o e => PyProof.Rows.sortedAll_old e) (Nat.le_succ _) (PyProof.Rows.sortedAll_at s.heap vs out.toArray)
end
def rSortedTS (K : PySem.W.Frag) : List V → Hp → VK → Prop := fun vs H Q => ∃ (a : Addr) (xs : List V) (ps : List (Str × Int)) (C : V → Str × Int → Prop), vs = [V.ref a] ∧ SqL K H a xs ∧ (Paired (fun x p => C x p ∧ ∃ t, x = V.ref t ∧ SqT K H t [.str p.1, .int p.2]) xs ps) ∧
  ∀ ys ps' p, Paired C ys ps' → ps'.Perm ps → ps'.Pairwise (fun p q => lexT q p = false) → H p = none → Q (.ref p) (upd H p (.lst ys))
theorem ltT_swo {α : Type} (k : α → Str × Int) : SrtO.Swo fun v u : α => lexT (k v) (k u) := by
  refine ⟨fun x y h => ?_, fun x y z h1 h2 => ?_⟩
  · rcases lexT_iff.mp h with h | ⟨e, h⟩
    · exact lexT_no.mpr (.inl h)
    · exact lexT_no.mpr (.inr ⟨e.symm, by omega⟩)
  · rcases lexT_no.mp h1 with h1 | ⟨e1, h1⟩
    · rcases lexT_no.mp h2 with h2 | ⟨e2, h2⟩
      · exact lexT_no.mpr (.inl (List.lt_trans h1 h2))
      · rw [← e2] at h1
        exact lexT_no.mpr (.inl h1)
    · rcases lexT_no.mp h2 with h2 | ⟨e2, h2⟩
      · rw [e1] at h2
        exact lexT_no.mpr (.inl h2)
      · exact lexT_no.mpr (.inr ⟨e2.trans e1, by omega⟩)
section
variable {X : Cx}
open Classical in
theorem cr_sortedTS : CallR X (.builtin "sorted") (rSortedTS X.K) := by
  intro pins s σ H vs us Q I r h
  obtain ⟨a, xs, ps, C, rfl, hs, hx, q⟩ := h
  obtain ⟨its, rv, hl, hz⟩ := I.list hs
  obtain ⟨u, rfl, ru⟩ := vals1 r
  obtain rfl : u = Value.ref a := ru
  have fn : ∀ (x : V) (p p' : Str × Int), (∃ t, x = V.ref t ∧ SqT X.K H t [.str p.1, .int p.2]) → (∃ t, x = V.ref t ∧ SqT X.K H t [.str p'.1, .int p'.2]) → p = p' := by
    rintro x p p' ⟨t, e, h⟩ ⟨t', e', h'⟩
    rw [e] at e'
    cases e'
    have := I.tuple_inj h h'
    simp at this
    exact Prod.ext this.1 this.2
  let k : V → Str × Int := fun x => if z : ∃ p : Str × Int, ∃ t, x = V.ref t ∧ SqT X.K H t [.str p.1, .int p.2] then Classical.choose z else (Str.ofString "", 0)
  have hk : ∀ x ∈ xs, ∃ t, x = V.ref t ∧ SqT X.K H t [.str (k x).1, .int (k x).2] := fun x m => by
    obtain ⟨p, _, z⟩ := paired_mem hx x m
    have z : ∃ p : Str × Int, ∃ t, x = V.ref t ∧ SqT X.K H t [.str p.1, .int p.2] := ⟨p, z⟩
    have e : k x = Classical.choose z := dif_pos z
    rw [e]
    exact Classical.choose_spec z
  have hps : ps = xs.map k := paired_map k hx fun x m p hp => fn x p (k x) hp.2 (hk x m)
  have hC : ∀ x ∈ xs, C x (k x) := fun x m => by
    obtain ⟨p, hc, z⟩ := paired_mem hx x m
    rw [← fn x p (k x) z (hk x m)]
    exact hc
  obtain ⟨e1, e2⟩ := refs_back rv fun x m => by
    obtain ⟨t, e, _⟩ := hk x m
    exact ⟨t, e⟩
  refine sorted_pairsT (k := fun u => k (backV u)) hl.isList (by rw [← rv.length]; exact hz) (fun v hv => ?_) fun h' d out h1 h2 kp hd hn => ?_
  · obtain ⟨t, rfl⟩ := e2 v hv
    have hm : V.ref t ∈ xs := by rw [e1]; exact List.mem_map.mpr ⟨_, hv, rfl⟩
    obtain ⟨t', e, ht⟩ := hk _ hm
    cases e
    obtain ⟨its2, r2, ⟨o, ho, hc, n, hd⟩, _⟩ := I.tuple ht
    obtain ⟨u1, u2, rfl, ri, rj⟩ := vals2 r2
    obtain ⟨t1, rfl⟩ := ri
    obtain ⟨t2, rfl⟩ := rj
    exact ⟨t, o, t1, t2, n, rfl, ho, hc, hd⟩
  · have h3 : ∀ u ∈ out, ∃ a, u = Value.ref a := fun u hu => e2 u (h2.perm.mem_iff.mp hu)
    obtain ⟨n, hn⟩ := hn
    have hb : SrtO.Stb (fun v u => lexT (k v) (k u)) (out.map backV) xs := by
      rw [e1]
      exact SrtO.Stb.map (ltT_swo k) backV h2
    have hsub : ∀ y ∈ out.map backV, y ∈ xs := fun y hy => hb.perm.mem_iff.mp hy
    refine ⟨.ref d, upd H d (.lst (out.map backV)), I.laid (t' := s.toks) kp hd ⟨?_, out, n, vals_back h3, hn⟩, rfl, q _ ((out.map backV).map k) d (map_paired k fun y hy => hC y (hsub y hy)) ?_ ?_ (I.hok.fresh hd)⟩
    · rw [hb.len]
      exact hz
    · rw [hps]
      exact hb.perm.map k
    · rw [List.pairwise_map]
      exact SrtO.srtd_map h1
end
def txtP (p : Str × Int) : D := .tuple [.str p.1, .int p.2]
def dSortS : Op1 := fun x P => ∃ ps : List (Str × Int), x = .list (ps.map txtP) ∧ ∀ ps' : List (Str × Int), ps'.Perm ps → ps'.Pairwise (fun p q => lexT q p = false) → P (.list (ps'.map txtP))
section
variable {X : Cx} {K : PySem.W.Frag} {a : Expr} {ma : EM} {p pos : Pos}
theorem txts_dpAll {F H : Hp} (s : Same F H) : ∀ {ps : List (Str × Int)} {vs : List V}, DpAll K F vs (ps.map txtP) → Paired (fun x p => Dp K F x (txtP p) ∧ ∃ t, x = V.ref t ∧ SqT K H t [.str p.1, .int p.2]) vs ps
  | [], _, h => by cases h; exact .nil
  | p :: ps, _, h => by
    cases h with
    | cons h1 h2 =>
      refine .cons ⟨h1, ?_⟩ (txts_dpAll s h2)
      cases h1 with
      | tup hs ha =>
        cases ha with
        | cons g1 g2 =>
          cases g2 with
          | cons g2 g3 =>
            cases g1
            cases g2
            cases g3
            exact ⟨_, rfl, seqT s hs.sq⟩
theorem paired_txtAll {F : Hp} : ∀ {ps : List (Str × Int)} {vs : List V}, Paired (fun x p => Dp K F x (txtP p)) vs ps → DpAll K F vs (ps.map txtP)
  | _, _, .nil => .nil
  | _, _, .cons h r => .cons h (paired_txtAll r)
theorem does_sortS : DoesF K .nw dSortS (rSortedTS K) := by
  rintro H F vx x P Q s rx ⟨ps, rfl, p⟩ hq
  obtain ⟨l, vs, rfl, h1, h2⟩ := bw_list s rx
  refine ⟨l, vs, ps, _, rfl, h1, txts_dpAll s h2, fun ys ps' q g1 g2 g3 hp => ?_⟩
  obtain ⟨b1, b2⟩ := new_nw s hp (paired_txtAll g1)
  exact hq _ _ _ _ (p ps' g2 g3) b1 b2
theorem e_sortS (ha : E2 X .bw a ma) (hg : Gl X "sorted") (hm : X.mg "sorted" = none) (he : starEach [a] X.env = (false, eval a X.env) :: starEach [] X.env := by rfl) (hpl : (backTo pos (starEach [] X.env)).any (·.1) = false := by rfl) : E2 X .nw (.Call (.Name "sorted" p) [a] [] pos) (m1 dSortS ma) :=
  e_f1 cr_sortedTS does_sortS hg hm PyProof.Rows.boot_sorted ha (by decide) (by decide) he hpl
end
end TL
set_option Elab.async false
set_option linter.all false
set_option maxRecDepth 100000
set_option maxHeartbeats 4000000
/-! a list unpacked to names -/
namespace TL
open PySem PySem.Spec PyProof.Rows L2
section
variable {prog : Program} {w : World} {A : Around} {E : Value → Shared → Prop} {s : Shared}
theorem draw_list {it t : Addr} {items : Array Value} (hne : t ≠ it) : ∀ (n i : Nat) (s : Shared) (Q : List Value → Shared → Prop), s.heap.IsListIter it t i → s.heap.IsList t items → i + n ≤ items.size →
    (∀ h', h'.IsListIter it t (i + n) → Heap.SameBut it s.heap h' → Q ((items.toList.drop i).take n) { s with heap := h' }) → wpAny (model prog w) A (draw (.ref it) n) Q E s
  | 0, i, s, Q, hit, _, _, hQ => by
    show wpAny _ _ (pure []) Q E s
    exact wpAny_pure (by simpa using hQ s.heap hit (Heap.SameBut.refl ..))
  | n + 1, i, s, Q, hit, ht, hle, hQ => by
    have hlt : i < items.size := by omega
    show wpAny _ _ (pyNext (.ref it) >>= _) Q E s
    refine wpAny_bind (wpAny_pyNext_list_item hit ht (x := items[i]) (by simp [hlt]) fun h₁ hit₁ hs₁ => ?_)
    refine wpAny_bind (wpAny_holding (draw_list hne n (i + 1) _ _ hit₁ (ht.extBut hs₁.extBut hne) (by omega) fun h₂ hit₂ hs₂ => wpAny_pure ?_))
    have hd : items.toList.drop i = items[i] :: items.toList.drop (i + 1) := by simp [List.drop_eq_getElem_cons, hlt]
    have := hQ h₂ (by rw [show i + (n + 1) = i + 1 + n by omega]; exact hit₂) (hs₁.trans hs₂)
    rw [hd, List.take_succ_cons] at this
    exact this
theorem unpackItems_list {t : Addr} {items : Array Value} {Q : List Value → Shared → Prop} (hh : A.handled = none) (ht : s.heap.IsList t items)
    (hQ : ∀ h', Heap.ExtBut s.heap.objs.size s.heap h' → Q items.toList { s with heap := h' }) : wpAny (model prog w) A (unpackItems (.ref t) items.size none) Q E s := by
  have hlt : t ≠ s.heap.objs.size := by obtain ⟨o, ho, _⟩ := ht; exact Nat.ne_of_lt (Heap.lt_size ho)
  unfold unpackItems
  refine wpAny_bind ?_
  · unfold notIterableAtAll
    refine wpAny_bind (wpAny_specialOf ht.typeIs slot_list_iter.lookup ?_)
    refine wpAny_pure ?_
    simp only [Bool.false_eq_true, if_false]
    refine wpAny_bind (wpAny_holding (wpAny_pyIter_list ht ?_))
    refine wpAny_bind (wpAny_holding (draw_list hlt items.size 0 _ _ ⟨_, Heap.get?_push_size _ rfl, rfl, rfl⟩ (ht.push _) (by omega) fun h₁ hit₁ hs₁ => ?_))
    have hall : List.take items.size (List.drop 0 items.toList) = items.toList := by
      rw [List.drop_zero]; exact List.take_of_length_le (by simp)
    rw [hall]
    rw [if_neg (by simp)]
    have ht₁ : h₁.IsList t items := (ht.push _).extBut hs₁.extBut hlt
    refine wpAny_bind (wpAny_holding (wpAny_pyNext_list_end hh hit₁ ht₁ (by simp) fun h₂ he₂ => ?_))
    simp only [Option.isSome_none, Bool.false_eq_true, if_false]
    refine wpAny_pure (hQ h₂ fun b o hb e => he₂ b o hb (hs₁.extBut b o hb (Heap.get?_push_of_some _ e)))
theorem assign_Tuple_list {env : Env} {elts : List Expr} {x1} {pos : Pos} {t : Addr} {items : Array Value} {Q : Unit → Shared → Prop} (hh : A.handled = none) (ht : s.heap.IsList t items)
    (hn : (assignEach elts env).length = items.size) (hstar : (assignEach elts env).findIdx? (·.1) = none)
    (h : ∀ h', Heap.ExtBut s.heap.objs.size s.heap h' → wpAny (model prog w) A (assignInOrder ((assignEach elts env).map (·.2)) items.toList) Q E { s with heap := h' }) :
    wpAny (model prog w) A (assign (.Tuple elts x1 pos) env (.ref t)) Q E s := by
  rw [assign_Tuple]
  refine wpAny_bind (wpAny_standAt ?_)
  unfold unpack
  rw [hn, hstar]
  exact wpAny_bind (wpAny_holding (unpackItems_list hh ht h))
end
section
variable {X : Cx} {pos : Pos}
def gLst (K : PySem.W.Frag) (n : Nat) (t : TGs) : TG := fun v σ H Q => ∃ a xs, v = .ref a ∧ SqL K H a xs ∧ xs.length = n ∧ t xs σ H Q
theorem pg_lst {es : List Expr} {k : Nat} {t : TGs} {n : Nat} (hc : X.calm = true) (h : PGs X es t)
    (hn : (assignEach es X.env).length = n := by rfl) (hst : (assignEach es X.env).findIdx? (·.1) = none := by rfl) : PG X (.Tuple es k pos) (gLst X.K n t) := by
  refine ⟨fun pins s σ H v u Q I r hw => ?_⟩
  obtain ⟨a, xs, e1, hq, hl, hw⟩ := hw
  subst e1
  cases r
  obtain ⟨its, rv, ht, hz⟩ := I.list hq
  refine assign_Tuple_list (I.ok.hd hc) ht.isList (by simp [hn, ← hl, rv.length]) hst fun h' hx => ?_
  have I1 : Inv X pins σ H { s with heap := h' } := I.kept (t' := s.toks) fun b o e => hx b o (Nat.ne_of_lt (Heap.lt_size e)) e
  exact h.run pins _ σ H xs _ Q I1 (by simpa using rv) hw
def gL (k : Nat) (g : GMs) : GM := fun d τ n Q => ∃ ds, d = .list ds ∧ ds.length = k ∧ g ds τ n Q
theorem g_lst {es : List Expr} {k len : Nat} {g : GMs} {ws : List Nat} (hc : X.calm = true) (h : Gs2 X ws es g) (hn : (assignEach es X.env).length = len := by rfl) (hst : (assignEach es X.env).findIdx? (·.1) = none := by rfl) : G2 X ws (.Tuple es k pos) (gL len g) :=
  ⟨pg_weak (pg_lst hc h.pg hn hst) fun v σ H Q ⟨A, τ, n, F, P, d, eK, R, r, ⟨ds, e, l, p⟩, hq⟩ => by
    subst e
    cases r with
    | lst hs ha => exact ⟨_, _, rfl, R.same.seq hs, (dpAll_len ha).trans l, A, τ, n, F, P, _, eK, R, ha, p, hq⟩⟩
@[simp] theorem gL_ap {k : Nat} {g : GMs} {ds : List D} {τ : Ev} {n : Nat} {R : Ev → Nat → Prop} : gL k g (.list ds) τ n R ↔ ds.length = k ∧ g ds τ n R := by simp [gL]
end
end TL
set_option Elab.async false
set_option linter.all false
set_option maxRecDepth 100000
set_option maxHeartbeats 4000000
/-! new lists within new lists, changed and left -/
namespace TL
open PySem PySem.Spec PyProof.Rows L2
section
variable {X : Cx} {pos : Pos} {a b : Expr} {ma mb : EM} {kr : Kd}
theorem frA_zero {H0 H : Hp} : ∀ {vs : List V} {ds : List D}, vs.length = ds.length → FrA (FrT H0 H 0) vs ds []
  | [], [], _ => rfl
  | v :: vs, d :: ds, h => ⟨[], [], rfl, rfl, frA_zero (by simpa using h), fun _ z => by cases z⟩
  | [], _ :: _, h => by simp at h
  | _ :: _, [], h => by simp at h
theorem frA_at {H0 H : Hp} {k : Nat} : ∀ {us : List V} {es : List D} {g : List Addr}, FrA (FrT H0 H k) us es g → ∀ a ∈ g, H0 a = none ∧ ∃ u, H a = some u ∧ ∀ φ, u ≠ .ext φ
  | [], [], g, z, a, ha => by rw [show g = [] from z] at ha; cases ha
  | u :: us, e :: es, g, ⟨f1, f2, eg, g1, g2, _⟩, a, ha => by
    rw [eg] at ha
    rcases List.mem_append.mp ha with ha | ha
    · exact FrT.at g1 a ha
    · exact frA_at g2 a ha
  | [], _ :: _, _, z, _, _ => z.elim
  | _ :: _, [], _, z, _, _ => z.elim
theorem E2.n1 (h : E2 X .nw a ma) : E2 X (.nn 1) a ma := ⟨pe_weak h.pe fun σ H Q ⟨A, τ, n, F, P, eK, R, hm, hq⟩ => ⟨A, τ, n, F, P, eK, R, hm, fun d n' v H' F' p a r => by
  obtain ⟨F2, h1, h2, h3, h4⟩ := nw_fz a.sub r
  obtain ⟨q, vs, xs, rfl, rfl, h0, hf, g1, g2⟩ := r
  exact hq _ n' _ H' F2 p ⟨a.keep, fun c hc => (h1 c hc).trans (a.old c hc), h2, a.box⟩ ⟨h4, [q], q, vs, xs, [], rfl, rfl, h0, .inl ⟨rfl, g1⟩, by simp, frA_zero (dpAll_len g2)⟩⟩⟩
theorem E2.ofN {k : Nat} (h : E2 X (.nn k) a ma) : E2 X .fz a ma := ⟨pe_weak h.pe fun σ H Q ⟨A, τ, n, F, P, eK, R, hm, hq⟩ => ⟨A, τ, n, F, P, eK, R, hm, fun d n' v H' F' p a r => hq d n' v H' F' p a r.1⟩⟩
/-! ### displays -/
def tDN (K : PySem.W.Frag) (k : Nat) (m : DM) : TA := fun σ H Q => ∃ A τ n F P, A.K = K ∧ Rel A τ n σ H F ∧ m τ n P ∧ ∀ ds n' vs H' F', P ds n' → Adv A.bx n n' H F H' F' → DpAll K F' vs ds → (∃ fp, FrA (FrT H H' k) vs ds fp) → Q vs H'
structure DN2 (X : Cx) (k : Nat) (es : List Expr) (m : DM) : Prop where
  pa : PA X es (tDN X.K k m)
theorem dn_nil {k : Nat} : DN2 X k [] aNil := ⟨pa_weak pa_nil fun σ H Q ⟨A, τ, n, F, P, eK, R, p, hq⟩ => hq [] n [] H F p (Adv.refl R.same R.box) .nil ⟨[], rfl⟩⟩
theorem keep_node {bx : Option Addr} {n n' : Nat} {H F H' F' : Hp} (x : Adv bx n n' H F H' F') (b : ∀ b, bx = some b → H b = some (.ext (boxP b n))) {c : Addr} (z : ∃ u, H c = some u ∧ ∀ φ, u ≠ .ext φ) : H' c = H c := by
  obtain ⟨u, z, zu⟩ := z
  have nb : bx ≠ some c := fun w => by
    rw [b c w] at z
    exact zu _ (Option.some.inj z).symm
  rw [z]
  exact x.keep c u z nb
theorem dn_cons {k : Nat} {es : List Expr} {m : DM} (ha : E2 X (.nn k) a ma) (hr : DN2 X k es m) (hs : starEach (a :: es) X.env = (false, eval a X.env) :: starEach es X.env := by rfl) : DN2 X k (a :: es) (aCons ma m) := by
  refine ⟨pa_weak (pa_cons ha.pe hr.pa hs) fun σ H Q ⟨A, τ, n, F, P, eK, R, hm, hq⟩ => tE_run eK R hm fun d n1 v H1 F1 p1 a1 r1 => ?_⟩
  refine ⟨A, τ, n1, F1, _, eK, R.step a1, p1, fun ds n2 vs H2 F2 p2 a2 r2 ⟨f2, g2⟩ => ?_⟩
  obtain ⟨r1, f1, g1⟩ := r1
  refine hq (d :: ds) n2 (v :: vs) H2 F2 p2 (a1.trans a2) (.cons (dp_mono (a2.fro a1.sub) d v r1) r2) ⟨f1 ++ f2, f1, f2, rfl, g1.mono (fun _ _ z => z) (fun c hc => keep_node a2 (R.step a1).box (g1.at c hc).2), g2.mono (fun u x f hu hf => FrT.mono hu (fun c hc z => a1.none_back c z) fun _ _ => rfl), fun c h1 h2 => ?_⟩
  obtain ⟨u, z, _⟩ := (g1.at c h1).2
  rw [(frA_at g2 c h2).1] at z
  cases z
theorem node_new {H : Hp} {q : Addr} {o : HO} {k : Nat} {H0 : Hp} {vs : List V} {ds : List D} {fp : List Addr} (hp : H q = none) (h : FrA (FrT H0 H k) vs ds fp) : q ∉ fp ∧ FrA (FrT H0 (upd H q o) k) vs ds fp := by
  have nq : q ∉ fp := fun z => by
    obtain ⟨u, e, _⟩ := (frA_at h q z).2
    rw [hp] at e
    cases e
  refine ⟨nq, h.mono fun v d f hv hf => hv.mono (fun _ _ z => z) fun c hc => ?_⟩
  rw [upd_ne]
  intro e
  subst e
  exact nq (hf c hc)
theorem e_lstN {k : Nat} {es : List Expr} {m : DM} (h : DN2 X k es m) : E2 X (.nn (k + 1)) (.List es pos) (mLst m) := by
  refine ⟨pe_weak (pe_lst h.pa) fun σ H Q ⟨A, τ, n, F, P, eK, R, hm, hq⟩ => ⟨A, τ, n, F, _, eK, R, hm, ?_⟩⟩
  rintro ds n' vs H' F' ⟨z, p⟩ a1 r ⟨fp, g⟩
  refine ⟨by rw [dpAll_len r]; exact z, fun q hp => ?_⟩
  obtain ⟨b1, b2⟩ := new_lst a1.sub hp r
  obtain ⟨g1, g2⟩ := node_new (o := .lst vs) hp g
  exact hq _ n' _ _ _ p (a1.trans (b1.adv (R.step a1).box)) ⟨b2, q :: fp, q, vs, ds, fp, rfl, rfl, a1.none_back q hp, .inl ⟨rfl, upd_same⟩, g1, g2⟩
theorem e_tupN {k : Nat} {es : List Expr} {m : DM} {x1} (h : DN2 X k es m) : E2 X (.nn (k + 1)) (.Tuple es x1 pos) (mTup m) := by
  refine ⟨pe_weak (pe_tupF h.pa) fun σ H Q ⟨A, τ, n, F, P, eK, R, hm, hq⟩ => ⟨A, τ, n, F, _, eK, R, hm, ?_⟩⟩
  rintro ds n' vs H' F' ⟨z, p⟩ a1 r ⟨fp, g⟩
  refine ⟨by rw [dpAll_len r]; exact z, fun q o hp ho => ?_⟩
  obtain ⟨b1, b2⟩ := new_tup a1.sub hp ho r
  obtain ⟨g1, g2⟩ := node_new (o := kT o vs) hp g
  exact hq _ n' _ _ _ p (a1.trans (b1.adv (R.step a1).box)) ⟨b2, q :: fp, q, vs, ds, fp, rfl, rfl, a1.none_back q hp, .inr ⟨rfl, o, upd_same⟩, g1, g2⟩
/-! ### questions: if c: return e -/
abbrev QM := Ev → Nat → (Nat → Prop) → (D → Nat → Prop) → Prop
def tQ (K : PySem.W.Frag) (kr : Kd) (m : QM) (tn : TS) : TS := fun Dd σ H => ∃ A τ n F N P, A.K = K ∧ Rel A τ n σ H F ∧ m τ n N P ∧ (∀ n' H' F', N n' → Adv A.bx n n' H F H' F' → tn Dd σ H') ∧ (∀ d n' v H' F', P d n' → Adv A.bx n n' H F H' F' → RepK K kr H H' F' v d → Dd.rt v H')
def qNil : QM := fun _ n N _ => N n
def qIf (c : CM) (mb : EM) (r : QM) : QM := fun τ n N P => c τ n fun t n1 => if t = true then mb τ n1 P else r τ n1 N P
theorem q_nil {tail : List Stmt} {tn : TS} (h : PSs X tail tn) : PSs X tail (tQ X.K kr qNil tn) := pss_weak h fun Dd σ H ⟨A, τ, n, F, N, P, eK, R, hm, hn, hr⟩ => hn n H F hm (Adv.refl R.same R.box)
theorem q_if {c : Expr} {cc : CM} {tail : List Stmt} {tn : TS} {m : QM} {p2 : Pos} (hc : T2 X c cc) (hb : E2 X kr b mb) (h : PSs X tail (tQ X.K kr m tn)) : PSs X (.If c [.Return (some b) p2] [] pos :: tail) (tQ X.K kr (qIf cc mb m) tn) := by
  refine pss_weak (pss_cons (ps_if hc.pt (pss_one (ps_ret hb.pe)) pss_nil) h) fun Dd σ H ⟨A, τ, n, F, N, P, eK, R, hm, hn, hr⟩ => tT_go eK R hm fun d n1 H1 F1 p1 a1 => ?_
  cases d with
  | true =>
    refine iteT (tE_run eK (R.step a1) (by simpa using p1) fun d n2 v H2 F2 p2 a2 r2 => ?_)
    exact hr d n2 v H2 F2 p2 (a1.trans a2) (r2.h0 fun c z => a1.none_back c z)
  | false =>
    refine iteF ⟨A, τ, n1, F1, N, P, eK, R.step a1, by simpa using p1, fun n2 H2 F2 p2 a2 => hn n2 H2 F2 p2 (a1.trans a2), fun d n2 v H2 F2 p2 a2 r2 => hr d n2 v H2 F2 p2 (a1.trans a2) (r2.h0 fun c z => a1.none_back c z)⟩
/-! ### changes -/
def modP : List Nat → (List D → Option (List D)) → D → Option D
  | [], op, .list es => (op es).map .list
  | j :: ps, op, .list es => es[j]?.bind fun e => (modP ps op e).map fun e' => .list (es.set j e')
  | j :: ps, op, .tuple es => es[j]?.bind fun e => (modP ps op e).map fun e' => .tuple (es.set j e')
  | _, _, _ => none
abbrev MM := D → (D → Prop) → Prop
def mMod (ps : List Nat) (op : List D → Option (List D)) (r : MM) : MM := fun d R => ∃ d', modP ps op d = some d' ∧ r d' R
def mEnd : MM := fun d R => R d
theorem frA_set {P : V → D → List Addr → Prop} : ∀ {vs : List V} {ds : List D} {fp : List Addr} {j : Nat} {e : D}, FrA P vs ds fp → ds[j]? = some e → ∃ u f, vs[j]? = some u ∧ P u e f ∧ (∀ a ∈ f, a ∈ fp) ∧
    ∀ (Q : V → D → List Addr → Prop) e' f', Q u e' f' → (∀ a ∈ f', a ∈ f) → (∀ v d g, P v d g → (∀ a ∈ g, a ∈ fp) → (∀ a ∈ g, a ∉ f) → Q v d g) → ∃ fp', FrA Q vs (ds.set j e') fp' ∧ ∀ a ∈ fp', a ∈ fp
  | [], [], _, j, e, _, h => by simp at h
  | v :: vs, d :: ds, fp, 0, e, ⟨f1, f2, ef, h1, h2, h3⟩, h => by
    simp at h
    subst h
    refine ⟨v, f1, rfl, h1, fun a ha => by rw [ef]; exact List.mem_append_left _ ha, fun Q e' f' q1 q2 w => ⟨f' ++ f2, ⟨f', f2, rfl, q1, h2.mono fun u x g hu hg => w u x g hu (fun a ha => by rw [ef]; exact List.mem_append_right _ (hg a ha)) fun a ha z => h3 a z (hg a ha), fun a ha => h3 a (q2 a ha)⟩, fun a ha => ?_⟩⟩
    rw [ef]
    rcases List.mem_append.mp ha with ha | ha
    · exact List.mem_append_left _ (q2 a ha)
    · exact List.mem_append_right _ ha
  | v :: vs, d :: ds, fp, j + 1, e, ⟨f1, f2, ef, h1, h2, h3⟩, h => by
    obtain ⟨u, f, g1, g2, g3, g4⟩ := frA_set (j := j) h2 (by simpa using h)
    refine ⟨u, f, by simpa using g1, g2, fun a ha => by rw [ef]; exact List.mem_append_right _ (g3 a ha), fun Q e' f' q1 q2 w => ?_⟩
    obtain ⟨fp', k1, k2⟩ := g4 Q e' f' q1 q2 fun v d g hv hg hn => w v d g hv (fun a ha => by rw [ef]; exact List.mem_append_right _ (hg a ha)) hn
    refine ⟨f1 ++ fp', ⟨f1, fp', rfl, w v d f1 h1 (fun a ha => by rw [ef]; exact List.mem_append_left _ ha) fun a ha z => h3 a ha (g3 a z), k1, fun a ha z => h3 a ha (k2 a z)⟩, fun a ha => ?_⟩
    rw [ef]
    rcases List.mem_append.mp ha with ha | ha
    · exact List.mem_append_left _ ha
    · exact List.mem_append_right _ (k2 a ha)
  | [], _ :: _, _, _, _, h, _ => h.elim
  | _ :: _, [], _, _, _, h, _ => h.elim
/-- the value at a path -/
def tPth (K : PySem.W.Frag) : List Nat → V → Hp → VK → Prop
  | [], x, H, Q => Q x H
  | j :: ps, x, H, Q => rIx K x (.int j) H fun y H1 => tPth K ps y H1 Q
theorem tPth_snoc (K : PySem.W.Frag) : ∀ (ps : List Nat) (j : Nat) (x : V) (H : Hp) (Q : VK), tPth K (ps ++ [j]) x H Q = tPth K ps x H fun y H1 => rIx K y (.int j) H1 Q
  | [], _, _, _, _ => rfl
  | i :: ps, j, x, H, Q => by
    show rIx K x (.int i) H _ = rIx K x (.int i) H _
    congr 1
    funext y H1
    exact tPth_snoc K ps j y H1 Q
theorem tPth_mono {K : PySem.W.Frag} : ∀ (ps : List Nat) (x : V) (H : Hp) {Q Q' : VK}, tPth K ps x H Q → (∀ y H1, Q y H1 → Q' y H1) → tPth K ps x H Q'
  | [], x, H, _, _, h, w => w x H h
  | j :: ps, x, H, _, _, h, w => by
    rcases h with ⟨p, xs, i, v, e1, e2, h1, h2, h3⟩ | ⟨p, xs, i, v, e1, e2, h1, h2, h3⟩ | ⟨z, i, c, e1, e2, h1, h2, h3⟩
    · exact .inl ⟨p, xs, i, v, e1, e2, h1, h2, tPth_mono ps v H h3 w⟩
    · exact .inr (.inl ⟨p, xs, i, v, e1, e2, h1, h2, tPth_mono ps v H h3 w⟩)
    · exact .inr (.inr ⟨z, i, c, e1, e2, h1, h2, tPth_mono ps _ H h3 w⟩)
/-- what a change does to a list's values -/
def DoesO (op : List D → Option (List D)) (g : List V → List V) (top : Bool) : Prop := ∀ (ws : List V) (es es' : List D), ws.length = es.length → op es = some es' → (g ws).length = es'.length ∧ (top = true → es' = [] ∧ g ws = [])
theorem mod_run {K : PySem.W.Frag} {op : List D → Option (List D)} {g : List V → List V} {top : Bool} (hg : DoesO op g top) {H0 H : Hp} : ∀ (ps : List Nat) (k : Nat) (v : V) (d d' : D) (fp : List Addr) (Q : VK), FrT H0 H k v d fp → modP ps op d = some d' → (if top = true then ps.length < k else ps.length + 1 = k) →
    (∀ l ws es, H l = some (.lst ws) → ws.length = es.length → (op es).isSome = true → (∃ fp', FrT H0 (upd H l (.lst (g ws))) k v d' fp' ∧ (∀ a ∈ fp', a ∈ fp) ∧ l ∈ fp) → Q (.ref l) H) → tPth K ps v H Q
  | [], k, v, d, d', fp, Q, hf, hm, hk, hq => by
    cases d with
    | list es =>
      cases k with
      | zero => split at hk <;> simp at hk
      | succ k =>
        obtain ⟨a, vs, ds, fp', rfl, ef, h0, h1, h3, h2⟩ := hf
        rcases h1 with ⟨e, h1⟩ | ⟨e, _⟩
        · cases e
          unfold modP at hm
          obtain ⟨es', h4, rfl⟩ := Option.map_eq_some_iff.mp hm
          obtain ⟨g1, g2⟩ := hg vs es es' h2.len h4
          refine hq a vs es h1 h2.len (by rw [h4]; rfl) ⟨[a], ⟨a, g vs, es', [], rfl, rfl, h0, .inl ⟨rfl, upd_same⟩, by simp, ?_⟩, fun c hc => by rw [List.mem_singleton.mp hc, ef]; simp, by rw [ef]; simp⟩
          cases top with
          | true =>
            obtain ⟨e1, e2⟩ := g2 rfl
            rw [e1, e2]
            exact rfl
          | false =>
            have : k = 0 := by simpa using hk.symm
            subst this
            exact frA_zero g1
        · cases e
    | _ => cases hm
  | j :: ps, k, v, d, d', fp, Q, hf, hm, hk, hq => by
    cases k with
    | zero => split at hk <;> simp at hk
    | succ k =>
      obtain ⟨a, vs, ds, fp', rfl, ef, h0, h1, h3, h2⟩ := hf
      have hk' : if top = true then ps.length < k else ps.length + 1 = k := by
        split at hk <;> rename_i z
        · rw [if_pos z]; simp at hk; omega
        · rw [if_neg z]; simp at hk; omega
      have key : ∀ (e e' : D) (d2 : D), ds[j]? = some e → modP ps op e = some e' → (∀ H', H' a = H a → NodeAt H' a d2 vs (ds.set j e')) → d' = d2 → ∃ u, vs[j]? = some u ∧ tPth K ps u H Q := by
        rintro e e' d2 he hm' hN rfl
        obtain ⟨u, f, g1, g2, g3, g4⟩ := frA_set h2 he
        refine ⟨u, g1, mod_run hg ps k u e e' f Q g2 hm' hk' fun l ws es q1 q2 q3 ⟨f', r1, r2, r3⟩ => ?_⟩
        refine hq l ws es q1 q2 q3 ?_
        have la : a ≠ l := fun z => by subst z; exact h3 (g3 a r3)
        obtain ⟨fp'', k1, k2⟩ := g4 _ e' f' r1 r2 fun v d y hv hy hn => hv.mono (fun _ _ z => z) fun c hc => by
          rw [upd_ne]
          intro z
          subst z
          exact hn _ hc r3
        refine ⟨a :: fp'', ⟨a, vs, ds.set j e', fp'', rfl, rfl, h0, hN _ (upd_ne la), fun z => h3 (k2 a z), k1⟩, fun c hc => ?_, ?_⟩
        · rw [ef]
          rcases List.mem_cons.mp hc with rfl | hc
          · simp
          · exact List.mem_cons_of_mem _ (k2 c hc)
        · rw [ef]
          exact List.mem_cons_of_mem _ (g3 l r3)
      show rIx K (.ref a) (.int j) H fun y H1 => tPth K ps y H1 Q
      rcases h1 with ⟨e0, h1⟩ | ⟨e0, o, h1⟩
      · subst e0
        unfold modP at hm
        obtain ⟨e, he, hm⟩ := Option.bind_eq_some_iff.mp hm
        obtain ⟨e', hm', e2⟩ := Option.map_eq_some_iff.mp hm
        obtain ⟨u, hu, t⟩ := key e e' _ he hm' (fun H' q => .inl ⟨rfl, q.trans h1⟩) e2.symm
        exact .inl ⟨a, vs, j, u, rfl, rfl, .inl (.inl h1), L2.atI_nat hu, t⟩
      · subst e0
        unfold modP at hm
        obtain ⟨e, he, hm⟩ := Option.bind_eq_some_iff.mp hm
        obtain ⟨e', hm', e2⟩ := Option.map_eq_some_iff.mp hm
        obtain ⟨u, hu, t⟩ := key e e' _ he hm' (fun H' q => .inr ⟨rfl, o, q.trans h1⟩) e2.symm
        exact .inr (.inl ⟨a, vs, j, u, rfl, rfl, .inl (.inr ⟨o, h1⟩), L2.atI_nat hu, t⟩)
/-! ### the statements that change -/
def tM (i k : Nat) (m : MM) (tn : TS) : TS := fun Dd σ H => ∃ H0 v d fp R, σ[i]? = some (some v) ∧ FrT H0 H k v d fp ∧ m d R ∧ ∀ d' H' fp', R d' → FrT H0 H' k v d' fp' → (∀ a ∈ fp', a ∈ fp) → (∀ a, a ∉ fp → H' a = H a) → tn Dd σ H'
theorem m_end {i k : Nat} {tail : List Stmt} {tn : TS} (h : PSs X tail tn) : PSs X tail (tM i k mEnd tn) := pss_weak h fun Dd σ H ⟨H0, v, d, fp, R, e, hf, hm, hr⟩ => hr d H fp hm hf (fun _ z => z) fun _ _ => rfl
/-- x[j]..[l], a name's value at a path -/
def tPa (K : PySem.W.Frag) (i : Nat) (ps : List Nat) : TE := fun σ H Q => tVar i σ H fun x H1 => tPth K ps x H1 Q
theorem pa_name {i : Nat} {e : Expr} (h : PE X e (tVar i)) : PE X e (tPa X.K i []) := h
theorem pa_ix {i : Nat} {ps : List Nat} {e : Expr} {j : Nat} {jk} {jp p2 : Pos} (h : PE X e (tPa X.K i ps)) (hs : PlainIx (.Constant (.int (j : Nat)) jk jp) := by exact fun _ _ => rfl) : PE X (.Subscript e (.Constant (.int (j : Nat)) jk jp) p2) (tPa X.K i (ps ++ [j])) := by
  refine pe_weak (pe_ix ix_seq h pe_int hs) fun σ H Q hq => ?_
  obtain ⟨x, e1, q⟩ := hq
  rw [tPth_snoc] at q
  exact ⟨x, e1, q⟩
/-- one change, its method of any list -/
theorem m_call {i k : Nat} {ps : List Nat} {op : List D → Option (List D)} {g : List V → List V} {top : Bool} {call : Expr} {te : TE} {tail : List Stmt} {tn : TS} {m : MM} (hg : DoesO op g top) (hk : if top = true then ps.length < k else ps.length + 1 = k)
    (h : PE X call te) (ht : ∀ σ H Q, tPa X.K i ps σ H (fun x H1 => ∃ l ws es, x = .ref l ∧ H1 l = some (.lst ws) ∧ ws.length = es.length ∧ (op es).isSome = true ∧ Q .non (upd H1 l (.lst (g ws)))) → te σ H Q)
    (hs : swapsWith call none pos.line X.env = pure false := by rfl) (hr : PSs X tail (tM i k m tn)) : PSs X (.Expr call pos :: tail) (tM i k (mMod ps op m) tn) := by
  refine pss_weak (pss_cons (ps_expr (pe_weak h ht) hs) hr) fun Dd σ H ⟨H0, v, d, fp, R, e, hf, ⟨d', hm, hm'⟩, hr⟩ => ?_
  refine ⟨v, e, mod_run hg ps k v d d' fp _ hf hm hk fun l ws es q1 q2 q3 ⟨fp', r1, r2, r3⟩ => ?_⟩
  refine ⟨l, ws, es, rfl, q1, q2, q3, ?_⟩
  refine ⟨H0, v, d', fp', R, e, r1, hm', fun d2 H2 fp2 p2 f2 s2 w2 => hr d2 H2 fp2 p2 f2 (fun a ha => r2 a (s2 a ha)) fun a ha => ?_⟩
  rw [w2 a fun z => ha (r2 a z), upd_ne fun z => by subst z; exact ha r3]
def oA (c : D) : List D → Option (List D) := fun es => if es.length < sizeLine then some (es ++ [c]) else none
def oR : List D → Option (List D) := fun es => some es.reverse
def oC : List D → Option (List D) := fun _ => some []
theorem doesA (c : D) (w : V) : DoesO (oA c) (fun ws => ws ++ [w]) false := fun ws es es' hl h => by
  unfold oA at h
  split at h
  · cases h
    exact ⟨by simp [hl], fun z => by cases z⟩
  · cases h
theorem doesR : DoesO oR (fun ws => ws.reverse) false := fun ws es es' hl h => by
  cases h
  exact ⟨by simp [hl], fun z => by cases z⟩
theorem doesC : DoesO oC (fun _ => []) true := fun ws es es' hl h => by
  cases h
  exact ⟨rfl, fun _ => ⟨rfl, rfl⟩⟩
section
variable {i k : Nat} {ps : List Nat} {o arg : Expr} {apos cpos : Pos} {tail : List Stmt} {tn : TS} {m : MM} {w : V} {c : D}
theorem m_app (ho : PE X o (tPa X.K i ps)) (ha : PE X arg (tC w)) (hr : PSs X tail (tM i k m tn)) (hk : ps.length + 1 = k := by rfl)
    (hbase : attributeBase o "append" X.env (eval o X.env) = eval o X.env := by rfl) (hfew : ((backTo cpos (starEach [arg] X.env)).all (fun x => !x.1) && (backToKw cpos (keywordEach [] X.env)).all (fun x => x.1.isSome)
      && decide (([arg] : List Expr).length + ([] : List Keyword).length + (if ([] : List Keyword).isEmpty then 0 else 1) < 30)) = true := by rfl)
    (hline : (apos.endLine == cpos.line) = true := by rfl) (hs : starEach [arg] X.env = (false, eval arg X.env) :: starEach [] X.env := by rfl) (hplain : (backTo cpos (starEach [] X.env)).any (·.1) = false := by rfl)
    (hsw : swapsWith (.Call (.Attribute o "append" apos) [arg] [] cpos) none pos.line X.env = pure false := by rfl) :
    PSs X (.Expr (.Call (.Attribute o "append" apos) [arg] [] cpos) pos :: tail) (tM i k (mMod ps (oA c) m) tn) := by
  refine m_call (doesA c w) (by simpa using hk) (pe_bm PySem.F.plainAttrs_list PySem.F.slot_list_append PySem.F.type_list_append mt_append ho (pa_cons ha pa_nil hs) hbase hfew hline hs hplain) (fun σ H Q ⟨x, e, q⟩ => ⟨x, e, ?_⟩) hsw hr
  refine tPth_mono ps x H q ?_
  rintro y H1 ⟨l, ws, es, rfl, q1, q2, q3, q4⟩
  have hl : es.length < sizeLine := by
    unfold oA at q3
    split at q3
    · assumption
    · cases q3
  exact ⟨.inl ⟨rfl, ws, .inl (.inl q1)⟩, l, ws, w, rfl, rfl, q1, by omega, q4⟩
theorem m_rev (ho : PE X o (tPa X.K i ps)) (hr : PSs X tail (tM i k m tn)) (hk : ps.length + 1 = k := by rfl)
    (hbase : attributeBase o "reverse" X.env (eval o X.env) = eval o X.env := by rfl) (hline : (apos.endLine == cpos.line) = true := by rfl)
    (hsw : swapsWith (.Call (.Attribute o "reverse" apos) [] [] cpos) none pos.line X.env = pure false := by rfl) :
    PSs X (.Expr (.Call (.Attribute o "reverse" apos) [] [] cpos) pos :: tail) (tM i k (mMod ps oR m) tn) := by
  refine m_call doesR (by simpa using hk) (pe_bm0 PySem.F.plainAttrs_list PySem.F.slot_list_reverse PySem.F.type_list_reverse mt_reverse ho hbase hline) (fun σ H Q ⟨x, e, q⟩ => ⟨x, e, ?_⟩) hsw hr
  refine tPth_mono ps x H q ?_
  rintro y H1 ⟨l, ws, es, rfl, q1, q2, q3, q4⟩
  exact ⟨.inl ⟨rfl, ws, .inl (.inl q1)⟩, l, ws, rfl, rfl, q1, q4⟩
theorem m_clr (ho : PE X o (tPa X.K i ps)) (hr : PSs X tail (tM i k m tn)) (hk : ps.length < k := by decide)
    (hbase : attributeBase o "clear" X.env (eval o X.env) = eval o X.env := by rfl) (hline : (apos.endLine == cpos.line) = true := by rfl)
    (hsw : swapsWith (.Call (.Attribute o "clear" apos) [] [] cpos) none pos.line X.env = pure false := by rfl) :
    PSs X (.Expr (.Call (.Attribute o "clear" apos) [] [] cpos) pos :: tail) (tM i k (mMod ps oC m) tn) := by
  refine m_call doesC (by simpa using hk) (pe_bm0 PySem.F.plainAttrs_list PySem.F.slot_list_clear PySem.F.type_list_clear mt_clear ho hbase hline) (fun σ H Q ⟨x, e, q⟩ => ⟨x, e, ?_⟩) hsw hr
  refine tPth_mono ps x H q ?_
  rintro y H1 ⟨l, ws, es, rfl, q1, q2, q3, q4⟩
  exact ⟨.inl ⟨rfl, ws, .inl (.inl q1)⟩, l, ws, rfl, rfl, q1, q4⟩
end
/-! ### a name gets new lists within new lists, is asked about, they are changed, it is left -/
def sNest (i : Nat) (ma : EM) (mq : QM) (mm : MM) (mr : SM) : SM := fun E τ n => i < τ.length ∧ ma τ n fun d n1 => mq (τ.set i (some (.d d))) n1 (fun n2 => mm d fun _ => mr E (τ.set i none) n2) E.rt
theorem Rel.gone {A : Act} {τ : Ev} {n n' : Nat} {σ : L2.St} {H F H' : Hp} {v : V} (i : Nat) (R : Rel A τ n σ H F) (x : Adv A.bx n n' H F H' F) : Rel A (τ.set i none) n' (σ.set i (some v)) H' F := by
  have R' := R.step x
  refine ⟨R'.ok, by rw [List.length_set, List.length_set]; exact R'.len, R'.adv, fun j s e => ?_, fun j l a s1 s2 hjl e1 o1 e2 o2 e3 e4 => ?_⟩
  · by_cases z : j = i
    · subst z
      rw [List.getElem?_set_self (by
        have := (List.getElem?_eq_some_iff.mp e).1
        rwa [List.length_set] at this)] at e
      cases e
    · rw [List.getElem?_set_ne (Ne.symm z)] at e
      obtain ⟨w, h1, h2⟩ := R'.sl j s e
      exact ⟨w, by rw [List.getElem?_set_ne (Ne.symm z)]; exact h1, h2⟩
  · have no : ∀ {j : Nat} {s : Sl}, (τ.set i none)[j]? = some (some s) → j ≠ i := fun {j s} e z => by
      subst z
      rw [List.getElem?_set_self (by
        have := (List.getElem?_eq_some_iff.mp e).1
        rwa [List.length_set] at this)] at e
      cases e
    have nj := no e1
    have nl := no e2
    rw [List.getElem?_set_ne (Ne.symm nj)] at e1 e3
    rw [List.getElem?_set_ne (Ne.symm nl)] at e2 e4
    exact R'.dis j l a s1 s2 hjl e1 o1 e2 o2 e3 e4
theorem s_nest {i k : Nat} {x : Str} {pos' : Pos} {tail : List Stmt} {mq : QM} {mm : MM} {mr : SM} (hN : X.N.Nodup) (hi : X.N[i]? = some x) (hx : Loc X.env.scope x) (h : E2 X (.nn k) a ma) (ht : ∀ Wx : WX, Takes X Wx → PSs X tail (tQ X.K kr mq (tM i k mm (tS X.K kr Wx mr))))
    (hs : swapsWith a (some (.Name x pos')) pos.line X.env = pure false := by rfl) (hf : X.fn x = true ∨ X.env.scope.names.lookup x = some .local := by first | exact .inl rfl | exact .inr rfl | assumption) :
    S2 X kr (.Assign [.Name x pos'] a pos :: tail) (sNest i ma mq mm mr) := by
  refine ⟨fun Wx tk => pss_weak (pss_cons (ps_set hN hi hx h.pe hs hf) (ht Wx tk)) fun Dd σ H ⟨A, τ, n, F, E, eK, R, ⟨hb, p⟩, e⟩ => tE_run eK R p fun d n1 v H1 F1 p1 a1 r1 => ?_⟩
  rw [← eK] at r1
  rw [R.len] at hb
  have R1 : Rel A (τ.set i (some (.d d))) n1 (σ.set i (some v)) H1 F1 := R.set1 (k := .nn k) i (by intro z; cases z) a1 r1
  refine ⟨A, _, n1, F1, _, _, eK, R1, p1, fun n2 H2 F2 p2 a2 => ?_, fun d2 n2 v2 H2 F2 p2 a2 r2 => ?_⟩
  · obtain ⟨_, fp, g⟩ := r1
    have g2 : FrT H H2 k v d fp := g.mono (fun _ _ z => z) fun c hc => keep_node a2 R1.box (g.at c hc).2
    refine ⟨H, v, d, fp, _, List.getElem?_set_self hb, g2, p2, fun d' H3 fp3 p3 g3 s3 w3 => ?_⟩
    have a12 := a1.trans a2
    have x3 : Adv A.bx n n2 H F H3 F := by
      have kp : ∀ c o, H c = some o → H3 c = H2 c := fun c o z => w3 c fun y => by
        rw [(g.at c y).1] at z
        cases z
      refine ⟨fun c o z y => (kp c o z).trans (a12.keep c o z y), fun _ _ => rfl, fun c o z => ?_, fun b z => ?_⟩
      · have hz := R.same c o z
        have nb : A.bx ≠ some c := fun y => by
          have q1 := R.ok.box c y
          have q2 := R.adv.old c (by rw [q1.1]; exact fun z => nomatch z)
          rw [q1.2] at q2
          rw [q2] at z
          cases z
        exact (kp c o hz).trans (a12.keep c o hz nb)
      · exact (kp b _ (R.box b z)).trans (a12.box b z)
    exact ⟨A, _, n2, F, E, eK, R.gone i x3, p3, e⟩
  · rw [← eK] at r2
    exact e.rt d2 n2 v2 H2 F2 p2 ((R.adv.trans a1).trans a2) ((r2.h0 fun c z => a1.none_back c z).h0 fun c z => R.h0some z)
end
section
variable {τ : Ev} {n : Nat} {E : En}
@[simp] theorem sNest_ap {i : Nat} {ma : EM} {mq : QM} {mm : MM} {mr : SM} : sNest i ma mq mm mr E τ n ↔ i < τ.length ∧ ma τ n fun d n1 => mq (τ.set i (some (.d d))) n1 (fun n2 => mm d fun _ => mr E (τ.set i none) n2) E.rt := Iff.rfl
@[simp] theorem qNil_ap {N : Nat → Prop} {P : D → Nat → Prop} : qNil τ n N P ↔ N n := Iff.rfl
@[simp] theorem qIf_ap {c : CM} {mb : EM} {r : QM} {N : Nat → Prop} {P : D → Nat → Prop} : qIf c mb r τ n N P ↔ c τ n fun t n1 => if t = true then mb τ n1 P else r τ n1 N P := Iff.rfl
@[simp] theorem mEnd_ap {d : D} {R : D → Prop} : mEnd d R ↔ R d := Iff.rfl
@[simp] theorem mMod_ap {ps : List Nat} {op : List D → Option (List D)} {r : MM} {d : D} {R : D → Prop} : mMod ps op r d R ↔ ∃ d', modP ps op d = some d' ∧ r d' R := Iff.rfl
end
section
variable {P : Program} {w : World} {K : PySem.W.Frag} {mg : Str → Option Value} {base : Heap}
theorem fn_okN {x qual : Str} {params : Arguments} {body : List Stmt} {scope : Scope} {f : Addr} {fd : FuncData} {N ps : List Str} {k : Nat} {kr : Kd} {b : SM} {mN : Nat}
    (F : FunD K x qual params body scope [] [] f fd) (S : FnScope N ps scope) (hN : N.length = mN)
    (hbody : ∀ (cdv : Value) (A : Around) (outer : List Env) (s : Shared) (H : Hp) (E : XK), Room k (A.deeper (envOfC qual scope s.heap.objs.size f cdv)) → S2 (cxOf CX0 P w K mg base N qual scope f cdv A outer s H E).nox kr body b)
    (hnx : ∀ E τ n, b E τ n → b { E with nx := fun _ _ => False } τ n) :
    FnOk P w K mg base CX0 (k + 1) f fd ps (Pr K kr ps.length (bodyM mN fun _ => b)) := by
  refine F.ok S (fun vs H Q E h => Pr.len vs H Q E h) fun cdv A outer s H vs Q E hr h => ⟨_, ((hbody cdv A outer s H E hr).ps _ takesF).nox, ?_⟩
  obtain ⟨F0, as, n, bx, P', PX, hl, sm, hb, hp, hm, hq, hx⟩ := h
  have R := start_rel (N := N) sm hb hp
  rw [hN] at R
  exact ⟨_, _, n, F0, _, rfl, R, hnx _ _ _ hm, ⟨fun _ _ _ _ _ z => z.elim, fun _ _ _ _ _ z => z.elim, fun _ _ _ _ _ z => z.elim, fun d n' v H' F' p' a' r' => hq d n' v H' F' p' a' r', fun _ _ _ _ _ _ _ _ z => z.elim⟩⟩
end
end TL
set_option Elab.async false
set_option linter.all false
set_option maxRecDepth 100000
set_option maxHeartbeats 4000000
/-! a tuple once; list(range(a, b)), tuple(range(a, b)) -/
namespace TL
open PySem PySem.Spec PyProof.Rows L2
theorem tuple_mul1 (l : Addr) (items : Array Value) (n : Nat) (dd : Option Addr) (sl : Array (Option Value)) (u : Tok) (hi : items.isEmpty = false) :
    Meets (Builtin.«tuple.__mul__» ⟨[.ref l, .int 1 u], []⟩) (fun _ R s => s.heap.get? l = some { cls := .type "tuple", dict := dd, data := .seq items n, slots := sl } ∧ R (.ok (.ret (Value.ref l))) s) :=
  .of_wp fun prog w A R s h => by
    obtain ⟨hp, g, d, tk, os⟩ := s
    obtain ⟨hl, h⟩ := h
    have f1 := AutoSeq1.idx_int
    wp_walk using wpAny_loadPart' hl
    exact ⟨_, rfl, h⟩
def rRep1 (K : PySem.W.Frag) : R2 := fun x y H Q => ∃ l xs, x = .ref l ∧ y = .int 1 ∧ SqT K H l xs ∧ xs ≠ [] ∧ Q (.ref l) H
section
variable {X : Cx} {K : PySem.W.Frag} {a b : Expr} {ma mb : EM} {pos : Pos}
theorem op_rep1 : OpR X (binaryOp .Mult) (rRep1 X.K) := by
  intro pins s σ H x y v u Q I rx ry h
  obtain ⟨l, xs, rfl, rfl, hT, hne, q⟩ := h
  cases rx
  obtain ⟨t, rfl⟩ := ry
  obtain ⟨its, r, ⟨⟨cls, dd, data, sl⟩, ho, hc, n, hd⟩, hs⟩ := I.tuple hT
  simp only at hc hd
  subst hc hd
  have hle : its.length = xs.length := r.length.symm
  have hn : its ≠ [] := fun e => hne (List.eq_nil_of_length_eq_zero (by rw [← hle, e]; rfl))
  have hi : its.toArray.isEmpty = false := by
    cases its with
    | nil => exact absurd rfl hn
    | cons a b => rfl
  refine wpAny_binaryOp_repeat_ref (T := "tuple") (U := "int") (by decide) ⟨_, ho, rfl⟩ (fun s' => typeIs_int s' 1 t) noFill_tuple_mul F.fills_int_mul F.slot_int_rmul repeat_tuple F.slot_int_index.lookup
    (call_meets F.slot_int_rmul (typeIs_int s 1 t) F.entry_int_rmul (F.args_int_rmul_2 _ _) (int_rmul_tuple 1 t l its.toArray n dd sl)
      ⟨ho, rfl, ⟨_, ho, rfl⟩, call_meets F.slot_tuple_mul ⟨_, ho, rfl⟩ F.entry_tuple_mul (F.args_tuple_mul_2 _ _) (tuple_mul1 l its.toArray n dd sl t hi) ⟨ho, ?_⟩⟩)
  exact ⟨.ref l, H, I, rfl, q⟩
def dRep1 : Op2 := fun x y P => ∃ xs, x = .tuple xs ∧ y = .int 1 ∧ xs ≠ [] ∧ P (.tuple xs)
def dRepU : Op2 := fun x y P => dRepT x y P ∨ dRep1 x y P
theorem does_repU : Does2 K .fz dRepU (fun x y H Q => rRepF K x y H Q ∨ rRep1 K x y H Q) := by
  rintro H F vx vy x y P Q s rx ry (h | ⟨xs, rfl, rfl, hx, p⟩) hq
  · exact .inl (does_repT H F vx vy x y P Q s rx ry h hq)
  · obtain ⟨l, vs, rfl, g1, g2⟩ := bw_tup s rx
    refine .inr ⟨l, vs, rfl, bw_int ry, g1, fun z => ?_, hq _ _ H F p (PAdv.refl s) ?_⟩
    · subst z; cases g2; exact hx rfl
    · rcases rx with r | ⟨_, _, _, e, _⟩
      · exact r
      · cases e
theorem e_repU (ha : E2 X .bw a ma) (hb : E2 X .bw b mb) : E2 X .fz (.BinOp a .Mult b pos) (m2 dRepU ma mb) := e_bin (op_repF.or op_rep1) does_repU ha hb
@[simp] theorem dRepU_ap {xs : List D} {k : Int} {P : D → Prop} : dRepU (.tuple xs) (.int k) P ↔ (xs ≠ [] ∧ (2 ≤ k ∧ k ≤ 1000 ∧ xs.length ≤ 1000) ∧ P (.tuple (List.replicate k.toNat xs).flatten)) ∨ (k = 1 ∧ xs ≠ [] ∧ P (.tuple xs)) := by
  constructor
  · rintro (⟨xs', k', e1, e2, h⟩ | ⟨xs', e1, e2, h⟩)
    · cases e1; cases e2
      exact .inl h
    · cases e1; cases e2
      exact .inr ⟨rfl, h⟩
  · rintro (h | ⟨rfl, h⟩)
    · exact .inl ⟨xs, k, rfl, rfl, h⟩
    · exact .inr ⟨xs, rfl, rfl, h⟩
end
end TL
set_option Elab.async false
set_option linter.all false
set_option maxRecDepth 100000
set_option maxHeartbeats 4000000
/-! xs[i], xs[k] = a, b of an owned list -/
namespace TL
open PySem PySem.Spec PyProof.Rows L2
section
variable {X : Cx} {a b : Expr} {ma mb : EM} {kr : Kd} {pos : Pos}
def sSwIx (j : Nat) (m1 m2 ma mb : EM) : SM := fun E τ n => ∃ xs, τ[j]? = some (some (.ow xs)) ∧ ma τ n fun d1 n1 => mb τ n1 fun d2 n2 => m1 τ n2 fun y1 n3 => ∃ i k, y1 = .int i ∧ ixN xs.length i = some k ∧
  m2 (τ.set j (some (.ow (xs.set k d1)))) n3 fun y2 n4 => ∃ i' k', y2 = .int i' ∧ ixN xs.length i' = some k' ∧ E.nx (τ.set j (some (.ow ((xs.set k d1).set k' d2)))) n4
theorem p_swIx {o1 o2 i1 i2 : Expr} {j : Nat} {m1 m2 : EM} {t1p t2p pt : Pos} {kt q2 pt2} (hc : X.calm = true) (ho1 : PE X o1 (tVar j)) (ho2 : PE X o2 (tVar j)) (h1 : E2 X .bw i1 m1) (h2 : E2 X .bw i2 m2) (ha : E2 X .fz a ma) (hb : E2 X .fz b mb)
    (g1 : ∀ v, assign (.Subscript o1 i1 t1p) X.env v = (do
      let ov ← holding [v] (eval o1 X.env)
      let iv ← holding [v, ov] (eval i1 X.env)
      standAt t1p
      holding [v, ov, iv] (setItem ov iv v)
      release [v, ov, iv] []) := by intro _; rfl)
    (g2 : ∀ v, assign (.Subscript o2 i2 t2p) X.env v = (do
      let ov ← holding [v] (eval o2 X.env)
      let iv ← holding [v, ov] (eval i2 X.env)
      standAt t2p
      holding [v, ov, iv] (setItem ov iv v)
      release [v, ov, iv] []) := by intro _; rfl)
    (hw : swappedStores [.Tuple [.Subscript o1 i1 t1p, .Subscript o2 i2 t2p] kt pt] (.Tuple [a, b] q2 pt2) X.env = pure none := by rfl)
    (hs : swapsWithSole [.Tuple [.Subscript o1 i1 t1p, .Subscript o2 i2 t2p] kt pt] (.Tuple [a, b] q2 pt2) pos.line X.env = pure false := by rfl)
    (e1 : (assignEach [.Tuple [.Subscript o1 i1 t1p, .Subscript o2 i2 t2p] kt pt] X.env).map (·.2) = [assign (.Tuple [.Subscript o1 i1 t1p, .Subscript o2 i2 t2p] kt pt) X.env] := by rfl)
    (s1 : starEach [a, b] X.env = (false, eval a X.env) :: starEach [b] X.env := by rfl) (s2 : starEach [b] X.env = (false, eval b X.env) :: starEach [] X.env := by rfl)
    (t1 : (assignEach [.Subscript o1 i1 t1p, .Subscript o2 i2 t2p] X.env).map (·.2) = assign (.Subscript o1 i1 t1p) X.env :: (assignEach [.Subscript o2 i2 t2p] X.env).map (·.2) := by rfl) (t2 : (assignEach [.Subscript o2 i2 t2p] X.env).map (·.2) = assign (.Subscript o2 i2 t2p) X.env :: (assignEach [] X.env).map (·.2) := by rfl)
    (hn : (assignEach [.Subscript o1 i1 t1p, .Subscript o2 i2 t2p] X.env).length = 2 := by rfl) (hst : (assignEach [.Subscript o1 i1 t1p, .Subscript o2 i2 t2p] X.env).findIdx? (·.1) = none := by rfl) :
    P2 X kr (.Assign [.Tuple [.Subscript o1 i1 t1p, .Subscript o2 i2 t2p] kt pt] (.Tuple [a, b] q2 pt2) pos) (sSwIx j m1 m2 ma mb) := by
  refine ⟨fun Wx tk => ps_weak (ps_asg (pe_tup (pa_cons ha.pe (pa_cons hb.pe pa_nil s2) s1)) (pg_tup hc (pgs_cons (pg_sub ho1 h1.pe set_list g1) (pgs_cons (pg_sub ho2 h2.pe set_list g2) pgs_nil t2) t1) hn hst) hs hw e1) fun Dd σ H ⟨A, τ, n, F, E, eK, R, ⟨xs, e0, p⟩, e⟩ => ?_⟩
  refine tE_run eK R p fun d1 n1 v1 H1 F1 p1 a1 r1 => tE_run eK (R.step a1) p1 fun d2 n2 v2 H2 F2 p2 a2 r2 => ?_
  have a12 := a1.trans a2
  have R2 := R.step a12
  refine ⟨by show 2 ≤ sizeLine; decide, fun q hq => ⟨q, [v1, v2], rfl, .inl (.inl upd_same), rfl, v1, [v2], rfl, ?_⟩⟩
  have a3 : Adv A.bx n2 n2 H2 F2 (upd H2 q (.tup [v1, v2])) F2 := (PAdv.new' a2.sub hq).adv R2.box
  have R3 := R2.step a3
  obtain ⟨w, k1, k2⟩ := R3.sl j _ e0
  refine ⟨w, k1, tE_run eK R3 p2 ?_⟩
  rintro y1 n3 vy H4 F4 ⟨i, k, rfl, hk, p3⟩ a4 r4
  have R4 := R3.step a4
  obtain ⟨w', k1', l, vs, rfl, l1, l2, l3, l4⟩ := R4.sl j _ e0
  rw [k1] at k1'
  cases k1'
  have f14 : Same F1 F4 := (a2.fro a1.sub).trans ((a3.fro R2.same).trans (a4.fro R3.same))
  have f24 : Same F2 F4 := (a3.fro R2.same).trans (a4.fro R3.same)
  rw [← dpAll_len l4] at hk
  refine ⟨l, vs, i, k, rfl, bw_int r4, l3, hk, ?_⟩
  have l4' : DpAll A.K F4 (vs.set k v1) (xs.set k d1) := dpAll_set (dp_mono f14 d1 v1 (eK ▸ r1)) k l4
  have R5 : Rel A (τ.set j (some (.ow (xs.set k d1)))) n3 σ (upd H4 l (.lst (vs.set k v1))) F4 := R4.upd e0 k1 l4'
  refine ⟨v2, [], rfl, .ref l, k1, tE_run eK R5 p3 ?_⟩
  rintro y2 n4 vy2 H6 F6 ⟨i', k', rfl, hk', p4⟩ a6 r6
  have R6 := R5.step a6
  have hj : j < τ.length := (List.getElem?_eq_some_iff.mp e0).1
  have e5 : (τ.set j (some (.ow (xs.set k d1))))[j]? = some (some (.ow (xs.set k d1))) := List.getElem?_set_self hj
  obtain ⟨w6, k6, l', vs6, rfl, m1, m2, m3, m4⟩ := R6.sl j _ e5
  rw [k1] at k6
  cases k6
  have hl6 : vs6.length = xs.length := by rw [dpAll_len m4, List.length_set]
  refine ⟨l, vs6, i', k', rfl, bw_int r6, m3, by rw [hl6]; exact hk', ?_⟩
  have m4' : DpAll A.K F6 (vs6.set k' v2) ((xs.set k d1).set k' d2) := dpAll_set (dp_mono (f24.trans (a6.fro R5.same)) d2 v2 (eK ▸ r2)) k' m4
  have R7 := R6.upd e5 k1 m4'
  rw [List.set_set] at R7
  exact ⟨rfl, e.nx _ n4 _ _ F6 p4 R7 ((a12.fro R.same).trans ((a3.fro R2.same).trans ((a4.fro R3.same).trans (a6.fro R5.same))))⟩
@[simp] theorem sSwIx_ap {j : Nat} {m1 m2 ma mb : EM} {E : En} {τ : Ev} {n : Nat} : sSwIx j m1 m2 ma mb E τ n ↔ ∃ xs, τ[j]? = some (some (.ow xs)) ∧ ma τ n fun d1 n1 => mb τ n1 fun d2 n2 => m1 τ n2 fun y1 n3 => ∃ i k, y1 = .int i ∧ ixN xs.length i = some k ∧
  m2 (τ.set j (some (.ow (xs.set k d1)))) n3 fun y2 n4 => ∃ i' k', y2 = .int i' ∧ ixN xs.length i' = some k' ∧ E.nx (τ.set j (some (.ow ((xs.set k d1).set k' d2)))) n4 := Iff.rfl
end
end TL
set_option Elab.async false
set_option linter.all false
set_option maxRecDepth 100000
set_option maxHeartbeats 4000000
/-! repr of any plain data -/
namespace TL
open PySem PySem.Spec PyProof.Rows L2
def isAtom : D → Bool
  | .none => true
  | .bool _ => true
  | .int _ => true
  | .str _ => true
  | _ => false
abbrev rReprT (K : PySem.W.Frag) : RN := fun xs H Q => ∃ x d, xs = [x] ∧ L2.Dp K H x d ∧ isAtom d = true ∧ d.showable = true ∧ d.shown.length ≤ sizeLine ∧ Q (.str d.shown) H
section
variable {X : Cx} {a : Expr} {ma : EM} {p pos : Pos}
theorem call_reprT : CallR X (.builtin "repr") (rReprT X.K) := by
  intro pins s σ H xs us Q I r h
  obtain ⟨x, d, rfl, hd, h0, h2, h4, q⟩ := h
  obtain ⟨v, eu, ru⟩ := vals1 r
  subst eu
  cases hd with
  | non =>
    cases ru
    exact P.repr_of_none ⟨.str "None", H, I.tok _, ⟨_, rfl⟩, q⟩
  | bl b =>
    cases ru
    exact P.repr_of_bool ⟨.str (if b then "True" else "False"), H, I.tok _, ⟨_, rfl⟩, q⟩
  | int i =>
    obtain ⟨t, rfl⟩ := ru
    exact P.repr_of_int (by simpa [PyData.showable] using h2) ⟨.str (toString i), H, I.tok _, ⟨_, rfl⟩, q⟩
  | str x =>
    obtain ⟨t, rfl⟩ := ru
    exact P.repr_of_str ⟨.str (reprText x), H, I.tok _, ⟨_, rfl⟩, q⟩ h4
  | _ => cases h0
def dReprT : Op1 := fun x P => isAtom x = true ∧ x.showable = true ∧ x.shown.length ≤ sizeLine ∧ P (.str x.shown)
def dReprU : Op1 := fun x P => dRepr x P ∨ dReprT x P
theorem e_reprU {k : Nat} {A0 : Around} (hgd : A0.guards = some []) (hr : Room k X.A) (hg : Gl X "repr") (hm : X.mg "repr" = none) (ha : E2 X .bw a ma) (hA : X.A.guards = A0.guards := by rfl) (he : starEach [a] X.env = (false, eval a X.env) :: starEach [] X.env := by rfl) (hpl : (backTo pos (starEach [] X.env)).any (·.1) = false := by rfl) :
    E2 X .fz (.Call (.Name "repr" p) [a] [] pos) (m1 dReprU ma) := by
  refine e_f1 ((call_reprD (hA.trans hgd) hr.units).or call_reprT) ?_ hg hm PyProof.Rows.boot_repr ha (by decide) (by decide) he hpl
  rintro H F vx y P Q s rx (⟨h0, h1, h2, h3, h4, p⟩ | ⟨h0, h2, h4, p⟩) hq
  · exact .inl ⟨vx, y, rfl, bw_l2 s h1 rx, h0, h1, h2, h3, h4, hq _ _ H F p (PAdv.refl s) (.str _)⟩
  · refine .inr ⟨vx, y, rfl, ?_, h0, h2, h4, hq _ _ H F p (PAdv.refl s) (.str _)⟩
    rcases rx with r | ⟨_, _, _, rfl, _⟩
    · cases r with
      | non => exact .non
      | bl b => exact .bl b
      | int i => exact .int i
      | str x => exact .str x
      | _ => cases h0
    · cases h0
end
end TL
set_option Elab.async false
set_option linter.all false
set_option maxRecDepth 100000
set_option maxHeartbeats 4000000
/-! list(range(a, b)), tuple(range(a, b)); count of a tuple -/
namespace TL
open PySem PySem.Spec PyProof.Rows L2
section
variable {X : Cx} {K : PySem.W.Frag} {a b : Expr} {ma mb : EM} {p q pos qos : Pos}
def dRg2 (k : List D → D) : Op2 := fun x y P => ∃ i j, x = .int i ∧ y = .int j ∧ (-(2 ^ 62) ≤ i ∧ i < 2 ^ 62 ∧ -(2 ^ 62) ≤ j ∧ j < 2 ^ 62 ∧ j - i ≤ 2 ^ 24) ∧ P (k (rangeD i (j - i).toNat))
@[simp] theorem dRg2_ap {k : List D → D} {i j : Int} {P : D → Prop} : dRg2 k (.int i) (.int j) P ↔ (-(2 ^ 62) ≤ i ∧ i < 2 ^ 62 ∧ -(2 ^ 62) ≤ j ∧ j < 2 ^ 62 ∧ j - i ≤ 2 ^ 24) ∧ P (k (rangeD i (j - i).toNat)) := by simp [dRg2]
theorem rgV_dp2 {F : Hp} (m n : Int) : DpAll K F (rgV m n) (rangeD m (n - m).toNat) := by
  unfold rgV rangeD
  induction (List.range (n - m).toNat) with
  | nil => exact .nil
  | cons i r ih => exact .cons (.int _) ih
theorem e_listRg2 (hc : X.calm = true) (hg : Gl X "list") (hm : X.mg "list" = none) (hg' : Gl X "range") (hm' : X.mg "range" = none) (ha : E2 X .bw a ma) (hb : E2 X .bw b mb) (na : starEach [a, b] X.env = (false, eval a X.env) :: starEach [b] X.env := by rfl)
    (nb : starEach [b] X.env = (false, eval b X.env) :: starEach [] X.env := by rfl) (hp : (backTo qos (starEach [b] X.env)).any (·.1) = false := by rfl)
    (nc : starEach [.Call (.Name "range" q) [a, b] [] qos] X.env = (false, eval (.Call (.Name "range" q) [a, b] [] qos) X.env) :: starEach [] X.env := by rfl) : E2 X .nw (.Call (.Name "list" p) [.Call (.Name "range" q) [a, b] [] qos] [] pos) (m2 (dRg2 .list) ma mb) := by
  refine ⟨pe_weak (pe_listRg hc hg hm (prg_2 hg' hm' ha.pe hb.pe na nb hp) nc) fun σ H Q ⟨A, τ, n, F, P, eK, R, hm, hq⟩ => tE_run eK R hm fun x n1 v1 H1 F1 p1 a1 r1 => tE_run eK (R.step a1) p1 ?_⟩
  rintro y n2 v2 H2 F2 ⟨i, j, rfl, rfl, hb, p⟩ a2 r2
  have a12 := a1.trans a2
  refine ⟨i, j, bw_int r1, bw_int r2, ⟨hb.1, hb.2.1, hb.2.2.1, hb.2.2.2.1, by omega⟩, fun q hp => ?_⟩
  obtain ⟨b1, b2⟩ := new_nw a2.sub hp (rgV_dp2 (K := X.K) (F := F2) i j)
  exact hq _ n2 _ _ _ p (a12.trans (b1.adv (R.step a12).box)) (b2.h0 fun c h => a12.none_back c h)
theorem e_tupRg2 (hc : X.calm = true) (hg : Gl X "tuple") (hm : X.mg "tuple" = none) (hg' : Gl X "range") (hm' : X.mg "range" = none) (ha : E2 X .bw a ma) (hb : E2 X .bw b mb) (na : starEach [a, b] X.env = (false, eval a X.env) :: starEach [b] X.env := by rfl)
    (nb : starEach [b] X.env = (false, eval b X.env) :: starEach [] X.env := by rfl) (hp : (backTo qos (starEach [b] X.env)).any (·.1) = false := by rfl)
    (nc : starEach [.Call (.Name "range" q) [a, b] [] qos] X.env = (false, eval (.Call (.Name "range" q) [a, b] [] qos) X.env) :: starEach [] X.env := by rfl) : E2 X .fz (.Call (.Name "tuple" p) [.Call (.Name "range" q) [a, b] [] qos] [] pos) (m2 (dRg2 .tuple) ma mb) := by
  refine ⟨pe_weak (pe_tupRgF hc hg hm (prg_2 hg' hm' ha.pe hb.pe na nb hp) nc) fun σ H Q ⟨A, τ, n, F, P, eK, R, hm, hq⟩ => tE_run eK R hm fun x n1 v1 H1 F1 p1 a1 r1 => tE_run eK (R.step a1) p1 ?_⟩
  rintro y n2 v2 H2 F2 ⟨i, j, rfl, rfl, hb, p⟩ a2 r2
  have a12 := a1.trans a2
  refine ⟨i, j, bw_int r1, bw_int r2, ⟨hb.1, hb.2.1, hb.2.2.1, hb.2.2.2.1, by omega⟩, fun q o hp ho => ?_⟩
  obtain ⟨b1, b2⟩ := new_tup a2.sub hp ho (rgV_dp2 (K := X.K) (F := F2) i j)
  exact hq _ n2 _ _ _ p (a12.trans (b1.adv (R.step a12).box)) b2
end
/-! ### count of a tuple -/
section
variable {X : Cx}
def rCountT (K : PySem.W.Frag) : V → List V → Hp → VK → Prop := fun x xs H Q => ∃ (a : Addr) (y : V) (d : PyData) (ds : List PyData), x = V.ref a ∧ xs = [y] ∧ L2.Dp K H (V.ref a) (.tuple ds) ∧ L2.Dp K H y d ∧
  SeqAt.shaped (.tuple ds) = true ∧ SeqAt.shaped d = true ∧ Q (.int ((ds.countP fun z => PyData.eqv z d : Nat))) H
theorem mt_countT (hu : X.A.units + 65 < cLine) : MtR X "tuple.count" (rCountT X.K) := by
  intro pins s σ H x xs v us Q I rx rxs h
  obtain ⟨a, y, d, ds, rfl, rfl, hl, hy, sl, sd, q⟩ := h
  cases rx
  cases rxs with
  | cons ry rt =>
    rename_i uy ut
    cases rt
    obtain ⟨bs, r1⟩ := L2.Dp.reads I d y uy hy ry
    obtain ⟨hxs, hdep⟩ := layAll_tup sl
    have hroom : X.A.units + 1 + min (PyData.depthAll ds) d.depth < cLine := by omega
    cases hl with
    | tup hs ha =>
      obtain ⟨its, rv, ⟨⟨cls, dd, data, sls⟩, ho, hc, n, hdt⟩, hlen⟩ := I.tuple hs
      simp only at hc hdt
      subst hc hdt
      obtain ⟨as, h4⟩ := L2.Dp.readsAll I ds _ its ha rv
      have hmap : its.map (SeqAt.readOf s.heap) = ds := SeqAt.readsAll_map ds its as hxs h4
      have hcnt : its.toArray.toList.countP (fun u => PyData.eqv (SeqAt.readOf s.heap u) d) = ds.countP fun z => PyData.eqv z d := by
        rw [← hmap, List.countP_map]
        rfl
      refine call_meets PySem.F.slot_tuple_count ⟨_, ho, rfl⟩ PySem.F.entry_tuple_count (PySem.F.args_tuple_count_2 _ _)
        (SeqAt.tuple_countAt a its.toArray n dd sls uy (fun u => PyData.eqv (SeqAt.readOf s.heap u) d)) ⟨ho, SeqAt.items_eqAt (vs := its.toArray) (show ReadsAll s.heap its.toArray.toList ds as from h4) r1 hxs (SeqAt.canLay_of_shaped sd) hroom, ?_⟩
      rw [hcnt]
      exact ⟨.int ((ds.countP fun z => PyData.eqv z d : Nat)), H, I.tok _, ⟨_, rfl⟩, q⟩
end
def mCountT (a b : EM) : EM := fun τ n Q => a τ n fun x n1 => ∃ ds, x = .tuple ds ∧ b τ n1 fun y n2 => SeqAt.shaped (.tuple ds) = true ∧ SeqAt.shaped y = true ∧ Q (.int ((ds.countP fun z => PyData.eqv z y : Nat))) n2
@[simp] theorem mCountT_ap {a b : EM} {τ : Ev} {n : Nat} {Q : D → Nat → Prop} : mCountT a b τ n Q ↔ a τ n fun x n1 => ∃ ds, x = .tuple ds ∧ b τ n1 fun y n2 => SeqAt.shaped (.tuple ds) = true ∧ SeqAt.shaped y = true ∧ Q (.int ((ds.countP fun z => PyData.eqv z y : Nat))) n2 := Iff.rfl
section
variable {X : Cx} {a b : Expr} {ma mb : EM} {apos cpos : Pos}
theorem e_countT {k : Nat} (hr : Room k X.A) (ha : E2 X .fz a ma) (hb : E2 X .fz b mb) (hbase : attributeBase a "count" X.env (eval a X.env) = eval a X.env := by rfl)
    (hfew : ((backTo cpos (starEach [b] X.env)).all (fun x => !x.1) && (backToKw cpos (keywordEach [] X.env)).all (fun x => x.1.isSome)
      && decide (([b] : List Expr).length + ([] : List Keyword).length + (if ([] : List Keyword).isEmpty then 0 else 1) < 30)) = true := by rfl)
    (hline : (apos.endLine == cpos.line) = true := by rfl) (hs : starEach [b] X.env = (false, eval b X.env) :: starEach [] X.env := by rfl) (hplain : (backTo cpos (starEach [] X.env)).any (·.1) = false := by rfl) :
    E2 X .fz (.Call (.Attribute a "count" apos) [b] [] cpos) (mCountT ma mb) := by
  refine ⟨pe_weak (pe_bmT PySem.F.slot_tuple_count PySem.F.type_tuple_count (mt_countT (Room.units65 hr)) ha.pe (pa_cons hb.pe pa_nil hs) hbase hfew hline hs hplain) fun σ H Q ⟨A, τ, n, F, P, eK, R, hm, hq⟩ => tE_run eK R hm ?_⟩
  rintro x n1 v1 H1 F1 ⟨ds, rfl, p1⟩ a1 r1
  have r1' : Dp X.K F1 v1 (.tuple ds) := r1
  cases id r1' with
  | tup hs ha =>
    refine ⟨⟨_, _, rfl, hs.mono a1.sub⟩, tE_run eK (R.step a1) p1 ?_⟩
    rintro y n2 v2 H2 F2 ⟨s1, s2, p2⟩ a2 r2
    have a12 := a1.trans a2
    have r2' : Dp X.K F2 v2 y := r2
    have s12 := a2.fro a1.sub
    refine ⟨_, v2, y, ds, rfl, rfl, ?_, ?_, s1, s2, hq _ n2 _ H2 F2 p2 a12 (.int _)⟩
    · exact dp_l2 _ _ (lay0_shaped s1) (dp_mono (s12.trans a2.sub) _ _ r1')
    · exact dp_l2 _ _ (lay0_shaped s2) (dp_mono a2.sub _ _ r2')
end
end TL
set_option Elab.async false
set_option linter.all false
set_option maxRecDepth 100000
set_option maxHeartbeats 4000000
/-! list(zip(xs, ys, strict=True)) -/
namespace TL
open PySem PySem.Spec PyProof.Rows L2
abbrev IsZipSH (h : Heap) (z TI TO T : Addr) (f : Bool) : Prop :=
  h.get? z = some { cls := .type "zip", dict := none, data := .fields #[rawInt T, .bool f, .bool true, .ref TI, .ref TO], slots := #[] }
section
variable {prog : Program} {w : World} {A : Around} {E : Value → Shared → Prop} {s : Shared}
theorem heldS {z TI TO T : Addr} {f : Bool} {oT : Obj} {Q : Bool → Shared → Prop} (hz : IsZipSH s.heap z TI TO T f) (hT : s.heap.get? T = some oT)
    (h : ∀ h', IsZipSH h' z TI TO T true → Heap.SameBut z s.heap h' → Q false { s with heap := h' }) : wpAny (model prog w) A (Builtin.SmallTypes.ownedTupleIsFree (.ref z)) Q E s := by
  unfold Builtin.SmallTypes.ownedTupleIsFree
  refine wpAny_bind (wpAny_field hz rfl (x := rawInt T) rfl ?_)
  show wpAny _ _ (loadIfAlive ((T : Int).toNat) >>= _) _ _ _
  rw [Int.toNat_natCast]
  refine wpAny_bind (PySem.W.kdx_alive hT ?_)
  simp only [Option.isNone_some, Bool.false_eq_true, if_false]
  refine wpAny_bind (wpAny_field hz rfl (x := .bool f) rfl ?_)
  cases f with
  | true =>
    rw [if_neg (show ¬ ((Value.bool true != Value.bool true) = true) from Bool.false_ne_true)]
    exact wpAny_pure (h s.heap hz (Heap.SameBut.refl _ _))
  | false =>
    rw [if_pos (show (Value.bool false != Value.bool true) = true from rfl)]
    exact wpAny_bind (wpAny_setField_rec hz (by simp) fun h₁ hz₁ hs₁ => wpAny_pure (h h₁ hz₁ hs₁))
theorem zipSH_item {c1 c2 : Bool} {z TI TO T i1 i2 l1 l2 : Addr} {f : Bool} {oT : Obj} {k1 k2 : Nat} {xs ys : Array Value} {x y : Value} {Q : Value → Shared → Prop} (D : ZipApart z TI TO i1 i2 l1 l2)
    (hz : IsZipSH s.heap z TI TO T f) (hT : s.heap.get? T = some oT) (hTI : IsPair s.heap TI (.ref i1) (.ref i2))
    (h1 : ItB c1 s.heap i1 l1 k1) (h2 : ItB c2 s.heap i2 l2 k2) (hl1 : SqB c1 s.heap l1 xs) (hl2 : SqB c2 s.heap l2 ys) (hx : xs[k1]? = some x) (hy : ys[k2]? = some y)
    (hQ : ∀ h', IsZipSH h' z TI TO T true → ItB c1 h' i1 l1 (k1 + 1) → ItB c2 h' i2 l2 (k2 + 1) → IsPair h' s.heap.objs.size x y → h'.objs.size = s.heap.objs.size + 1 →
      (∀ c o, c ≠ z → c ≠ i1 → c ≠ i2 → s.heap.get? c = some o → h'.get? c = some o) → Q (.ref s.heap.objs.size) { s with heap := h' }) :
    wpAny (model prog w) A (Builtin.«zip.__next__» ⟨[.ref z], []⟩) (fun fin s' => ∃ v, fin = .done (.ret v) ∧ Q v s') E s := by
  show wpAny _ _ (field (.ref z) 2 >>= _) _ _ _
  refine wpAny_bind (wpAny_field hz rfl (x := .bool true) rfl ?_)
  show wpAny _ _ (field (.ref z) 3 >>= _) _ _ _
  refine wpAny_bind (wpAny_field hz rfl (x := .ref TI) rfl ?_)
  refine wpAny_bind (wpAny_seqItems hTI rfl ?_)
  show wpAny _ _ (Builtin.SmallTypes.ownedTupleIsFree (.ref z) >>= _) _ _ _
  refine wpAny_bind (heldS hz hT fun h₁ hz₁ hs₁ => ?_)
  simp only [Bool.false_eq_true, if_false]
  refine wpAny_bind ?_
  rw [← Array.forIn_toList]
  simp only [List.forIn_cons, List.forIn_nil]
  refine wpAny_bind (wpAny_bind (wpAny_holding ?_))
  show wpAny _ _ (Builtin.SmallTypes.nextOrEnd (.ref i1)) _ _ _
  refine nextE_item (s := { s with heap := h₁ }) (h1.at fun o e => hs₁.extBut _ o D.i1z e) (hl1.at fun o e => hs₁.extBut _ o D.l1z e) hx fun h₂ h1₂ hs₂ => ?_
  refine wpAny_pure ?_
  refine wpAny_bind (wpAny_bind (wpAny_holding ?_))
  show wpAny _ _ (Builtin.SmallTypes.nextOrEnd (.ref i2)) _ _ _
  refine nextE_item (s := { s with heap := h₂ }) (h2.at fun o e => hs₂.extBut _ o D.i12.symm (hs₁.extBut _ o D.i2z e)) (hl2.at fun o e => hs₂.extBut _ o D.l2i1 (hs₁.extBut _ o D.l2z e)) hy fun h₃ h2₃ hs₃ => ?_
  refine wpAny_pure (wpAny_pure ?_)
  show wpAny _ _ (newTuple [x, y] >>= _) _ _ _
  refine wpAny_bind (wpAny_newTuple ?_)
  have hsz : h₃.objs.size = s.heap.objs.size := by rw [hs₃.1, hs₂.1, hs₁.1]
  have hz₃ : IsZipSH h₃ z TI TO T true := hs₃.extBut _ _ D.i2z.symm (hs₂.extBut _ _ D.i1z.symm hz₁)
  have hk : ∀ c o, c ≠ z → c ≠ i1 → c ≠ i2 → s.heap.get? c = some o → h₃.get? c = some o := fun c o c1 c2 c3 e => hs₃.extBut _ _ c3 (hs₂.extBut _ _ c2 (hs₁.extBut _ _ c1 e))
  have h1₃ : ItB c1 h₃ i1 l1 (k1 + 1) := h1₂.at fun o e => hs₃.extBut _ o D.i12 e
  refine wpAny_pure ⟨_, rfl, ?_⟩
  show Q (.ref h₃.objs.size) _
  have hp : IsPair (h₃.push { cls := .type "tuple", data := .seq #[x, y] }) h₃.objs.size x y := Heap.get?_push_size _ rfl
  have hz4 : (h₃.push { cls := .type "tuple", data := .seq #[x, y] }).objs.size = h₃.objs.size + 1 := Heap.size_push ..
  rw [hsz] at hp hz4 ⊢
  exact hQ _ (Heap.get?_push_of_some _ hz₃) (h1₃.at fun o e => Heap.get?_push_of_some _ e) (h2₃.at fun o e => Heap.get?_push_of_some _ e) hp hz4 fun c o c1 c2 c3 e => Heap.get?_push_of_some _ (hk c o c1 c2 c3 e)
theorem zipSH_end {c1 c2 : Bool} {z TI TO T i1 i2 l1 l2 : Addr} {f : Bool} {oT : Obj} {k1 k2 : Nat} {xs ys : Array Value} {Q : Fin → Shared → Prop} (hh : A.handled = none) (D : ZipApart z TI TO i1 i2 l1 l2)
    (hz : IsZipSH s.heap z TI TO T f) (hT : s.heap.get? T = some oT) (hTI : IsPair s.heap TI (.ref i1) (.ref i2))
    (h1 : ItB c1 s.heap i1 l1 k1) (h2 : ItB c2 s.heap i2 l2 k2) (hl1 : SqB c1 s.heap l1 xs) (hl2 : SqB c2 s.heap l2 ys) (hx : xs[k1]? = none) (hy : ys[k2]? = none)
    (hE : ∀ h' e, (∀ c o, c ≠ z → c ≠ i1 → c ≠ i2 → s.heap.get? c = some o → h'.get? c = some o) → (∃ o, h'.get? e = some o ∧ o.cls = .type "StopIteration") → E (.ref e) { s with heap := h' }) :
    wpAny (model prog w) A (Builtin.«zip.__next__» ⟨[.ref z], []⟩) Q E s := by
  show wpAny _ _ (field (.ref z) 2 >>= _) _ _ _
  refine wpAny_bind (wpAny_field hz rfl (x := .bool true) rfl ?_)
  show wpAny _ _ (field (.ref z) 3 >>= _) _ _ _
  refine wpAny_bind (wpAny_field hz rfl (x := .ref TI) rfl ?_)
  refine wpAny_bind (wpAny_seqItems hTI rfl ?_)
  show wpAny _ _ (Builtin.SmallTypes.ownedTupleIsFree (.ref z) >>= _) _ _ _
  refine wpAny_bind (heldS hz hT fun h₁ hz₁ hs₁ => ?_)
  simp only [Bool.false_eq_true, if_false]
  refine wpAny_bind ?_
  rw [← Array.forIn_toList]
  simp only [List.forIn_cons, List.forIn_nil]
  refine wpAny_bind (wpAny_bind (wpAny_holding ?_))
  show wpAny _ _ (Builtin.SmallTypes.nextOrEnd (.ref i1)) _ _ _
  refine nextE_end (s := { s with heap := h₁ }) hh (h1.at fun o e => hs₁.extBut _ o D.i1z e) (hl1.at fun o e => hs₁.extBut _ o D.l1z e) hx fun h₂ hs₂ => ?_
  have h2₂ : ItB c2 h₂ i2 l2 k2 := h2.at fun o e => hs₂ _ o D.i12.symm (hs₁.extBut _ o D.i2z e)
  have hl2₂ : SqB c2 h₂ l2 ys := hl2.at fun o e => hs₂ _ o D.l2i1 (hs₁.extBut _ o D.l2z e)
  refine wpAny_bind ?_
  show wpAny _ _ (forIn [(Value.ref i2, 1)] _ _ >>= _) _ _ _
  simp only [List.forIn_cons, List.forIn_nil]
  refine wpAny_bind (wpAny_bind ?_)
  refine wpAny_bind (nextE_end (s := { s with heap := h₂ }) hh h2₂ hl2₂ hy fun h₄ hs₄ => ?_)
  refine wpAny_pure (wpAny_pure ?_)
  refine wpAny_bind (wpAny_rule ?_)
  unfold Builtin.SmallTypes.stopIteration
  refine wpAny_bind ?_
  simp only [newExc, newTuple]
  refine wpAny_bind (wpAny_newObj_type ?_ (by size_fits))
  refine wpAny_bind (m := firstArgMember _ _) (wpAny_of_eq (a := Value.none) (by first | rfl | (simp only [firstArgMember]; rfl)) ?_)
  refine wpAny_newObj_type ?_ (by size_fits)
  simp only [raiseNew]
  refine wpAny_bind (wpAny_handled ?_)
  rw [hh]
  refine wpAny_bind (wpAny_pure (wpAny_throw ?_))
  exact hE _ _ (fun c o c1 c3 c4 x => Heap.get?_push_of_some _ (Heap.get?_push_of_some _ (hs₄ _ _ c4 (hs₂ _ _ c3 (hs₁.extBut _ _ c1 x))))) ⟨_, Heap.get?_push_size _ rfl, rfl⟩
theorem nextSH_item {c1 c2 : Bool} {z TI TO T i1 i2 l1 l2 : Addr} {f : Bool} {oT : Obj} {k1 k2 : Nat} {xs ys : Array Value} {x y : Value} {Q : Option Value → Shared → Prop} (D : ZipApart z TI TO i1 i2 l1 l2)
    (hz : IsZipSH s.heap z TI TO T f) (hT : s.heap.get? T = some oT) (hTI : IsPair s.heap TI (.ref i1) (.ref i2))
    (h1 : ItB c1 s.heap i1 l1 k1) (h2 : ItB c2 s.heap i2 l2 k2) (hl1 : SqB c1 s.heap l1 xs) (hl2 : SqB c2 s.heap l2 ys) (hx : xs[k1]? = some x) (hy : ys[k2]? = some y)
    (hQ : ∀ h', IsZipSH h' z TI TO T true → ItB c1 h' i1 l1 (k1 + 1) → ItB c2 h' i2 l2 (k2 + 1) → IsPair h' s.heap.objs.size x y → h'.objs.size = s.heap.objs.size + 1 →
      (∀ c o, c ≠ z → c ≠ i1 → c ≠ i2 → s.heap.get? c = some o → h'.get? c = some o) → Q (some (.ref s.heap.objs.size)) { s with heap := h' }) :
    wpAny (model prog w) A (pyNext (.ref z)) Q E s := by
  have hTy : s.TypeIs (.ref z) "zip" := ⟨_, hz, rfl⟩
  unfold pyNext
  exact wpAny_bind (wpAny_attempt (wpAny_callSpecial?_slot (name := Str.ofString "__next__") hTy F.slot_zip_next
    (wpAny_call_entry F.slot_zip_next hTy F.entry_zip_next
      (zipSH_item D hz hT hTI h1 h2 hl1 hl2 hx hy fun h' a1 a3 a4 a5 a6 a7 => wpAny_pure (hQ h' a1 a3 a4 a5 a6 a7)) (F.args_zip_next_1 _))))
theorem nextSH_end {c1 c2 : Bool} {z TI TO T i1 i2 l1 l2 : Addr} {f : Bool} {oT : Obj} {k1 k2 : Nat} {xs ys : Array Value} {Q : Option Value → Shared → Prop} (hh : A.handled = none) (D : ZipApart z TI TO i1 i2 l1 l2)
    (hz : IsZipSH s.heap z TI TO T f) (hT : s.heap.get? T = some oT) (hTI : IsPair s.heap TI (.ref i1) (.ref i2))
    (h1 : ItB c1 s.heap i1 l1 k1) (h2 : ItB c2 s.heap i2 l2 k2) (hl1 : SqB c1 s.heap l1 xs) (hl2 : SqB c2 s.heap l2 ys) (hx : xs[k1]? = none) (hy : ys[k2]? = none)
    (hQ : ∀ h', (∀ c o, c ≠ z → c ≠ i1 → c ≠ i2 → s.heap.get? c = some o → h'.get? c = some o) → Q none { s with heap := h' }) : wpAny (model prog w) A (pyNext (.ref z)) Q E s := by
  have hTy : s.TypeIs (.ref z) "zip" := ⟨_, hz, rfl⟩
  unfold pyNext
  refine wpAny_bind (wpAny_attempt (wpAny_callSpecial?_slot (name := Str.ofString "__next__") hTy F.slot_zip_next
    (wpAny_call_entry F.slot_zip_next hTy F.entry_zip_next (zipSH_end hh D hz hT hTI h1 h2 hl1 hl2 hx hy fun h' e hk he => ?_) (F.args_zip_next_1 _))))
  obtain ⟨o, ho, hc⟩ := he
  refine wpAny_bind (wpAny_isInstance (T := "StopIteration") (b := true) ⟨o, ho, hc⟩ isSubtype_stop ?_)
  exact wpAny_pure (hQ _ hk)
end
/-- the zip as a list takes from it -/
structure ZSt (c1 c2 : Bool) (h : Heap) (z TI TO i1 i2 l1 l2 S : Addr) (i : Nat) (xs ys : Array Value) : Prop where
  pair : IsPair h TI (.ref i1) (.ref i2)
  it1 : ItB c1 h i1 l1 i
  it2 : ItB c2 h i2 l2 i
  sq1 : SqB c1 h l1 xs
  sq2 : SqB c2 h l2 ys
  zip : (IsZipS h z TI TO .none ∧ ∃ a b, IsPair h TO a b) ∨ ∃ T f oT, IsZipSH h z TI TO T f ∧ h.get? T = some oT ∧ T ≠ z ∧ T ≠ i1 ∧ T ≠ i2 ∧ T ≠ S
structure ZApart (z TI TO i1 i2 l1 l2 S : Addr) : Prop where
  a : ZipApart z TI TO i1 i2 l1 l2
  z : z ≠ S
  TI : TI ≠ S
  TO : TO ≠ S
  i1 : i1 ≠ S
  i2 : i2 ≠ S
  l1 : l1 ≠ S
  l2 : l2 ≠ S
theorem ZSt.keep {c1 c2 : Bool} {h h' : Heap} {z TI TO i1 i2 l1 l2 S : Addr} {i : Nat} {xs ys : Array Value} (x : ZSt c1 c2 h z TI TO i1 i2 l1 l2 S i xs ys) (D : ZApart z TI TO i1 i2 l1 l2 S) (hk : ∀ b o, b ≠ S → h.get? b = some o → h'.get? b = some o) : ZSt c1 c2 h' z TI TO i1 i2 l1 l2 S i xs ys := by
  refine ⟨hk _ _ D.TI x.pair, x.it1.at fun o e => hk _ o D.i1 e, x.it2.at fun o e => hk _ o D.i2 e, x.sq1.at fun o e => hk _ o D.l1 e, x.sq2.at fun o e => hk _ o D.l2 e, ?_⟩
  rcases x.zip with ⟨hz, a, b, hTO⟩ | ⟨T, f, oT, hz, hT, r1, r2, r3, r4⟩
  · exact .inl ⟨hk _ _ D.z hz, a, b, hk _ _ D.TO hTO⟩
  · exact .inr ⟨T, f, oT, hk _ _ D.z hz, hk _ _ r4 hT, r1, r2, r3, r4⟩
section
variable {prog : Program} {w : World} {A : Around} {E : Value → Shared → Prop} {s : Shared} {c1 c2 : Bool} {z TI TO i1 i2 l1 l2 S : Addr} {i : Nat} {xs ys : Array Value}
theorem zst_item {x y : Value} {Q : Option Value → Shared → Prop} (D : ZApart z TI TO i1 i2 l1 l2 S) (st : ZSt c1 c2 s.heap z TI TO i1 i2 l1 l2 S i xs ys) (hS : S < s.heap.objs.size) (hx : xs[i]? = some x) (hy : ys[i]? = some y)
    (hQ : ∀ h', ZSt c1 c2 h' z TI TO i1 i2 l1 l2 S (i + 1) xs ys → IsPair h' s.heap.objs.size x y → h'.objs.size = s.heap.objs.size + 1 →
      (∀ c o, c ≠ z → c ≠ TO → c ≠ i1 → c ≠ i2 → s.heap.get? c = some o → h'.get? c = some o) → Q (some (.ref s.heap.objs.size)) { s with heap := h' }) :
    wpAny (model prog w) A (pyNext (.ref z)) Q E s := by
  obtain ⟨hTI, h1, h2, hl1, hl2, hz⟩ := st
  have lt : ∀ {c o}, s.heap.get? c = some o → s.heap.objs.size ≠ c := fun e => Nat.ne_of_gt (Heap.lt_size e)
  have n1 : s.heap.objs.size ≠ i1 := by obtain ⟨_, e, _⟩ := h1.get; exact lt e
  have n2 : s.heap.objs.size ≠ i2 := by obtain ⟨_, e, _⟩ := h2.get; exact lt e
  rcases hz with ⟨hz, a, b, hTO⟩ | ⟨T, f, oT, hz, hT, r1, r2, r3, r4⟩
  · refine nextS_item D.a hz hTI hTO h1 h2 hl1 hl2 hx hy fun h' a1 a2 a3 a4 a5 a6 hk => hQ h' ⟨hk _ _ D.a.TIz D.a.TITO D.a.TIi1 D.a.TIi2 hTI, a3, a4, hl1.at fun o e => hk _ o D.a.l1z D.a.l1TO D.a.l1i1 D.a.l1i2 e, hl2.at fun o e => hk _ o D.a.l2z D.a.l2TO D.a.l2i1 D.a.l2i2 e,
      .inr ⟨s.heap.objs.size, false, _, a1, a5, lt hz, n1, n2, Nat.ne_of_gt hS⟩⟩ a5 a6 hk
  · refine nextSH_item D.a hz hT hTI h1 h2 hl1 hl2 hx hy fun h' a1 a3 a4 a5 a6 hk => hQ h' ⟨hk _ _ D.a.TIz D.a.TIi1 D.a.TIi2 hTI, a3, a4, hl1.at fun o e => hk _ o D.a.l1z D.a.l1i1 D.a.l1i2 e, hl2.at fun o e => hk _ o D.a.l2z D.a.l2i1 D.a.l2i2 e,
      .inr ⟨T, true, oT, a1, hk _ _ r1 r2 r3 hT, r1, r2, r3, r4⟩⟩ a5 a6 fun c o c1 _ c3 c4 e => hk c o c1 c3 c4 e
theorem zst_end {Q : Option Value → Shared → Prop} (hh : A.handled = none) (D : ZApart z TI TO i1 i2 l1 l2 S) (st : ZSt c1 c2 s.heap z TI TO i1 i2 l1 l2 S i xs ys) (hx : xs[i]? = none) (hy : ys[i]? = none)
    (hQ : ∀ h', (∀ c o, c ≠ z → c ≠ TO → c ≠ i1 → c ≠ i2 → s.heap.get? c = some o → h'.get? c = some o) → Q none { s with heap := h' }) : wpAny (model prog w) A (pyNext (.ref z)) Q E s := by
  obtain ⟨hTI, h1, h2, hl1, hl2, hz⟩ := st
  rcases hz with ⟨hz, a, b, hTO⟩ | ⟨T, f, oT, hz, hT, r1, r2, r3, r4⟩
  · exact nextS_end hh D.a hz hTI hTO h1 h2 hl1 hl2 hx hy hQ
  · exact nextSH_end hh D.a hz hT hTI h1 h2 hl1 hl2 hx hy fun h' hk => hQ h' fun c o c1 _ c3 c4 e => hk c o c1 c3 c4 e
end
/-- the pairs made so far -/
structure ZG (xs ys : Array Value) (lo : Addr) (h : Heap) (as : List Addr) : Prop where
  rise : as.Pairwise (· < ·)
  above : ∀ a ∈ as, lo < a
  pairs : ∀ (j : Nat) (a : Addr), as[j]? = some a → ∃ x y, xs[j]? = some x ∧ ys[j]? = some y ∧ IsPair h a x y
section
variable {prog : Program} {w : World} {A : Around} {s : Shared} {R : Result → Shared → Prop} {c1 c2 : Bool} {z TI TO i1 i2 l1 l2 S : Addr} {xs ys : Array Value}
theorem ZG.there {lo : Addr} {h : Heap} {as : List Addr} (g : ZG xs ys lo h as) {a : Addr} (ha : a ∈ as) : a < h.objs.size := by
  obtain ⟨j, hj⟩ := List.mem_iff_getElem?.mp ha
  obtain ⟨_, _, _, _, e⟩ := g.pairs j a hj
  exact Heap.lt_size e
theorem zls_loop {lo : Addr} (hh : A.handled = none) (D : ZApart z TI TO i1 i2 l1 l2 S) (hlo : z ≤ lo ∧ TO ≤ lo ∧ i1 ≤ lo ∧ i2 ≤ lo ∧ S ≤ lo) (hn : xs.size ≤ sizeLine) (hxy : xs.size = ys.size) (res : Value) {h₁ : Heap}
    (hR : ∀ h' tk acc c as, (∀ b o, b ≠ S → b ≠ z → b ≠ TO → b ≠ i1 → b ≠ i2 → h₁.get? b = some o → h'.get? b = some o) → h'.get? S = some { cls := .type "list", dict := none, data := .seq acc c, slots := #[] } → as.length = xs.size → ZG xs ys lo h' as →
      acc.toList = as.map Value.ref → R (.ok (.ret res)) { s with heap := h', toks := tk }) :
    ∀ (k i : Nat) (h : Heap) (tk c : Nat) (acc : Array Value) (as : List Addr), xs.size - i = k → i ≤ xs.size → ZSt c1 c2 h z TI TO i1 i2 l1 l2 S i xs ys → (∀ b o, b ≠ S → b ≠ z → b ≠ TO → b ≠ i1 → b ≠ i2 → h₁.get? b = some o → h.get? b = some o) →
      h.get? S = some { cls := .type "list", dict := none, data := .seq acc c, slots := #[] } → acc.toList = as.map Value.ref → as.length = i → ZG xs ys lo h as → lo < h.objs.size →
      codeAny (model prog w) A (.builtin "list.extend.loop" ⟨[.ref S, .ref z, res], []⟩) R { s with heap := h, toks := tk } := by
  intro k
  have off : ∀ a, lo < a → a ≠ z ∧ a ≠ TO ∧ a ≠ i1 ∧ a ≠ i2 ∧ a ≠ S := fun a ha => by
    obtain ⟨q1, q2, q3, q4, q5⟩ := hlo
    exact ⟨Nat.ne_of_gt (Nat.lt_of_le_of_lt q1 ha), Nat.ne_of_gt (Nat.lt_of_le_of_lt q2 ha), Nat.ne_of_gt (Nat.lt_of_le_of_lt q3 ha), Nat.ne_of_gt (Nat.lt_of_le_of_lt q4 ha), Nat.ne_of_gt (Nat.lt_of_le_of_lt q5 ha)⟩
  induction k with
  | zero =>
    intro i h tk c acc as hk hi hst hkeep hS hacc hal hG hIs
    have hin : i = xs.size := by omega
    refine codeAny_builtin PySem.F.entry_extend_loop ?_
    rw [Around.under_plainId PySem.F.plain_extend_loop _]
    show wpAny _ A.in1 (pyNext (.ref z) >>= _) _ _ _
    refine wpAny_bind (zst_end (s := { s with heap := h, toks := tk }) (A := A.in1) hh D hst (Array.getElem?_eq_none (by omega)) (Array.getElem?_eq_none (by omega)) fun h' he => ?_)
    refine wpAny_pure (hR h' tk acc c as (fun b o q1 q2 q3 q4 q5 e => he b o q2 q3 q4 q5 (hkeep b o q1 q2 q3 q4 q5 e)) (he S _ (Ne.symm D.z) (Ne.symm D.TO) (Ne.symm D.i1) (Ne.symm D.i2) hS) (by omega) ⟨hG.rise, hG.above, fun j a hj => ?_⟩ hacc)
    obtain ⟨x, y, e1, e2, e3⟩ := hG.pairs j a hj
    obtain ⟨q1, q2, q3, q4, q5⟩ := off a (hG.above a (List.mem_of_getElem? hj))
    exact ⟨x, y, e1, e2, he a _ q1 q2 q3 q4 e3⟩
  | succ k ih =>
    intro i h tk c acc as hk hi hst hkeep hS hacc hal hG hIs
    have hlt : i < xs.size := by omega
    have hlt2 : i < ys.size := by omega
    have hsz : acc.size = i := by rw [← Array.length_toList, hacc, List.length_map, hal]
    refine codeAny_builtin PySem.F.entry_extend_loop ?_
    rw [Around.under_plainId PySem.F.plain_extend_loop _]
    show wpAny _ A.in1 (pyNext (.ref z) >>= _) _ _ _
    refine wpAny_bind (zst_item (s := { s with heap := h, toks := tk }) D hst (Heap.lt_size hS) (Array.getElem?_eq_getElem hlt) (Array.getElem?_eq_getElem hlt2) fun h' hst' ht hz hkp => ?_)
    dsimp only at ht hz hkp ⊢
    have hS' := hkp S _ (Ne.symm D.z) (Ne.symm D.TO) (Ne.symm D.i1) (Ne.symm D.i2) hS
    have up : ∀ b o, b ≠ S → h'.get? b = some o → (h'.update S (Obj.mapSeq (·.push (Value.ref h.objs.size)))).get? b = some o := fun b o hb e => (Heap.get?_update_other _ _ (Ne.symm hb)).trans e
    have hSl : S < h.objs.size := Heap.lt_size hS
    show wpAny _ A.in1 (updateSeq S (·.push (Value.ref h.objs.size)) >>= _) _ _ _
    refine wpAny_bind ?_
    refine wpAny_updateSeq hS' rfl (wpAny_pure ⟨plainId_quiet PySem.F.plain_extend_loop _, ih (i + 1) _ tk _ (acc.push (Value.ref h.objs.size)) (as ++ [h.objs.size]) (by omega) hlt (hst'.keep D up)
      (fun b o q1 q2 q3 q4 q5 e => up b o q1 (hkp b o q2 q3 q4 q5 (hkeep b o q1 q2 q3 q4 q5 e))) (Heap.get?_update_self _ hS' rfl) (by rw [Array.toList_push, hacc, List.map_append]; rfl) (by rw [List.length_append, hal]; rfl) ⟨?_, ?_, ?_⟩ ?_⟩) (by rw [hsz]; omega) (by show (acc.push (Value.ref h.objs.size)).size ≤ sizeLine + 1; rw [Array.size_push, hsz]; omega)
    · refine List.pairwise_append.mpr ⟨hG.rise, List.pairwise_singleton _ _, fun a ha b hb => ?_⟩
      rw [List.mem_singleton.mp hb]
      exact hG.there ha
    · intro a ha
      rcases List.mem_append.mp ha with ha | ha
      · exact hG.above a ha
      · rw [List.mem_singleton.mp ha]; exact hIs
    · intro j b hj
      rcases Nat.lt_trichotomy j as.length with q | q | q
      · rw [List.getElem?_append_left q] at hj
        obtain ⟨x', y', e1, e2, e3⟩ := hG.pairs j b hj
        obtain ⟨q1, q2, q3, q4, q5⟩ := off b (hG.above b (List.mem_of_getElem? hj))
        exact ⟨x', y', e1, e2, up b _ q5 (hkp b _ q1 q2 q3 q4 e3)⟩
      · subst q
        have hb : h.objs.size = b := by simpa using hj
        subst hb
        exact ⟨_, _, by rw [hal]; exact Array.getElem?_eq_getElem hlt, by rw [hal]; exact Array.getElem?_eq_getElem hlt2, up _ _ (Nat.ne_of_gt hSl) ht⟩
      · have hnone : (as ++ [h.objs.size])[j]? = none := List.getElem?_eq_none (by rw [List.length_append, List.length_singleton]; omega)
        rw [hnone] at hj; cases hj
    · have e : (h'.update S (Obj.mapSeq (·.push (Value.ref h.objs.size)))).get? h.objs.size = _ := up _ _ (Nat.ne_of_gt hSl) ht
      exact Nat.lt_trans hIs (Heap.lt_size e)
end
theorem zip_no_len : typeLookup (.type "zip") "__len__" = pure none := am_miss_of_fast (by decide +kernel)
theorem zip_no_hint : typeLookup (.type "zip") "__length_hint__" = pure none := am_miss_of_fast (by decide +kernel)
section
variable {prog : Program} {w : World} {A : Around} {E : Value → Shared → Prop} {s : Shared} {c1 c2 : Bool} {z TI TO i1 i2 l1 l2 : Addr} {xs ys : Array Value}
theorem zls_hint (hT : s.TypeIs (.ref z) "zip") {Q : Bool → Shared → Prop} (h : Q true s) : wpAny (model prog w) A (Builtin.List.listLengthHint (.ref z)) Q E s := by
  unfold Builtin.List.listLengthHint
  refine wpAny_bind (wpAny_specialOf hT zip_no_len ?_)
  show wpAny _ _ (specialOf (.ref z) "__length_hint__" >>= _) _ _ _
  refine wpAny_bind (wpAny_specialOf hT zip_no_hint ?_)
  exact wpAny_pure h
theorem zls_extend {R : Result → Shared → Prop} {S lo : Addr} (hh : A.handled = none) (D : ZApart z TI TO i1 i2 l1 l2 S) (hlo : z ≤ lo ∧ TO ≤ lo ∧ i1 ≤ lo ∧ i2 ≤ lo ∧ S ≤ lo) (hlo2 : lo < s.heap.objs.size) (hn : xs.size ≤ sizeLine) (hxy : xs.size = ys.size) (res : Value) (c₀ : Nat)
    (st : ZSt c1 c2 s.heap z TI TO i1 i2 l1 l2 S 0 xs ys) (hz : IsZipS s.heap z TI TO .none) (hS : s.heap.get? S = some { cls := .type "list", data := .seq #[] c₀ })
    (hR : ∀ h' tk acc c as, (∀ b o, b ≠ S → b ≠ z → b ≠ TO → b ≠ i1 → b ≠ i2 → s.heap.get? b = some o → h'.get? b = some o) → h'.get? S = some { cls := .type "list", dict := none, data := .seq acc c, slots := #[] } → as.length = xs.size → ZG xs ys lo h' as →
      acc.toList = as.map Value.ref → R (.ok (.ret res)) { s with heap := h', toks := tk }) :
    wpAny (model prog w) A.in1 (Builtin.List.listExtendWith (.ref S) (.ref z) res)
      (fun fin s' => match fin with | .done f => R (.ok f) s' | .again c' => c'.quiet = true ∧ codeAny (model prog w) A c' R s') (fun e s' => R (.error e) s') s := by
  have hT : s.TypeIs (.ref z) "zip" := ⟨_, hz, rfl⟩
  have key : ∀ (h : Heap) (c₁ tk : Nat), (∀ b o, b ≠ S → s.heap.get? b = some o → h.get? b = some o) → lo < h.objs.size →
      h.get? S = some { cls := .type "list", data := .seq #[] c₁ } → codeAny (model prog w) A (.builtin "list.extend.loop" ⟨[.ref S, .ref z, res], []⟩) R { s with heap := h, toks := tk } := by
    intro h c₁ tk hk hl hS₁
    exact zls_loop (s := s) (h₁ := s.heap) hh D hlo hn hxy res hR xs.size 0 h tk c₁ #[] [] (Nat.sub_zero _) (Nat.zero_le _) (st.keep D hk) (fun b o hb _ _ _ _ e => hk b o hb e) hS₁ rfl rfl
      ⟨List.Pairwise.nil, (fun _ ha => nomatch ha), (fun j a hj => by simp at hj)⟩ hl
  unfold Builtin.List.listExtendWith
  refine wpAny_bind (wpAny_typeOf (T := "zip") hT ?_)
  have h1 : Builtin.List.listSameRef (.ref S) (.ref z) = false := by simp [Builtin.List.listSameRef, Ne.symm D.z]
  have h2 : (Value.type "zip" == Value.type "list") = false := by decide
  have h3 : (Value.type "zip" == Value.type "tuple") = false := by decide
  simp only [h1, h2, h3, Bool.or_false, Bool.false_eq_true, if_false]
  refine wpAny_bind (iterS hz ?_)
  refine wpAny_bind (wpAny_holding (zls_hint hT ?_))
  refine wpAny_ite_split (fun _ => ?_) (fun _ => wpAny_pure ⟨plainId_quiet PySem.F.plain_extend_loop _, key _ c₀ _ (fun b o _ e => e) hlo2 hS⟩)
  refine wpAny_bind (wpAny_rule ?_)
  refine wpAny_bind ?_
  show wpAny _ _ (updateSeq S (·.push .none) >>= fun _ => updateSeq S (·.pop)) _ _ _
  refine wpAny_bind (wpAny_updateSeq hS rfl ?_)
  have hS₂ := Heap.get?_update_self (Obj.mapSeq (·.push Value.none)) hS rfl
  refine wpAny_updateSeq (hz := by seq_fits) hS₂ rfl ?_
  have hS₃ := Heap.get?_update_self (Obj.mapSeq (·.pop)) hS₂ rfl
  have hk : ∀ b o, b ≠ S → s.heap.get? b = some o → ((s.heap.update S (Obj.mapSeq (·.push Value.none))).update S (Obj.mapSeq (·.pop))).get? b = some o := fun b o hb e => (Heap.get?_update_other _ _ (Ne.symm hb)).trans ((Heap.get?_update_other _ _ (Ne.symm hb)).trans e)
  refine wpAny_pure ⟨plainId_quiet PySem.F.plain_extend_loop _, key _ _ _ hk ?_ hS₃⟩
  have e1 : ∀ (h : Heap) (f : Obj → Obj), (h.update S f).objs.size = h.objs.size := fun h f => (Heap.SameBut.update ..).1
  rw [e1, e1]
  exact hlo2
theorem zls_init {R : Result → Shared → Prop} {S lo : Addr} (hh : A.handled = none) (D : ZApart z TI TO i1 i2 l1 l2 S) (hlo : z ≤ lo ∧ TO ≤ lo ∧ i1 ≤ lo ∧ i2 ≤ lo ∧ S ≤ lo) (hlo2 : lo < s.heap.objs.size) (hn : xs.size ≤ sizeLine) (hxy : xs.size = ys.size)
    (st : ZSt c1 c2 s.heap z TI TO i1 i2 l1 l2 S 0 xs ys) (hz : IsZipS s.heap z TI TO .none) (hS : s.heap.get? S = some { cls := .type "list", data := .seq #[] })
    (hR : ∀ h' tk acc c as, (∀ b o, b ≠ S → b ≠ z → b ≠ TO → b ≠ i1 → b ≠ i2 → s.heap.get? b = some o → h'.get? b = some o) → h'.get? S = some { cls := .type "list", dict := none, data := .seq acc c, slots := #[] } → as.length = xs.size → ZG xs ys lo h' as →
      acc.toList = as.map Value.ref → R (.ok (.ret .none)) { s with heap := h', toks := tk }) :
    wpAny (model prog w) A.in1 (Builtin.«list.__init__» ⟨[.ref S, .ref z], []⟩)
      (fun fin s' => match fin with | .done f => R (.ok f) s' | .again c' => c'.quiet = true ∧ codeAny (model prog w) A c' R s') (fun e s' => R (.error e) s') s := by
  show wpAny _ _ (do let old ← Builtin.List.listItems (.ref S); Builtin.List.listUpdate (.ref S) (fun _ => #[]); letGo old.toList.reverse; Builtin.List.listExtendWith (.ref S) (.ref z) .none) _ _ s
  refine wpAny_bind ?_
  unfold Builtin.List.listItems
  refine wpAny_bind (wpAny_seqItems hS rfl (wpAny_pure ?_))
  show wpAny _ _ (updateSeq S (fun _ => #[]) >>= fun _ => letGo (#[] : Array Value).toList.reverse >>= fun _ => Builtin.List.listExtendWith (.ref S) (.ref z) .none) _ _ s
  refine wpAny_bind (wpAny_updateSeq hS rfl ?_)
  have hS₂ := Heap.get?_update_self (Obj.mapSeq (fun _ => (#[] : Array Value))) hS rfl
  have oth : ∀ b o, b ≠ S → s.heap.get? b = some o → (s.heap.update S (Obj.mapSeq (fun _ => (#[] : Array Value)))).get? b = some o :=
    fun b o hb e => (Heap.get?_update_other _ _ (Ne.symm hb)).trans e
  have e1 : ∀ (h : Heap) (f : Obj → Obj), (h.update S f).objs.size = h.objs.size := fun h f => (Heap.SameBut.update ..).1
  refine wpAny_bind (wpAny_letGo ?_)
  refine zls_extend (s := { s with heap := s.heap.update S (Obj.mapSeq (fun _ => (#[] : Array Value))) }) hh D hlo (by show lo < (s.heap.update S _).objs.size; rw [e1]; exact hlo2) hn hxy .none _ (st.keep D oth) (oth _ _ D.z hz) hS₂ (fun h' tk acc c as hk hS' hl hG hacc => ?_)
  exact hR h' tk acc c as (fun b o q1 q2 q3 q4 q5 e => hk b o q1 q2 q3 q4 q5 (oth b o q1 e)) hS' hl hG hacc
end
/-- zip made, then listed -/
theorem zls_call {prog : Program} {w : World} {A : Around} {E : Value → Shared → Prop} {s : Shared} {c1 c2 : Bool} {l1 l2 : Addr} {xs ys : Array Value} {Q : Value → Shared → Prop} (hh : A.handled = none) (B : Nat) (hB : s.heap.objs.size = B + 5)
    (hz : IsZipS s.heap (B + 4) (B + 2) (B + 3) .none) (hTI : IsPair s.heap (B + 2) (.ref B) (.ref (B + 1))) (hTO : IsPair s.heap (B + 3) .none .none) (h1 : ItB c1 s.heap B l1 0) (h2 : ItB c2 s.heap (B + 1) l2 0) (hl1 : SqB c1 s.heap l1 xs) (hl2 : SqB c2 s.heap l2 ys)
    (b1 : l1 < B) (b2 : l2 < B) (hn : xs.size ≤ sizeLine) (hxy : xs.size = ys.size)
    (hQ : ∀ h' tk acc c as, (∀ b o, b < B → s.heap.get? b = some o → h'.get? b = some o) → h'.get? (B + 5) = some { cls := .type "list", dict := none, data := .seq acc c, slots := #[] } → as.length = xs.size → ZG xs ys (B + 5) h' as →
      acc.toList = as.map Value.ref → Q (.ref (B + 5)) { s with heap := h', toks := tk }) :
    wpAny (model prog w) A (call (.type "list") [.ref (B + 4)]) Q E s := by
  refine callType_codes (Q₁ := fun obj s₁ => obj = .ref s.heap.objs.size ∧ s₁ = { s with heap := s.heap.push { cls := .type "list", data := .seq #[] } }) PySem.F.called_list (PySem.F.typeCall_list_1 _) PySem.F.entry_list_init
    (code_list_new _ ⟨rfl, rfl⟩) fun obj s₁ h₁ => ?_
  obtain ⟨rfl, rfl⟩ := h₁
  have hS : (s.heap.push { cls := .type "list", data := .seq #[] }).get? s.heap.objs.size = some { cls := .type "list", data := .seq #[] } := Heap.get?_push_size _ rfl
  have up : ∀ b o, s.heap.get? b = some o → (s.heap.push { cls := .type "list", data := .seq #[] }).get? b = some o := fun b o e => Heap.get?_push_of_some _ e
  have ne : ∀ a b : Nat, a ≠ b → @Ne Addr a b := fun _ _ h => h
  have lt : ∀ a b : Nat, @LT.lt Addr _ a b → a < b := fun _ _ h => h
  have b1' := lt _ _ b1
  have b2' := lt _ _ b2
  have D : ZApart (B + 4) (B + 2) (B + 3) B (B + 1) l1 l2 (B + 5) := ⟨PySem.W.ktu_apart B l1 l2 b1 b2, ne _ _ (by omega), ne _ _ (by omega), ne _ _ (by omega), ne _ _ (by omega), ne _ _ (by omega), ne _ _ (by omega), ne _ _ (by omega)⟩
  have hsz : (s.heap.push { cls := .type "list", data := .seq #[] }).objs.size = B + 6 := by rw [Heap.size_push, hB]
  rw [hB] at hS ⊢
  refine ⟨⟨_, hS, rfl⟩, PySem.F.args_list_init_2 _ _, zls_init (A := A.in1) (lo := B + 5) hh D (show (B + 4 : Nat) ≤ B + 5 ∧ (B + 3 : Nat) ≤ B + 5 ∧ B ≤ B + 5 ∧ (B + 1 : Nat) ≤ B + 5 ∧ (B + 5 : Nat) ≤ B + 5 by omega) (by show B + 5 < (s.heap.push _).objs.size; rw [hsz]; omega) hn hxy ⟨up _ _ hTI, h1.at fun o e => up _ o e, h2.at fun o e => up _ o e, hl1.at fun o e => up _ o e, hl2.at fun o e => up _ o e, .inl ⟨up _ _ hz, _, _, up _ _ hTO⟩⟩ (up _ _ hz) hS (fun h' tk acc c as hk hS' hl hG hacc => ?_)⟩
  exact ⟨rfl, hQ h' tk acc c as (fun b o hb e => have hb' := lt _ _ hb; hk b o (ne _ _ (by omega)) (ne _ _ (by omega)) (ne _ _ (by omega)) (ne _ _ (by omega)) (ne _ _ (by omega)) (up b o e)) hS' hl hG hacc⟩
end TL
set_option Elab.async false
set_option linter.all false
set_option maxRecDepth 100000
set_option maxHeartbeats 4000000
/-! list(zip(xs, ys, strict=True)): the rule -/
namespace TL
open PySem PySem.Spec PyProof.Rows L2
def putH : Hp → List Addr → List HO → Hp
  | H, a :: as, p :: os => putH (upd H a p) as os
  | H, _, _ => H
theorem putH_off {b : Addr} : ∀ (as : List Addr) (os : List HO) (H : Hp), b ∉ as → putH H as os b = H b
  | [], _, _, _ => rfl
  | _ :: _, [], _, _ => rfl
  | a :: as, p :: os, H, h => by
    show putH (upd H a p) as os b = H b
    rw [putH_off as os _ (fun z => h (List.mem_cons_of_mem _ z)), upd_ne (fun z => h (by rw [z]; exact List.mem_cons_self))]
theorem putH_at : ∀ (as : List Addr) (os : List HO) (H : Hp), as.Nodup → ∀ (j : Nat) (a : Addr) (o : HO), as[j]? = some a → os[j]? = some o → putH H as os a = some o
  | [], _, _, _, _, _, _, h, _ => by simp at h
  | _ :: _, [], _, _, _, _, _, _, h => by simp at h
  | b :: as, p :: os, H, hn, 0, a, o, h1, h2 => by
    have hn' := List.nodup_cons.mp hn
    simp at h1 h2
    subst h1 h2
    show putH (upd H b p) as os b = some p
    rw [putH_off as os _ hn'.1, upd_same]
  | b :: as, p :: os, H, hn, j + 1, a, o, h1, h2 => putH_at as os (upd H b p) (List.nodup_cons.mp hn).2 j a o (by simpa using h1) (by simpa using h2)
theorem vals_refs' : ∀ as : List Addr, Vals (as.map V.ref) (as.map Value.ref)
  | [] => .nil
  | _ :: as => .cons rfl (vals_refs' as)
/-- a new list p of new pairs ts -/
structure NewPairs (H H' : Hp) (p : Addr) (ts : List Addr) (vs ws : List V) : Prop where
  keep : Same H H'
  newp : H p = none
  newt : ∀ t ∈ ts, H t = none
  off : p ∉ ts
  lst : H' p = some (.lst (ts.map V.ref))
  len : ts.length = vs.length
  pairs : ∀ (j : Nat) (t : Addr), ts[j]? = some t → ∃ o x y, H' t = some (kT o [x, y]) ∧ o.dict = none ∧ vs[j]? = some x ∧ ws[j]? = some y
section
variable {X : Cx}
theorem zls_laid {pins : List (Addr × Obj)} {σ : L2.St} {H : Hp} {s : Shared} {h' : Heap} {tk : Nat} {vs ws : List V} {us zs : List Value} {acc : Array Value} {c : Nat} {as : List Addr} {S : Addr} (I : Inv X pins σ H s) (hz : vs.length ≤ sizeLine) (rv : Vals vs us) (rw' : Vals ws zs) (hxy : us.length = zs.length)
    (hk : ∀ b o, s.heap.get? b = some o → h'.get? b = some o) (hS0 : s.heap.objs.size ≤ S) (hS : h'.get? S = some { cls := .type "list", dict := none, data := .seq acc c, slots := #[] }) (hl : as.length = us.length) (hG : ZG us.toArray zs.toArray S h' as) (hacc : acc.toList = as.map Value.ref) :
    ∃ H' : Hp, NewPairs H H' S as vs ws ∧ Inv X pins σ H' { s with heap := h', toks := tk } := by
  have l1 := rv.length
  have l2 := rw'.length
  have hSn : S ∉ as := fun z => Nat.lt_irrefl _ (hG.above _ z)
  have nd : as.Nodup := List.Pairwise.imp (fun {a b} (h : a < b) => Nat.ne_of_lt h) hG.rise
  have new : ∀ t ∈ as, H t = none := fun t ht => I.hok.fresh (Nat.le_of_lt (Nat.lt_of_le_of_lt hS0 (hG.above t ht)))
  have newS : H S = none := I.hok.fresh hS0
  let os : List HO := (List.range as.length).map fun j => kT { cls := .type "tuple", data := .seq #[us.getD j .none, zs.getD j .none] } [vs.getD j .non, ws.getD j .non]
  have osj : ∀ j, j < as.length → os[j]? = some (kT { cls := .type "tuple", data := .seq #[us.getD j .none, zs.getD j .none] } [vs.getD j .non, ws.getD j .non]) := fun j hj => by
    show ((List.range as.length).map _)[j]? = _
    rw [List.getElem?_map, List.getElem?_range hj]
    rfl
  have facts : ∀ (j : Nat) (t : Addr), as[j]? = some t → ∃ (u z : Value) (x y : V), us[j]? = some u ∧ zs[j]? = some z ∧ vs[j]? = some x ∧ ws[j]? = some y ∧ RelV x u ∧ RelV y z ∧ os[j]? = some (kT { cls := .type "tuple", data := .seq #[u, z] } [x, y]) ∧ h'.get? t = some { cls := .type "tuple", data := .seq #[u, z] } := fun j t e => by
    have hj : j < as.length := (List.getElem?_eq_some_iff.mp e).1
    obtain ⟨u, z, e1, e2, e3⟩ := hG.pairs j t e
    have e1' : us[j]? = some u := by simpa using e1
    have e2' : zs[j]? = some z := by simpa using e2
    have hv : j < vs.length := by omega
    have hw : j < ws.length := by omega
    obtain ⟨u', g1, g2⟩ := rv.get (List.getElem?_eq_getElem hv)
    obtain ⟨z', g3, g4⟩ := rw'.get (List.getElem?_eq_getElem hw)
    rw [e1'] at g1
    rw [e2'] at g3
    cases g1
    cases g3
    refine ⟨u, z, vs[j], ws[j], e1', e2', List.getElem?_eq_getElem hv, List.getElem?_eq_getElem hw, g2, g4, ?_, e3⟩
    rw [osj j hj]
    simp [List.getD_eq_getElem?_getD, e1', e2', hv, hw]
  have atP := putH_at as os (upd H S (.lst (as.map V.ref))) nd
  have off : ∀ b, b ∉ as → b ≠ S → putH (upd H S (.lst (as.map V.ref))) as os b = H b := fun b h1 h2 => by rw [putH_off as os _ h1, upd_ne h2]
  have low : ∀ b o, s.heap.get? b = some o → b ∉ as ∧ b ≠ S := fun b o e => ⟨fun z => absurd (Heap.lt_size e) (Nat.not_lt.mpr (Nat.le_of_lt (Nat.lt_of_le_of_lt hS0 (hG.above b z)))), Nat.ne_of_lt (Nat.lt_of_lt_of_le (Heap.lt_size e) hS0)⟩
  have kp : ∀ b u, H b = some u → (putH (upd H S (.lst (as.map V.ref))) as os) b = some u := fun b u e => by
    rw [off b (fun z => by rw [new b z] at e; cases e) (fun z => by rw [z, newS] at e; cases e)]
    exact e
  have eS : putH (upd H S (.lst (as.map V.ref))) as os S = some (.lst (as.map V.ref)) := by rw [putH_off as os _ hSn, upd_same]
  refine ⟨putH (upd H S (.lst (as.map V.ref))) as os, ⟨kp, newS, new, hSn, eS, by omega, fun j t e => ?_⟩, ?_⟩
  · obtain ⟨u, z, x, y, _, _, f3, f4, _, _, f7, _⟩ := facts j t e
    exact ⟨_, x, y, atP j t _ e f7, rfl, f3, f4⟩
  refine I.call' (ch := []) rfl ⟨fun b o q _ _ _ => hk b o q, fun b o q _ _ _ => ⟨o.slots, hk b o q⟩, fun b o q n _ => ?_, fun b o q _ => ⟨o, hk b o q⟩, fun b xs q => kp b _ q, fun b o u q => kp b _ q, fun b ps q => ⟨#[], by rw [kp b _ q]; simp⟩⟩ (fun b u q => ?_) I.bare fun b z => by simp at z
  · obtain ⟨z1, z2⟩ := low b o q
    rw [off b z1 z2]
    exact n
  · by_cases hb : b ∈ as
    · obtain ⟨j, e1⟩ := List.mem_iff_getElem?.mp hb
      obtain ⟨u', z, x, y, _, _, _, _, f5, f6, f7, f8⟩ := facts j b e1
      rw [atP j b _ e1 f7] at q
      cases q
      exact push_kT (.cons f5 (.cons f6 .nil)) (by show 2 ≤ sizeLine; decide) f8 rfl
    · by_cases hb2 : b = S
      · rw [hb2] at q ⊢
        rw [eS] at q
        cases q
        refine ⟨by rw [List.length_map]; omega, acc.toList, c, by rw [hacc]; exact vals_refs' as, ?_⟩
        rw [Array.toArray_toList]
        exact hS
      · rw [off b hb hb2] at q
        exact (I.hok b u q).stay (fun d v _ y => hk d v y) (fun d y => kp d _ y) fun d xs y => kp d _ y
end
def tListZipS (K : PySem.W.Frag) (ta : TA) : TE := fun σ H Q => ta σ H fun vs H1 => ∃ c1 c2 a b xs ys, vs = [.ref a, .ref b] ∧ SqX c1 K H1 a xs ∧ SqX c2 K H1 b ys ∧ xs.length = ys.length ∧ xs.length ≤ sizeLine ∧ ∀ H' p ts, NewPairs H1 H' p ts xs ys → Q (.ref p) H'
theorem pe_listZipS {X : Cx} {e e2 : Expr} {ta : TA} {p lp pos zpos kpos cpos : Pos} {ck : Nat} (hc : X.calm = true) (hgl : Gl X "list") (hml : X.mg "list" = none) (hg : Gl X "zip") (hm : X.mg "zip" = none) (ha : PA X [e, e2] ta)
    (hs : starEach [.Call (.Name "zip" p) [e, e2] [⟨some "strict", .Constant (.bool true) ck cpos, kpos⟩] zpos] X.env = (false, eval (.Call (.Name "zip" p) [e, e2] [⟨some "strict", .Constant (.bool true) ck cpos, kpos⟩] zpos) X.env) :: starEach [] X.env := by rfl)
    (he : backTo zpos (starEach [e, e2] X.env) = (false, eval e X.env) :: backTo zpos (starEach [e2] X.env) := by rfl) (hpl : (backTo zpos (starEach [e, e2] X.env)).any (·.1) = false := by rfl) :
    PE X (.Call (.Name "list" lp) [.Call (.Name "zip" p) [e, e2] [⟨some "strict", .Constant (.bool true) ck cpos, kpos⟩] zpos] [] pos) (tListZipS X.K ta) := by
  refine ⟨fun pins s σ H Q I h => ?_⟩
  refine wpAny_Call_Name_kw (ld_blt I hgl hml PyProof.Rows.boot_list ?_)
  refine PyProof.Rows.callWith_type1 ?_ hs rfl
  rw [hs]
  show wpAny _ _ (spliced ((false, eval (.Call (.Name "zip" p) [e, e2] [⟨some "strict", .Constant (.bool true) ck cpos, kpos⟩] zpos) X.env) :: backTo pos (starEach [] X.env))) _ _ s
  refine Calls.spliced_cons ?_
  refine wpAny_Call_Name_kw (ld_blt I hg hm PyProof.Rows.boot_zip ?_)
  refine callWith_typeKw (thn (ha.run zpos pins s σ H _ I h) fun us s1 ⟨vs, H1, I1, r1, q1⟩ => thn ((pk_cons pe_bl pk_nil).run zpos pins s1 σ H1 (fun zs H2 => zs = [.bl true] ∧ H1 = H2) I1 ⟨rfl, rfl⟩) fun ws s2 ⟨zs, H2, I2, r2, e1, e2⟩ => ?_) he hpl rfl rfl
  subst e1 e2
  obtain ⟨c1, c2, a, b, xs, ys, ex, hqx, hqy, hlen, hsz, q⟩ := q1
  subst ex
  cases r2 with
  | cons rb rn =>
  cases rn
  cases rb
  cases r1 with
  | cons r rr =>
    cases rr with
    | cons r' rr =>
      cases rr
      cases r
      cases r'
      obtain ⟨its, rv, p1, b1⟩ := sqx_get I2 hqx
      obtain ⟨its2, rv2, p2, b2⟩ := sqx_get I2 hqy
      have hl1 := rv.length
      have hl2 := rv2.length
      refine call_zipS p1 p2 fun h' hz hTI hTO h1 h2 hsz' hk => ?_
      refine Calls.spliced_nil ?_
      refine zls_call (s := { s2 with heap := h' }) (I2.ok.hd hc) s2.heap.objs.size hsz' hz hTI hTO h1 h2 (p1.at fun o e => hk _ o e) (p2.at fun o e => hk _ o e) b1 b2 (by simp; omega) (by simp; omega) fun h'' tk acc c as hk' hS hl hG hacc => ?_
      obtain ⟨H', np, J⟩ := zls_laid (tk := tk) I2 hsz rv rv2 (by omega) (fun b o e => hk' b o (Heap.lt_size e) (hk b o e)) (Nat.le_add_right _ _) hS (by simpa using hl) hG hacc
      exact ⟨.ref _, H', J, rfl, q H' _ as np⟩
/-! ### as plain data -/
def pairs2 : List D → List D → List D
  | x :: xs, y :: ys => .tuple [x, y] :: pairs2 xs ys
  | _, _ => []
theorem pairs2_get : ∀ (xs ys : List D) (j : Nat) (x y : D), xs[j]? = some x → ys[j]? = some y → (pairs2 xs ys)[j]? = some (.tuple [x, y])
  | [], _, _, _, _, h, _ => by simp at h
  | _ :: _, [], _, _, _, _, h => by simp at h
  | a :: xs, b :: ys, 0, x, y, h1, h2 => by simp at h1 h2; subst h1 h2; rfl
  | a :: xs, b :: ys, j + 1, x, y, h1, h2 => by
    have := pairs2_get xs ys j x y (by simpa using h1) (by simpa using h2)
    simpa [pairs2] using this
theorem pairs2_len : ∀ (xs ys : List D), xs.length = ys.length → (pairs2 xs ys).length = xs.length
  | [], _, _ => by simp [pairs2]
  | _ :: _, [], h => by simp at h
  | a :: xs, b :: ys, h => by simp [pairs2, pairs2_len xs ys (by simpa using h)]
def dListZipS (x y : D) (P : D → Prop) : Prop := ∃ xs ys, (x = .list xs ∨ x = .tuple xs) ∧ (y = .list ys ∨ y = .tuple ys) ∧ xs.length = ys.length ∧ xs.length ≤ sizeLine ∧ P (.list (pairs2 xs ys))
@[simp] theorem dListZipS_LL {xs ys : List D} {P : D → Prop} : dListZipS (.list xs) (.list ys) P ↔ xs.length = ys.length ∧ xs.length ≤ sizeLine ∧ P (.list (pairs2 xs ys)) := by simp [dListZipS]
theorem dpAll_of_get {K : PySem.W.Frag} {F : Hp} : ∀ {vs : List V} {ds : List D}, vs.length = ds.length → (∀ (j : Nat) (v : V), vs[j]? = some v → ∃ d, ds[j]? = some d ∧ Dp K F v d) → DpAll K F vs ds
  | [], [], _, _ => .nil
  | [], _ :: _, h, _ => by simp at h
  | _ :: _, [], h, _ => by simp at h
  | v :: vs, d :: ds, h, hg => by
    obtain ⟨d', e, r⟩ := hg 0 v rfl
    simp at e
    subst e
    exact .cons r (dpAll_of_get (by simpa using h) fun j u e => by
      obtain ⟨d', e', r'⟩ := hg (j + 1) u (by simpa using e)
      exact ⟨d', by simpa using e', r'⟩)
theorem newPairs_nw {K : PySem.W.Frag} {H H' F : Hp} {p : Addr} {ts : List Addr} {vs ws : List V} {xs ys : List D} (s : Same F H) (h : NewPairs H H' p ts vs ws) (hlen : xs.length = ys.length) (d1 : DpAll K F vs xs) (d2 : DpAll K F ws ys) :
    ∃ F', PAdv H F H' F' ∧ RepK K .nw H H' F' (.ref p) (.list (pairs2 xs ys)) := by
  have fp : F p = none := by
    cases e : F p with
    | none => rfl
    | some o => have := s p o e; rw [h.newp] at this; cases this
  let F' : Hp := fun b => if b ∈ ts then H' b else F b
  have fin : ∀ b, b ∈ ts → F' b = H' b := fun b hb => if_pos hb
  have fout : ∀ b, b ∉ ts → F' b = F b := fun b hb => if_neg hb
  have adv : PAdv H F H' F' := ⟨h.keep, fun b hb => fout b (fun z => hb (h.newt b z)), fun b o e => by
    by_cases hb : b ∈ ts
    · rw [fin b hb] at e; exact e
    · rw [fout b hb] at e; exact h.keep b o (s b o e)⟩
  refine ⟨F', adv, p, ts.map V.ref, pairs2 xs ys, rfl, rfl, h.newp, by rw [fout p h.off]; exact fp, h.lst, ?_⟩
  have fr := adv.fro s
  have lv := dpAll_len d1
  refine dpAll_of_get (by rw [List.length_map, pairs2_len xs ys hlen, h.len, lv]) fun j v e => ?_
  rw [List.getElem?_map] at e
  cases et : ts[j]? with
  | none => rw [et] at e; cases e
  | some t =>
    rw [et] at e
    cases e
    obtain ⟨o, x, y, f1, f2, f3, f4⟩ := h.pairs j t et
    obtain ⟨dx, g1, g2⟩ := dpAll_get' d1 f3
    obtain ⟨dy, g3, g4⟩ := dpAll_get' d2 f4
    refine ⟨_, pairs2_get xs ys j dx dy g1 g3, .tup (.inl ⟨o, ?_, f2⟩) (.cons (dp_mono fr dx x g2) (.cons (dp_mono fr dy y g4) .nil))⟩
    rw [fin t (List.mem_of_getElem? et)]
    exact f1
section
variable {X : Cx} {a b : Expr} {ma mb : EM} {p lp pos zpos kpos cpos : Pos}
theorem e_listZipS {ck : Nat} (hc : X.calm = true) (hgl : Gl X "list") (hml : X.mg "list" = none) (hg : Gl X "zip") (hm : X.mg "zip" = none) (ha : E2 X .fz a ma) (hb : E2 X .fz b mb)
    (ha1 : starEach [a, b] X.env = (false, eval a X.env) :: starEach [b] X.env := by rfl) (ha2 : starEach [b] X.env = (false, eval b X.env) :: starEach [] X.env := by rfl)
    (hs : starEach [.Call (.Name "zip" p) [a, b] [⟨some "strict", .Constant (.bool true) ck cpos, kpos⟩] zpos] X.env = (false, eval (.Call (.Name "zip" p) [a, b] [⟨some "strict", .Constant (.bool true) ck cpos, kpos⟩] zpos) X.env) :: starEach [] X.env := by rfl)
    (he : backTo zpos (starEach [a, b] X.env) = (false, eval a X.env) :: backTo zpos (starEach [b] X.env) := by rfl) (hpl : (backTo zpos (starEach [a, b] X.env)).any (·.1) = false := by rfl) :
    E2 X .nw (.Call (.Name "list" lp) [.Call (.Name "zip" p) [a, b] [⟨some "strict", .Constant (.bool true) ck cpos, kpos⟩] zpos] [] pos) (m2 dListZipS ma mb) := by
  refine ⟨pe_weak (pe_listZipS hc hgl hml hg hm (pa_cons ha.pe (pa_cons hb.pe pa_nil ha2) ha1) hs he hpl) fun σ H Q ⟨A, τ, n, F, P, eK, Rl, hm, hq⟩ => tE_run eK Rl hm fun x n1 v1 H1 F1 p1 a1 r1 => tE_run eK (Rl.step a1) p1 ?_⟩
  rintro y n2 v2 H2 F2 ⟨xs, ys, ex, ey, hlen, hsz, q⟩ a2 r2
  have r1' := dp_mono (a2.fro a1.sub) x v1 r1
  have a12 := a1.trans a2
  obtain ⟨c1, l1, vs, rfl, h1, d1⟩ := dp_sqx ex r1'
  obtain ⟨c2, l2, ws, rfl, h2, d2⟩ := dp_sqx ey r2
  have e1 := dpAll_len d1
  have e2 := dpAll_len d2
  refine ⟨c1, c2, l1, l2, vs, ws, rfl, sqx_mono a2.sub h1, sqx_mono a2.sub h2, by omega, by omega, fun H' p ts np => ?_⟩
  obtain ⟨F', b1, b2⟩ := newPairs_nw a2.sub np hlen d1 d2
  exact hq _ n2 _ _ _ q (a12.trans (b1.adv (Rl.step a12).box)) (b2.h0 fun c h => a12.none_back c h)
end
end TL
set_option Elab.async false
set_option linter.all false
set_option maxRecDepth 100000
set_option maxHeartbeats 4000000
/-! tuple(range(a, b, -1)); a tuple turned about -/
namespace TL
open PySem PySem.Spec PyProof.Rows L2
section
variable {prog : Program} {w : World} {A : Around} {E : Value → Shared → Prop} {s : Shared}
theorem adjust_rev (n : Nat) : Builtin.Slice.sliceAdjust none none (-1) (n : Int) = ((n : Int) - 1, -1) := rfl
theorem places_rev (n : Nat) : Builtin.Slice.slicePlaces ((n : Int) - 1) (-1) (-1) = n := by
  unfold Builtin.Slice.slicePlaces
  have h1 : ¬ ((-1 : Int) > 0) := by omega
  have e : (- -1 : Int) = 1 := by decide
  simp only [h1, if_false, e, Int.ediv_one]
  split <;> omega
theorem sliceApplied_rev {sl : Addr} {vl vu vs : Value} {n : Nat} {Q : Int × Int × Nat → Shared → Prop} (hs : s.heap.IsSliceOf sl vl vu vs) (pl : IsPart vl none) (pu : IsPart vu none) (ps : IsPart vs (some (-1)))
    (h : Q ((n : Int) - 1, -1, n) s) : wpAny (model prog w) A (Builtin.Slice.sliceApplied (.ref sl) (pure (n : Int))) Q E s := by
  obtain ⟨os, hos, hcs, hds⟩ := id hs
  unfold Builtin.Slice.sliceApplied Builtin.Slice.sliceFields
  refine wpAny_bind (wpAny_bind (wpAny_field hos hds (x := vl) rfl (wpAny_bind (wpAny_field hos hds (x := vu) rfl (wpAny_bind (wpAny_field hos hds (x := vs) rfl (wpAny_pure ?_)))))))
  refine wpAny_bind (HT.slicePart_ ps ?_)
  show wpAny _ _ (if ((-1 : Int) == 0) = true then _ else _) _ _ s
  rw [if_neg (by decide)]
  refine wpAny_bind (HT.slicePart_ pl (wpAny_bind (HT.slicePart_ pu (wpAny_bind (wpAny_pure ?_)))))
  show wpAny _ _ (match Builtin.Slice.sliceAdjust none none (-1) (n : Int) with | (lo, hi) => pure (lo, (-1 : Int), Builtin.Slice.slicePlaces lo hi (-1))) _ _ s
  rw [adjust_rev n]
  show wpAny _ _ (pure ((n : Int) - 1, (-1 : Int), Builtin.Slice.slicePlaces ((n : Int) - 1) (-1) (-1))) _ _ s
  rw [places_rev]
  exact wpAny_pure h
theorem pick_rev (xs : Array Value) : ((List.range xs.size).filterMap fun (m : Nat) => xs[(((xs.size : Int) - 1) + (m : Int) * (-1)).toNat]?).toArray = xs.toList.reverse.toArray := by
  have e : (List.range xs.size).filterMap (fun (m : Nat) => xs[(((xs.size : Int) - 1) + (m : Int) * (-1)).toNat]?) = ((List.range xs.size).map fun k => xs.size - 1 - k).filterMap (xs[·]?) := by
    rw [List.filterMap_map]
    congr 1
    funext m
    show xs[(((xs.size : Int) - 1) + (m : Int) * (-1)).toNat]? = xs[xs.size - 1 - m]?
    by_cases h : xs.size = 0
    · rw [Array.getElem?_eq_none (by omega), Array.getElem?_eq_none (by omega)]
    · congr 1
      omega
  rw [e, PySem.W.krv_range, List.filterMap_reverse, PySem.W.krv_all]
theorem getItem_tuple_rev {t sl : Addr} {items : Array Value} {vl vu vs : Value} {Q : Value → Shared → Prop} (ht : IsTup s.heap t items) (hs : s.heap.IsSliceOf sl vl vu vs) (pl : IsPart vl none) (pu : IsPart vu none) (ps : IsPart vs (some (-1)))
    (h : Q (.ref s.heap.objs.size) { s with heap := s.heap.push { cls := .type "tuple", data := .seq items.toList.reverse.toArray } })
    (hsz : items.size ≤ sizeLine) : wpAny (model prog w) A (getItem (.ref t) (.ref sl)) Q E s := by
  have htake : sizeOk (.seq items.toList.reverse.toArray) := by
    show items.toList.reverse.toArray.size ≤ sizeLine
    rw [List.size_toArray, List.length_reverse, Array.length_toList]
    exact hsz
  obtain ⟨os, hos, hcs, hds⟩ := id hs
  have hTs : s.TypeIs (.ref sl) "slice" := ⟨os, hos, hcs⟩
  unfold getItem
  try with_reducible refine wpAny_holding ?_
  first | refine wpAny_bind (wpAny_pure ?_) | skip
  refine wpAny_bind (wpAny_sequenceKey ht.typeIs (by decide) ?_)
  refine wpAny_bind (wpAny_callSpecial?_slot (name := Str.ofString "__getitem__") ht.typeIs PyProof.Rows.slot_tuple_getitem
    (wpAny_call_entry PyProof.Rows.slot_tuple_getitem ht.typeIs entry_tuple_getitem ?_ (args_tuple_getitem _ _)))
  show wpAny _ _ (Builtin.Tuple.tupleItemsOf (.ref t) >>= _) _ _ s
  refine wpAny_bind (tupleItemsOf_ ht ?_)
  refine wpAny_bind (wpAny_typeOf hTs ?_)
  rw [if_pos (by decide)]
  refine wpAny_bind (sliceApplied_rev hs pl pu ps ?_)
  have hno : ¬ ((((items.size : Int) - 1) == 0 && (-1 : Int) == 1 && items.size == items.size) = true) := by
    intro q
    rw [Bool.and_eq_true, Bool.and_eq_true] at q
    exact absurd (eq_of_beq q.1.2) (by decide)
  show wpAny _ _ (if (((items.size : Int) - 1) == 0 && (-1 : Int) == 1 && items.size == items.size) = true then _ else _) _ _ s
  rw [if_neg hno, pick_rev]
  first
    | exact wpAny_bind (m := Builtin.Tuple.tupleExact _) (wpAny_newObj_type (wpAny_pure ⟨_, rfl, wpAny_pure h⟩) htake)
    | exact wpAny_bind (m := Builtin.Tuple.tupleExact _) (wpAny_newObj_type (wpAny_bind (wpAny_pure (wpAny_pure ⟨_, rfl, wpAny_pure h⟩))) htake)
    | exact wpAny_bind (wpAny_bind (m := Builtin.Tuple.tupleExact _) (wpAny_newObj_type (wpAny_pure (wpAny_pure ⟨_, rfl, wpAny_pure h⟩)) htake))
    | exact wpAny_bind (wpAny_bind (m := Builtin.Tuple.tupleExact _) (wpAny_newObj_type (wpAny_pure ⟨_, rfl, wpAny_pure h⟩) htake))
end
section
variable {X : Cx}
def tRevT (K : PySem.W.Frag) (te : TE) : TE := fun σ H Q => te σ H fun x H1 => ∃ a xs, x = .ref a ∧ SqT K H1 a xs ∧ ∀ p o, H1 p = none → o.dict = none → Q (.ref p) (upd H1 p (kT o xs.reverse))
theorem pe_revT {e : Expr} {te : TE} {k : Nat} {p1 p2 p3 pos : Pos} (he : PE X e te) : PE X (.Subscript e (.Slice none none (some (.UnaryOp .USub (.Constant (.int 1) k p1) p2)) p3) pos) (tRevT X.K te) := by
  refine ⟨fun pins s σ H Q I h => ?_⟩
  refine Subscript_ (thn (he.run pins s σ H _ I h) fun v s1 ⟨x, H1, I1, r1, q1⟩ => ?_)
  obtain ⟨a, xs, ex, hx, q⟩ := q1
  subst ex
  cases r1
  have hst : PO X (some (.UnaryOp .USub (.Constant (.int 1) k p1) p2)) (tPart (tUn (rU fun i => .int (-i)) (tC (.int 1)))) := po_some (pe_un un_neg pe_int)
  refine wpAny_Slice (thn (po_none.run pins s1 σ H1 (fun o H2 => o = none ∧ H2 = H1) I1 ⟨rfl, rfl⟩) fun vl s2 ⟨l, H2, I2, pl, el, e2⟩ => ?_)
  subst el e2
  refine thn (po_none.run pins s2 σ H2 (fun o H3 => o = none ∧ H3 = H2) I2 ⟨rfl, rfl⟩) fun vu s3 ⟨u, H3, I3, pu, eu, e3⟩ => ?_
  subst eu e3
  refine thn (hst.run pins s3 σ H3 (fun o H4 => o = some (-1) ∧ H4 = H3) I3 ⟨1, rfl, -1, rfl, rfl, rfl⟩) fun vs s4 ⟨o, H4, I4, ps, eo, e4⟩ => ?_
  subst eo e4
  have I5 : Inv X pins σ H4 { s4 with heap := s4.heap.push { cls := .type "slice", data := .fields #[vl, vu, vs] } } := I4.kept (t' := s4.toks) fun b ob q => Heap.get?_push_of_some _ q
  obtain ⟨its, r, ht, hz⟩ := I5.tuple hx
  have hlen := r.length
  show wpAny (model X.prog X.w) X.A (subscriptTail e (.Slice none none (some (.UnaryOp .USub (.Constant (.int 1) k p1) p2)) p3) (.ref a) (.ref s4.heap.objs.size)) (EP X pins σ Q) X.xe { s4 with heap := s4.heap.push { cls := .type "slice", data := .fields #[vl, vu, vs] } }
  refine tail_any (ops := [.ref a, .ref s4.heap.objs.size]) ht.typeIs (PyProof.Rows.slot_tuple_getitem.lookup) ?_ (by with_unfolding_all rfl)
  refine getItem_tuple_rev ht (Heap.IsSliceOf.new _ vl vu vs) pl pu ps ?_ (by rw [List.size_toArray]; omega)
  refine ⟨.ref _, _, I5.laid (t' := s4.toks) (fun b ob q => Heap.get?_push_of_some _ q) (Nat.le_refl _) (push_kT (r.reverse) (by rw [List.length_reverse]; exact hz) (Heap.get?_push_size _ rfl) rfl), rfl, q _ _ (I5.hok.fresh (Nat.le_refl _)) rfl⟩
end
def dRevT : Op1 := fun x P => ∃ xs, x = .tuple xs ∧ P (.tuple xs.reverse)
@[simp] theorem dRevT_ap {xs : List D} {P : D → Prop} : dRevT (.tuple xs) P ↔ P (.tuple xs.reverse) := by simp [dRevT]
section
variable {X : Cx} {a : Expr} {ma : EM} {pos : Pos}
theorem e_revT {k : Nat} {p1 p2 p3 : Pos} (ha : E2 X .bw a ma) : E2 X .fz (.Subscript a (.Slice none none (some (.UnaryOp .USub (.Constant (.int 1) k p1) p2)) p3) pos) (m1 dRevT ma) := by
  refine ⟨pe_weak (pe_revT ha.pe) fun σ H Q ⟨A, τ, n, F, P, eK, R, hm, hq⟩ => tE_run eK R hm ?_⟩
  rintro x n1 v1 H1 F1 ⟨xs, rfl, p1⟩ a1 r1
  obtain ⟨q, vs, rfl, h1, h2⟩ := bw_tup a1.sub r1
  refine ⟨q, vs, rfl, h1, fun a o hp ho => ?_⟩
  obtain ⟨b1, b2⟩ := new_tup a1.sub hp ho (dpAll_reverse h2)
  exact hq _ n1 _ _ _ p1 (a1.trans (b1.adv (R.step a1).box)) b2
end
/-! ### tuple(range(a, b, -1)) -/
section
variable {X : Cx}
def dnV (hi : Int) (n : Nat) : List V := (List.range n).map fun i => V.int (hi - (i : Nat))
theorem vals_dn {a : Int} {n : Nat} {acc : Array Value} (h : ItemsOf (fun i v => ∃ t, v = .int (a + i * (-1)) t) acc n) : Vals (dnV a n) acc.toList := by
  have e : acc.toList.length = n := by rw [Array.length_toList]; exact h.1
  unfold dnV
  rw [← e]
  refine vals_of_get acc.toList _ fun j u hj => ?_
  obtain ⟨t, rfl⟩ := h.2 j u (by rw [← hj, Array.getElem?_toList])
  exact ⟨t, by congr 1; omega⟩
def tTupDn (ta : TA) : TE := fun σ H Q => ta σ H fun vs H1 => ∃ (i j : Int), vs = [.int i, .int j, .int (-1)] ∧ (-(2 ^ 62) ≤ i ∧ i < 2 ^ 62 ∧ -(2 ^ 62) ≤ j ∧ j < 2 ^ 62 ∧ i - j ≤ 2 ^ 24) ∧ ∀ q o, H1 q = none → o.dict = none → Q (.ref q) (upd H1 q (kT o (dnV i (i - j).toNat)))
theorem pe_tupDn {a b c : Expr} {ta : TA} {p q pos qos : Pos} (hc : X.calm = true) (hg : Gl X "tuple") (hm : X.mg "tuple" = none) (hg' : Gl X "range") (hm' : X.mg "range" = none) (ha : PA X [a, b, c] ta)
    (hs : starEach [a, b, c] X.env = (false, eval a X.env) :: starEach [b, c] X.env := by rfl) (hpl : (backTo qos (starEach [b, c] X.env)).any (·.1) = false := by rfl)
    (na : starEach [.Call (.Name "range" q) [a, b, c] [] qos] X.env = (false, eval (.Call (.Name "range" q) [a, b, c] [] qos) X.env) :: starEach [] X.env := by rfl) :
    PE X (.Call (.Name "tuple" p) [.Call (.Name "range" q) [a, b, c] [] qos] [] pos) (tTupDn ta) := by
  refine ⟨fun pins s σ H Q I h => ?_⟩
  have rg : wpAny (model X.prog X.w) X.A (eval (.Call (.Name "range" q) [a, b, c] [] qos) X.env) (fun x s' => ∃ r i j t u v H', x = .ref r ∧ IsRange s'.heap r i j (-1) t u v ∧ Inv X pins σ H' s' ∧ (-(2 ^ 62) ≤ i ∧ i < 2 ^ 62 ∧ -(2 ^ 62) ≤ j ∧ j < 2 ^ 62 ∧ i - j ≤ 2 ^ 24) ∧ ∀ q o, H' q = none → o.dict = none → Q (.ref q) (upd H' q (kT o (dnV i (i - j).toNat)))) X.xe s := by
    refine Call_ (ld_blt I hg' hm' boot_range (PyProof.Rows.callWith_type1 (thn (ha.run qos pins s σ H _ I h) fun us s1 ⟨vs, H1, I1, r1, q1⟩ => ?_) hs hpl))
    obtain ⟨i, j, e, bb, q2⟩ := q1
    subst e
    cases r1 with
    | cons r rr =>
      cases rr with
      | cons r' rr =>
        cases rr with
        | cons r'' rr =>
          cases rr
          obtain ⟨t, rfl⟩ := r
          obtain ⟨t', rfl⟩ := r'
          obtain ⟨t'', rfl⟩ := r''
          refine call_range_3 (by decide) ?_ (.inl (PyProof.noPylong_small (by decide)))
          exact ⟨_, i, j, _, _, _, H1, rfl, IsRange.new _ _ _ _ _ _ _, I1.kept fun b u e => Heap.get?_push_of_some _ e, bb, q2⟩
  refine Call_ (ld_blt I hg hm boot_tuple (PyProof.Rows.callWith_type1 (args_cons (thn rg fun x s1 ⟨r, i, j, t, u, v, H1, ex, hr, I1, ok, q⟩ => args_nil ?_) na) na))
  subst ex
  obtain ⟨b1, b2, b3, b4, b5⟩ := ok
  refine call_tuple_range (n := (i - j).toNat) (I1.ok.hd hc) hr (PySem.W.small_down b1 b2 b3 b4) (PySem.W.rangeSize_downNat i j) (by omega) fun h' tk acc hk hi => ?_
  have I2 : Inv X pins σ H1 { s1 with heap := h', toks := tk } := I1.kept hk
  exact ⟨.ref h'.objs.size, _, I2.laid (t' := tk) (fun c o e => Heap.get?_push_of_some _ e) (Nat.le_refl _) (push_kT (vals_dn hi) (by unfold dnV; rw [List.length_map, List.length_range, sizeLine_eq]; omega) (Heap.get?_push_size _ rfl) (by rw [Array.toArray_toList])), rfl, q _ _ (I2.hok.fresh (Nat.le_refl _)) rfl⟩
end
section
variable {X : Cx} {K : PySem.W.Frag} {a b c : Expr} {ma mb mc : EM} {p q pos qos : Pos}
theorem dnV_dp {F : Hp} (m : Int) (n : Nat) : DpAll K F (dnV m n) (downD m n) := by
  unfold dnV downD
  induction (List.range n) with
  | nil => exact .nil
  | cons i r ih => exact .cons (.int _) ih
def mRgDn (m m' m'' : EM) : EM := fun τ n Q => m τ n fun d n1 => m' τ n1 fun d' n2 => m'' τ n2 fun d'' n3 => ∃ i j, d = .int i ∧ d' = .int j ∧ d'' = .int (-1) ∧ (-(2 ^ 62) ≤ i ∧ i < 2 ^ 62 ∧ -(2 ^ 62) ≤ j ∧ j < 2 ^ 62 ∧ i - j ≤ 2 ^ 24) ∧ Q (.tuple (downD i (i - j).toNat)) n3
@[simp] theorem mRgDn_ap {m m' m'' : EM} {τ : Ev} {n : Nat} {Q : D → Nat → Prop} : mRgDn m m' m'' τ n Q ↔ m τ n fun d n1 => m' τ n1 fun d' n2 => m'' τ n2 fun d'' n3 => ∃ i j, d = .int i ∧ d' = .int j ∧ d'' = .int (-1) ∧ (-(2 ^ 62) ≤ i ∧ i < 2 ^ 62 ∧ -(2 ^ 62) ≤ j ∧ j < 2 ^ 62 ∧ i - j ≤ 2 ^ 24) ∧ Q (.tuple (downD i (i - j).toNat)) n3 := Iff.rfl
theorem e_tupDn (hc : X.calm = true) (hg : Gl X "tuple") (hm : X.mg "tuple" = none) (hg' : Gl X "range") (hm' : X.mg "range" = none) (h : E2 X .bw a ma) (h' : E2 X .bw b mb) (h'' : E2 X .bw c mc) (hs : starEach [a, b, c] X.env = (false, eval a X.env) :: starEach [b, c] X.env := by rfl)
    (t2 : starEach [b, c] X.env = (false, eval b X.env) :: starEach [c] X.env := by rfl) (t3 : starEach [c] X.env = (false, eval c X.env) :: starEach [] X.env := by rfl)
    (hpl : (backTo qos (starEach [b, c] X.env)).any (·.1) = false := by rfl)
    (na : starEach [.Call (.Name "range" q) [a, b, c] [] qos] X.env = (false, eval (.Call (.Name "range" q) [a, b, c] [] qos) X.env) :: starEach [] X.env := by rfl) :
    E2 X .fz (.Call (.Name "tuple" p) [.Call (.Name "range" q) [a, b, c] [] qos] [] pos) (mRgDn ma mb mc) := by
  refine ⟨pe_weak (pe_tupDn hc hg hm hg' hm' (pa_cons h.pe (pa_cons h'.pe (pa_cons h''.pe pa_nil t3) t2) hs) hs hpl na) fun σ H Q ⟨A, τ, n, F, P, eK, Rl, hm, hq⟩ => tE_run eK Rl hm fun d1 n1 v1 H1 F1 p1 a1 r1 => tE_run eK (Rl.step a1) p1 fun d2 n2 v2 H2 F2 p2 a2 r2 => tE_run eK (Rl.step (a1.trans a2)) p2 ?_⟩
  rintro d n' v H' F' ⟨i, j, rfl, rfl, rfl, q1, qq⟩ ad r
  have a123 := (a1.trans a2).trans ad
  refine ⟨i, j, by rw [bw_int r1, bw_int r2, bw_int r], q1, fun q o hp ho => ?_⟩
  obtain ⟨b1, b2⟩ := new_tup ad.sub hp ho (dnV_dp (K := X.K) (F := F') i (i - j).toNat)
  exact hq _ n' _ _ _ qq (a123.trans (b1.adv (Rl.step a123).box)) b2
end
end TL
set_option Elab.async false
set_option linter.all false
set_option maxRecDepth 100000
set_option maxHeartbeats 4000000
/-! is True, is False; a + xs.pop()[k]; xs.extend(new list) -/
namespace TL
open PySem PySem.Spec PyProof.Rows L2
section
variable {X : Cx} {K : PySem.W.Frag} {a b e : Expr} {ma mb : EM} {p pos apos cpos : Pos}
def rIsB : R2 := fun x y H Q => ∃ a b, x = .bl a ∧ y = .bl b ∧ Q (.bl (decide (a = b))) H
def rNotB : R2 := fun x y H Q => ∃ a b, x = .bl a ∧ y = .bl b ∧ Q (.bl (!decide (a = b))) H
theorem op_isB : OpR X (compareOp .Is) rIsB := by
  intro pins s σ H x y v u Q I rx ry h
  obtain ⟨m, n, rfl, rfl, q⟩ := h
  cases (show v = Value.bool m from rx)
  cases (show u = Value.bool n from ry)
  by_cases e : m = n
  · subst e
    exact wpAny_is_self rfl ⟨.bl true, H, I, rfl, by simpa using q⟩
  · exact wpAny_is_other rfl (fun z => e (Value.bool.inj z)) ⟨.bl false, H, I, rfl, by simpa [e] using q⟩
theorem op_notB : OpR X (compareOp .IsNot) rNotB := by
  intro pins s σ H x y v u Q I rx ry h
  obtain ⟨m, n, rfl, rfl, q⟩ := h
  cases (show v = Value.bool m from rx)
  cases (show u = Value.bool n from ry)
  by_cases e : m = n
  · subst e
    exact wpAny_isNot_self rfl ⟨.bl false, H, I, rfl, by simpa using q⟩
  · exact wpAny_isNot_other rfl (fun z => e (Value.bool.inj z)) ⟨.bl true, H, I, rfl, by simpa [e] using q⟩
def dIsB : Op2 := fun x y P => ∃ a b, x = .bool a ∧ y = .bool b ∧ P (.bool (decide (a = b)))
def dNotB : Op2 := fun x y P => ∃ a b, x = .bool a ∧ y = .bool b ∧ P (.bool (!decide (a = b)))
@[simp] theorem dIsB_ap {a b : Bool} {P : D → Prop} : dIsB (.bool a) (.bool b) P ↔ P (.bool (decide (a = b))) := by simp [dIsB]
@[simp] theorem dNotB_ap {a b : Bool} {P : D → Prop} : dNotB (.bool a) (.bool b) P ↔ P (.bool (!decide (a = b))) := by simp [dNotB]
theorem does_isB : Does2 K .fz dIsB rIsB := by
  rintro H F vx vy x y P Q s rx ry ⟨a, b, rfl, rfl, p⟩ hq
  exact ⟨a, b, bw_bool rx, bw_bool ry, hq _ _ H F p (PAdv.refl s) (.bl _)⟩
theorem does_notB : Does2 K .fz dNotB rNotB := by
  rintro H F vx vy x y P Q s rx ry ⟨a, b, rfl, rfl, p⟩ hq
  exact ⟨a, b, bw_bool rx, bw_bool ry, hq _ _ H F p (PAdv.refl s) (.bl _)⟩
theorem e_isB (ha : E2 X .bw a ma) (hb : E2 X .bw b mb) : E2 X .fz (.Compare a [.Is] [b] pos) (m2 dIsB ma mb) := e_cmp op_isB does_isB ha hb (nomark _)
theorem e_notB (ha : E2 X .bw a ma) (hb : E2 X .bw b mb) : E2 X .fz (.Compare a [.IsNot] [b] pos) (m2 dNotB ma mb) := e_cmp op_notB does_notB ha hb (nomark _)
theorem t_isB (ha : E2 X .bw a ma) (hb : E2 X .bw b mb) : T2 X (.Compare a [.Is] [b] pos) (mT (m2 dIsB ma mb)) := t_cmp op_isB does_isB ha hb (nomark _)
theorem t_notB (ha : E2 X .bw a ma) (hb : E2 X .bw b mb) : T2 X (.Compare a [.IsNot] [b] pos) (mT (m2 dNotB ma mb)) := t_cmp op_notB does_notB ha hb (nomark _)
/-! ### what a change tells, looked into -/
def xIxC (m : XM) (k : Int) : XM := fun τ n Q => m τ n fun d τ' n' => dIx d (.int k) fun e => Q e τ' n'
theorem x_ixC {m : XM} {k : Nat} {jk} {jp : Pos} (h : X2 X a m) (hs : PlainIx (.Constant (.int (k : Nat)) jk jp) := by exact fun _ _ => rfl) : X2 X (.Subscript a (.Constant (.int (k : Nat)) jk jp) pos) (xIxC m (k : Nat)) := by
  refine ⟨pe_weak (pe_ix ix_seq h.pe pe_int hs) fun σ H Q ⟨A, τ, n, F, P, eK, R, hm, hq⟩ => ⟨A, τ, n, F, _, eK, R, hm, fun d τ' n' v H' F' p1 R1 s1 r1 => ?_⟩⟩
  refine does_ix H' F' v (.int k) d (.int k) _ _ R1.same (.inl r1) (.inl (.int _)) p1 fun e w H2 F2 p2 a2 r2 => ?_
  exact hq e τ' n' w H2 F2 p2 (R1.step (a2.adv R1.box)) (fun c o z => a2.fro R1.same c o (s1 c o z)) r2
def xAdd (ma : EM) (m : XM) : XM := fun τ n Q => ma τ n fun x n1 => m τ n1 fun y τ' n2 => dAdd x y fun d => Q d τ' n2
theorem x_add {m : XM} (ha : E2 X .fz a ma) (h : X2 X b m) : X2 X (.BinOp a .Add b pos) (xAdd ma m) := by
  refine ⟨pe_weak (pe_op op_add ha.pe h.pe) fun σ H Q ⟨A, τ, n, F, P, eK, R, hm, hq⟩ => tE_run eK R hm fun x n1 v H1 F1 p1 a1 r1 => ⟨A, τ, n1, F1, _, eK, R.step a1, p1, fun y τ' n2 w H2 F2 p2 R2 s2 r2 => ?_⟩⟩
  have r1' : Dp X.K F1 v x := r1
  refine does_I0 (K := X.K) (g := fun i j => PyData.int (i + j)) (gv := fun i j => V.int (i + j)) (fun _ _ _ => .int _) H2 F2 v w x y _ _ R2.same (.inl (dp_mono s2 x v r1')) (.inl r2) p2 fun e u H3 F3 p3 a3 r3 => ?_
  exact hq e τ' n2 u H3 F3 p3 (R2.step (a3.adv R2.box)) (fun c o z => a3.fro R2.same c o (s2 c o (a1.fro R.same c o z))) r3
/-! ### extend -/
def xExt (i : Nat) (mb : EM) : XM := fun τ n Q => ∃ xs, τ[i]? = some (some (.ow xs)) ∧ mb τ n fun y n1 => ∃ zs, y = .list zs ∧ xs.length + zs.length ≤ sizeLine ∧ Q .none (τ.set i (some (.ow (xs ++ zs)))) n1
theorem x_ext {o : Expr} {i : Nat} (ho : PE X o (tVar i)) (ha : E2 X .nw a ma) (hbase : attributeBase o "extend" X.env (eval o X.env) = eval o X.env := by rfl) (hfew : ((backTo cpos (starEach [a] X.env)).all (fun x => !x.1) && (backToKw cpos (keywordEach [] X.env)).all (fun x => x.1.isSome)
      && decide (([a] : List Expr).length + ([] : List Keyword).length + (if ([] : List Keyword).isEmpty then 0 else 1) < 30)) = true := by rfl)
    (hline : (apos.endLine == cpos.line) = true := by rfl) (hs : starEach [a] X.env = (false, eval a X.env) :: starEach [] X.env := by rfl) (hplain : (backTo cpos (starEach [] X.env)).any (·.1) = false := by rfl) :
    X2 X (.Call (.Attribute o "extend" apos) [a] [] cpos) (xExt i ma) := by
  refine ⟨pe_weak (pe_bm PySem.F.plainAttrs_list PySem.F.slot_list_extend PySem.F.type_list_extend mt_extend ho (pa_cons ha.pe pa_nil hs) hbase hfew hline hs hplain) fun σ H Q ⟨A, τ, n, F, P, eK, R, ⟨xs, e, hmm⟩, hq⟩ => ?_⟩
  obtain ⟨v, h1, h2⟩ := R.sl i _ e
  refine ⟨v, h1, own_tyV h2, tE_run eK R hmm fun d n1 w H1 F1 p1 a1 r1 => ?_⟩
  obtain ⟨zs, rfl, hz, p1⟩ := p1
  have R1 := R.step a1
  obtain ⟨v', h1', l, vs, rfl, g1, g2, g3, g4⟩ := R1.sl i _ e
  rw [h1] at h1'
  cases h1'
  rw [eK] at g4
  obtain ⟨q, us, xs', ez, rfl, k1, k2, k3, k4⟩ := r1
  cases ez
  refine ⟨l, q, vs, us, rfl, rfl, g3, k3, by rw [dpAll_len g4, dpAll_len k4]; exact hz, ?_⟩
  exact hq _ _ n1 .non _ F1 p1 (R1.upd e h1 (eK ▸ dpAll_append g4 k4)) (a1.fro R.same) .non
end
@[simp] theorem xIxC_ap {m : XM} {k : Int} {τ : Ev} {n : Nat} {Q : D → Ev → Nat → Prop} : xIxC m k τ n Q ↔ m τ n fun d τ' n' => dIx d (.int k) fun e => Q e τ' n' := Iff.rfl
@[simp] theorem xAdd_ap {ma : EM} {m : XM} {τ : Ev} {n : Nat} {Q : D → Ev → Nat → Prop} : xAdd ma m τ n Q ↔ ma τ n fun x n1 => m τ n1 fun y τ' n2 => dAdd x y fun d => Q d τ' n2 := Iff.rfl
@[simp] theorem xExt_ap {i : Nat} {mb : EM} {τ : Ev} {n : Nat} {Q : D → Ev → Nat → Prop} : xExt i mb τ n Q ↔ ∃ xs, τ[i]? = some (some (.ow xs)) ∧ mb τ n fun y n1 => ∃ zs, y = .list zs ∧ xs.length + zs.length ≤ sizeLine ∧ Q .none (τ.set i (some (.ow (xs ++ zs)))) n1 := Iff.rfl
end TL
set_option Elab.async false
set_option linter.all false
set_option maxRecDepth 100000
set_option maxHeartbeats 4000000
/-! own lists within an own list: made, read, changed, frozen -/
namespace TL
open PySem PySem.Spec PyProof.Rows L2
theorem NLA.set {A : Act} {H F : Hp} {b : Addr} {ws : List V} {ys : List D} (hd : DpAll A.K F ws ys) : ∀ {as : List Addr} {xss : List (List D)} {k : Nat}, NLA A H F as xss → as.Nodup → as[k]? = some b → NLA A (upd H b (.lst ws)) F as (xss.set k ys)
  | a :: as, xs :: xss, 0, ⟨⟨h1, h2, vs, h3, h4⟩, h5⟩, nd, e => by
    simp at e
    subst e
    have nd := List.nodup_cons.mp nd
    refine ⟨⟨h1, h2, ws, upd_same, hd⟩, h5.imp fun c hc us zs g1 g2 g3 g4 => ⟨g1, g2, ?_, g4⟩⟩
    rw [upd_ne fun z => by subst z; exact nd.1 hc]
    exact g3
  | a :: as, xs :: xss, k + 1, ⟨⟨h1, h2, vs, h3, h4⟩, h5⟩, nd, e => by
    have nd := List.nodup_cons.mp nd
    have e' : as[k]? = some b := by simpa using e
    refine ⟨⟨h1, h2, vs, ?_, h4⟩, NLA.set hd (k := k) h5 nd.2 e'⟩
    rw [upd_ne fun z => by subst z; exact nd.1 (List.mem_of_getElem? e')]
    exact h3
  | [], [], _, _, _, e => by simp at e
  | [], _ :: _, _, h, _, _ => h.elim
  | _ :: _, [], _, h, _, _ => h.elim
theorem Rel.updN {A : Act} {τ : Ev} {n : Nat} {σ : L2.St} {H F : Hp} (R : Rel A τ n σ H F) {i k : Nat} {as : List Addr} {xss : List (List D)} {ys : List D} {b : Addr} {ws : List V} (e : τ[i]? = some (some (.nl as xss))) (hk : as[k]? = some b) (hd : DpAll A.K F ws ys) :
    Rel A (τ.set i (some (.nl as (xss.set k ys)))) n σ (L2.upd H b (.lst ws)) F := by
  obtain ⟨v, h1, a, rfl, nd, h2, h3, h4, h5⟩ := R.sl i _ e
  have hm : b ∈ as := List.mem_of_getElem? hk
  obtain ⟨b1, b2, us0, b3⟩ := h5.mem hm
  have hi : i < τ.length := (List.getElem?_eq_some_iff.mp e).1
  have hb : A.bx ≠ some b := fun z => by rw [R.box b z] at b3; cases b3
  have nab : a ≠ b := fun z => by subst z; exact (List.nodup_cons.mp nd).1 hm
  refine ⟨R.ok, by rw [List.length_set]; exact R.len, ⟨fun c o z x => ?_, R.adv.old, fun c o z => ?_, fun c z => ?_⟩, fun j s z => ?_, fun j l c s1 s2 hjk e1 o1 e3 o2 e4 e5 => ?_⟩
  · rw [upd_ne (ne_of_none z b1)]; exact R.adv.keep c o z x
  · rw [upd_ne (ne_of_none z b2)]; exact R.same c o z
  · rw [upd_ne (fun q => by subst q; exact hb z)]; exact R.box c z
  · by_cases q : j = i
    · subst q
      rw [List.getElem?_set_self hi] at z
      cases z
      exact ⟨_, h1, a, rfl, nd, h2, h3, by rw [upd_ne nab]; exact h4, h5.set hd (List.nodup_cons.mp nd).2 hk⟩
    · rw [List.getElem?_set_ne (Ne.symm q)] at z
      obtain ⟨w, g1, g2⟩ := R.sl j s z
      refine ⟨w, g1, ?_⟩
      have ne : ∀ c, s.own = true → At s σ[j]? c → c ≠ b := fun c o ew ec => by subst ec; exact R.dis j i c _ _ q z o e rfl ew (.inr hm)
      cases s with
      | ow zs =>
        obtain ⟨c, us, rfl, k1, k2, k3, k4⟩ := g2
        exact ⟨c, us, rfl, k1, k2, by rw [upd_ne (ne c rfl (.inl g1))]; exact k3, k4⟩
      | odk zs =>
        obtain ⟨c, us, rfl, k1, k2, k3, k4⟩ := g2
        exact ⟨c, us, rfl, k1, k2, by rw [upd_ne (ne c rfl (.inl g1))]; exact k3, k4⟩
      | odt zs =>
        obtain ⟨c, us, rfl, k1, k2, k3, k4⟩ := g2
        exact ⟨c, us, rfl, k1, k2, by rw [upd_ne (ne c rfl (.inl g1))]; exact k3, k4⟩
      | nl as' xss' =>
        obtain ⟨c, rfl, nd', k1, k2, k3, k4⟩ := g2
        exact ⟨c, rfl, nd', k1, k2, by rw [upd_ne (ne c rfl (.inl g1))]; exact k3, k4.imp fun d hd' us zs p1 p2 p3 p4 => ⟨p1, p2, by rw [upd_ne (ne d rfl (.inr hd'))]; exact p3, p4⟩⟩
      | d x => exact g2
      | box => exact g2
      | raw x => exact g2
      | dk x => exact g2
      | dt x => exact g2
  · by_cases zj : j = i
    · subst zj
      by_cases zk : l = j
      · exact absurd zk (Ne.symm hjk)
      · rw [List.getElem?_set_ne (Ne.symm zk)] at e3
        rw [List.getElem?_set_self hi] at e1
        cases e1
        exact R.dis j l c _ s2 hjk e rfl e3 o2 e4 e5
    · rw [List.getElem?_set_ne (Ne.symm zj)] at e1
      by_cases zk : l = i
      · subst zk
        rw [List.getElem?_set_self hi] at e3
        cases e3
        exact R.dis j l c s1 _ hjk e1 o1 e rfl e4 e5
      · rw [List.getElem?_set_ne (Ne.symm zk)] at e3
        exact R.dis j l c s1 s2 hjk e1 o1 e3 o2 e4 e5
theorem Rel.frzN {A : Act} {τ : Ev} {n : Nat} {σ : L2.St} {H F : Hp} (R : Rel A τ n σ H F) {i : Nat} {as : List Addr} {xss : List (List D)} (e : τ[i]? = some (some (.nl as xss))) : ∃ F', Same F F' ∧ Rel A (τ.set i (some (.d (.list (xss.map .list))))) n σ H F' := by
  obtain ⟨v, h1, a, rfl, nd, h2, h3, h4, h5⟩ := R.sl i _ e
  have hi : i < τ.length := (List.getElem?_eq_some_iff.mp e).1
  have fn : ∀ c ∈ a :: as, F c = none ∧ A.H0 c = none := fun c hc => by
    rcases List.mem_cons.mp hc with z | z
    · subst z; exact ⟨h3, h2⟩
    · obtain ⟨g1, g2, _⟩ := h5.mem z
      exact ⟨g2, g1⟩
  let F' : Hp := fun c => if c ∈ a :: as then H c else F c
  have fin : ∀ c, c ∈ a :: as → F' c = H c := fun c hc => if_pos hc
  have fout : ∀ c, c ∉ a :: as → F' c = F c := fun c hc => if_neg hc
  have sf : Same F F' := fun c o z => by
    rw [fout c fun w => by rw [(fn c w).1] at z; cases z]
    exact z
  have dps : ∀ {as' : List Addr} {xss' : List (List D)}, NLA A H F as' xss' → (∀ c ∈ as', c ∈ a :: as) → DpAll A.K F' (as'.map V.ref) (xss'.map .list) := by
    intro as'
    induction as' with
    | nil =>
      intro xss' h _
      cases xss' with
      | nil => exact .nil
      | cons => exact h.elim
    | cons c as' ih =>
      intro xss' h hm
      cases xss' with
      | nil => exact h.elim
      | cons xs xss' =>
        obtain ⟨⟨_, _, vs, g3, g4⟩, g5⟩ := h
        exact .cons (.lst (.inl (.inl (by rw [fin c (hm c (by simp))]; exact g3))) (dp_monoAll sf xs vs g4)) (ih g5 fun d hd => hm d (List.mem_cons_of_mem _ hd))
  refine ⟨F', sf, R.ok, by rw [List.length_set]; exact R.len, ⟨R.adv.keep, fun c hc => ?_, fun c o z => ?_, R.adv.box⟩, fun j s z => ?_, fun j l b s1 s2 hjl e1 o1 e2 o2 e3 e4 => ?_⟩
  · rw [fout c fun w => hc (fn c w).2]
    exact R.adv.old c hc
  · by_cases q : c ∈ a :: as
    · rw [fin c q] at z; exact z
    · rw [fout c q] at z; exact R.same c o z
  · by_cases q : j = i
    · subst q
      rw [List.getElem?_set_self hi] at z
      cases z
      exact ⟨_, h1, .lst (.inl (.inl (by rw [fin a (by simp)]; exact h4))) (dps h5 fun c hc => List.mem_cons_of_mem _ hc)⟩
    · rw [List.getElem?_set_ne (Ne.symm q)] at z
      obtain ⟨w, g1, g2⟩ := R.sl j s z
      refine ⟨w, g1, ?_⟩
      have ne : ∀ c, s.own = true → At s σ[j]? c → c ∉ a :: as := fun c o hb w => by
        rcases List.mem_cons.mp w with w | w
        · subst w; exact R.dis j i c _ _ q z o e rfl hb (.inl h1)
        · exact R.dis j i c _ _ q z o e rfl hb (.inr w)
      cases s with
      | d x => exact dp_mono sf x w g2
      | ow ys =>
        obtain ⟨c, ws, rfl, k1, k2, k3, k4⟩ := g2
        exact ⟨c, ws, rfl, k1, by rw [fout c (ne c rfl (.inl g1))]; exact k2, k3, dp_monoAll sf ys ws k4⟩
      | box => exact g2
      | raw u => exact g2
      | dk kvs =>
        obtain ⟨c, ws, rfl, k1, k2⟩ := g2
        exact ⟨c, ws, rfl, sf c _ k1, k2.mono sf⟩
      | dt kvs =>
        obtain ⟨c, ws, rfl, k1, k2⟩ := g2
        exact ⟨c, ws, rfl, sf c _ k1, k2.mono sf⟩
      | odk ys =>
        obtain ⟨c, ws, rfl, k1, k2, k3, k4⟩ := g2
        exact ⟨c, ws, rfl, k1, by rw [fout c (ne c rfl (.inl g1))]; exact k2, k3, k4.mono sf⟩
      | odt ys =>
        obtain ⟨c, ws, rfl, k1, k2, k3, k4⟩ := g2
        exact ⟨c, ws, rfl, k1, by rw [fout c (ne c rfl (.inl g1))]; exact k2, k3, k4.mono sf⟩
      | nl as' xss' =>
        obtain ⟨c, rfl, nd', k1, k2, k3, k4⟩ := g2
        exact ⟨c, rfl, nd', k1, by rw [fout c (ne c rfl (.inl g1))]; exact k2, k3, k4.imp fun b hb ws ys p1 p2 p3 p4 => ⟨p1, by rw [fout b (ne b rfl (.inr hb))]; exact p2, p3, dp_monoAll sf ys ws p4⟩⟩
  · have nj : j ≠ i := fun q => by subst q; rw [List.getElem?_set_self hi] at e1; cases e1; cases o1
    have nl : l ≠ i := fun q => by subst q; rw [List.getElem?_set_self hi] at e2; cases e2; cases o2
    rw [List.getElem?_set_ne (Ne.symm nj)] at e1
    rw [List.getElem?_set_ne (Ne.symm nl)] at e2
    exact R.dis j l b s1 s2 hjl e1 o1 e2 o2 e3 e4
section
variable {X : Cx} {K : PySem.W.Frag} {tg iter : Expr} {a b c e : Expr} {ma mb mc me : EM} {p pos tpos apos cpos : Pos} {kr : Kd} {m : SM}
def sFrzN (i : Nat) (m : SM) : SM := fun E τ n => ∃ as xss, τ[i]? = some (some (.nl as xss)) ∧ m E (τ.set i (some (.d (.list (xss.map .list))))) n
theorem s_frzN {sts : List Stmt} (i : Nat) (h : S2 X kr sts m) : S2 X kr sts (sFrzN i m) := by
  refine ⟨fun Wx tk => pss_weak (h.ps Wx tk) fun Dd σ H ⟨A, τ, n, F, E, eK, R, ⟨as, xss, e, p⟩, ed⟩ => ?_⟩
  obtain ⟨F', s, R'⟩ := R.frzN e
  exact ⟨A, _, n, F', E, eK, R', p, ed.sub s⟩
/-! ### read -/
def mIxN (i : Nat) (mb : EM) : EM := fun τ n Q => ∃ as xss, τ[i]? = some (some (.nl as xss)) ∧ mb τ n fun y n1 => ∃ k j xs, y = .int k ∧ ixN xss.length k = some j ∧ xss[j]? = some xs ∧ Q (.list xs) n1
theorem atI_ix {α : Type} {xs : List α} {k : Int} {j : Nat} (h : ixN xs.length k = some j) : L2.atI xs k = xs[j]? := by
  unfold L2.atI
  rw [h]
  rfl
theorem e_ixN {o : Expr} {i : Nat} (ho : PE X o (tVar i)) (hb : E2 X .bw b mb) (hs : PlainIx b := by exact fun _ _ => rfl) : E2 X .bw (.Subscript o b pos) (mIxN i mb) := by
  refine ⟨pe_weak (pe_ix ix_seq ho hb.pe hs) fun σ H Q ⟨A, τ, n, F, P, eK, R, ⟨as, xss, e0, hm⟩, hq⟩ => ?_⟩
  obtain ⟨w, g1, g2⟩ := R.sl i _ e0
  refine ⟨w, g1, tE_run eK R hm ?_⟩
  rintro y n1 vy H1 F1 ⟨k, j, xs, rfl, hk, hj, p1⟩ a1 r1
  obtain ⟨w', g1', l, rfl, nd, k1, k2, k3, k4⟩ := (R.step a1).sl i _ e0
  rw [g1] at g1'
  cases g1'
  have hl := k4.len
  have hjl : j < as.length := by
    have := (List.getElem?_eq_some_iff.mp hj).1
    omega
  obtain ⟨ys, vs, q1, q2, q3, q4, q5⟩ := k4.at_ (List.getElem?_eq_getElem hjl)
  rw [hj] at q1
  cases q1
  refine .inl ⟨l, as.map V.ref, k, .ref as[j], rfl, bw_int r1, .inl (.inl k3), ?_, hq _ n1 _ H1 F1 p1 a1 (.inr ⟨_, vs, xs, rfl, rfl, q4, eK ▸ q5⟩)⟩
  rw [atI_ix (j := j) (by rw [List.length_map, hl]; exact hk), List.getElem?_map, List.getElem?_eq_getElem hjl]
  rfl
/-! ### changed -/
def xAppN (i : Nat) (mb me : EM) : XM := fun τ n Q => ∃ as xss, τ[i]? = some (some (.nl as xss)) ∧ mb τ n fun y n1 => ∃ k j xs, y = .int k ∧ ixN xss.length k = some j ∧ xss[j]? = some xs ∧ me τ n1 fun d n2 => xs.length < sizeLine ∧ Q .none (τ.set i (some (.nl as (xss.set j (xs ++ [d]))))) n2
theorem x_appN {o arg : Expr} {i : Nat} {ipos : Pos} (ho : PE X o (tVar i)) (hb : E2 X .bw b mb) (ha : E2 X .fz arg me) (hpi : PlainIx b := by exact fun _ _ => rfl)
    (hbase : attributeBase (.Subscript o b ipos) "append" X.env (eval (.Subscript o b ipos) X.env) = eval (.Subscript o b ipos) X.env := by rfl) (hfew : ((backTo cpos (starEach [arg] X.env)).all (fun x => !x.1) && (backToKw cpos (keywordEach [] X.env)).all (fun x => x.1.isSome)
      && decide (([arg] : List Expr).length + ([] : List Keyword).length + (if ([] : List Keyword).isEmpty then 0 else 1) < 30)) = true := by rfl)
    (hline : (apos.endLine == cpos.line) = true := by rfl) (hs : starEach [arg] X.env = (false, eval arg X.env) :: starEach [] X.env := by rfl) (hplain : (backTo cpos (starEach [] X.env)).any (·.1) = false := by rfl) :
    X2 X (.Call (.Attribute (.Subscript o b ipos) "append" apos) [arg] [] cpos) (xAppN i mb me) := by
  refine ⟨pe_weak (pe_bm PySem.F.plainAttrs_list PySem.F.slot_list_append PySem.F.type_list_append mt_append (pe_ix ix_seq ho hb.pe hpi) (pa_cons ha.pe pa_nil hs) hbase hfew hline hs hplain) fun σ H Q ⟨A, τ, n, F, P, eK, R, ⟨as, xss, e0, hm⟩, hq⟩ => ?_⟩
  obtain ⟨w, g1, g2⟩ := R.sl i _ e0
  refine ⟨w, g1, tE_run eK R hm ?_⟩
  rintro y n1 vy H1 F1 ⟨k, j, xs, rfl, hk, hj, hm2⟩ a1 r1
  have R1 := R.step a1
  obtain ⟨w', g1', l, rfl, nd, k1, k2, k3, k4⟩ := R1.sl i _ e0
  rw [g1] at g1'
  cases g1'
  have hl := k4.len
  have hjl : j < as.length := by
    have := (List.getElem?_eq_some_iff.mp hj).1
    omega
  obtain ⟨ys, vs, q1, q2, q3, q4, q5⟩ := k4.at_ (List.getElem?_eq_getElem hjl)
  rw [hj] at q1
  cases q1
  refine .inl ⟨l, as.map V.ref, k, .ref as[j], rfl, bw_int r1, .inl (.inl k3), ?_, ?_⟩
  · rw [atI_ix (j := j) (by rw [List.length_map, hl]; exact hk), List.getElem?_map, List.getElem?_eq_getElem hjl]
    rfl
  refine ⟨.inl ⟨rfl, vs, .inl (.inl q4)⟩, tE_run eK R1 hm2 ?_⟩
  rintro d n2 v H2 F2 ⟨hz, p2⟩ a2 r2
  have R2 := R1.step a2
  obtain ⟨w', g1', l', e', nd', k1', k2', k3', k4'⟩ := R2.sl i _ e0
  obtain ⟨ys', vs', q1', q2', q3', q4', q5'⟩ := k4'.at_ (List.getElem?_eq_getElem hjl)
  rw [hj] at q1'
  cases q1'
  refine ⟨as[j], vs', v, rfl, rfl, q4', by rw [dpAll_len q5']; exact hz, ?_⟩
  have r2' : Dp A.K F2 v d := eK ▸ r2
  exact hq _ _ n2 .non _ F2 p2 (R2.updN e0 (List.getElem?_eq_getElem hjl) (dpAll_append q5' (.cons r2' .nil))) (fun c o z => a2.fro a1.sub c o (a1.fro R.same c o z)) .non
def sSetIxN (i : Nat) (mb mc me : EM) : SM := fun E τ n => ∃ as xss, τ[i]? = some (some (.nl as xss)) ∧ me τ n fun d n1 => mb τ n1 fun y n2 => ∃ k j xs, y = .int k ∧ ixN xss.length k = some j ∧ xss[j]? = some xs ∧ mc τ n2 fun z n3 => ∃ k2 j2, z = .int k2 ∧ ixN xs.length k2 = some j2 ∧ E.nx (τ.set i (some (.nl as (xss.set j (xs.set j2 d))))) n3
theorem p_setIxN {o : Expr} {i : Nat} {ipos : Pos} (ho : PE X o (tVar i)) (hb : E2 X .bw b mb) (hc : E2 X .bw c mc) (h : E2 X .fz e me) (hpi : PlainIx b := by exact fun _ _ => rfl)
    (ha : ∀ v, assign (.Subscript (.Subscript o b ipos) c tpos) X.env v = (do
      let ov ← holding [v] (eval (.Subscript o b ipos) X.env)
      let iv ← holding [v, ov] (eval c X.env)
      standAt tpos
      holding [v, ov, iv] (setItem ov iv v)
      release [v, ov, iv] []) := by intro _; rfl)
    (hs : swapsWithSole [.Subscript (.Subscript o b ipos) c tpos] e pos.line X.env = pure false := by rfl) (hw : swappedStores [.Subscript (.Subscript o b ipos) c tpos] e X.env = pure none := by rfl)
    (h1 : (assignEach [.Subscript (.Subscript o b ipos) c tpos] X.env).map (·.2) = [assign (.Subscript (.Subscript o b ipos) c tpos) X.env] := by rfl) : P2 X kr (.Assign [.Subscript (.Subscript o b ipos) c tpos] e pos) (sSetIxN i mb mc me) := by
  refine ⟨fun Wx tk => ps_weak (ps_asg h.pe (pg_sub (pe_ix ix_seq ho hb.pe hpi) hc.pe set_list ha) hs hw h1) fun Dd σ H ⟨A, τ, n, F, E, eK, R, ⟨as, xss, e0, p⟩, ed⟩ => tE_run eK R p fun d n1 v H1 F1 p1 a1 r1 => ?_⟩
  have R1 := R.step a1
  obtain ⟨w, g1, g2⟩ := R1.sl i _ e0
  refine ⟨w, g1, tE_run eK R1 p1 ?_⟩
  rintro y n2 vy H2 F2 ⟨k, j, xs, rfl, hk, hj, p2⟩ a2 r2
  have R2 := R1.step a2
  obtain ⟨w', g1', l, rfl, nd, k1, k2, k3, k4⟩ := R2.sl i _ e0
  rw [g1] at g1'
  cases g1'
  have hl := k4.len
  have hjl : j < as.length := by
    have := (List.getElem?_eq_some_iff.mp hj).1
    omega
  obtain ⟨ys, vs, q1, q2, q3, q4, q5⟩ := k4.at_ (List.getElem?_eq_getElem hjl)
  rw [hj] at q1
  cases q1
  refine .inl ⟨l, as.map V.ref, k, .ref as[j], rfl, bw_int r2, .inl (.inl k3), ?_, ?_⟩
  · rw [atI_ix (j := j) (by rw [List.length_map, hl]; exact hk), List.getElem?_map, List.getElem?_eq_getElem hjl]
    rfl
  refine tE_run eK R2 p2 ?_
  rintro z n3 vz H3 F3 ⟨c2, j2, rfl, hk2, p3⟩ a3 r3
  have R3 := R2.step a3
  have a123 := (a1.trans a2).trans a3
  obtain ⟨w', g1', l', e', nd', k1', k2', k3', k4'⟩ := R3.sl i _ e0
  obtain ⟨ys', vs', q1', q2', q3', q4', q5'⟩ := k4'.at_ (List.getElem?_eq_getElem hjl)
  rw [hj] at q1'
  cases q1'
  rw [← dpAll_len q5'] at hk2
  refine ⟨as[j], vs', c2, j2, rfl, bw_int r3, q4', hk2, ed.nx _ n3 _ _ F3 p3 (R3.updN e0 (List.getElem?_eq_getElem hjl) ?_) (a123.fro R.same)⟩
  exact dpAll_set (dp_mono ((a2.trans a3).fro a1.sub) d v (eK ▸ r1)) j2 q5'
end
end TL
set_option Elab.async false
set_option linter.all false
set_option maxRecDepth 100000
set_option maxHeartbeats 4000000
/-! name = [new list for ..] -/
namespace TL
open PySem PySem.Spec PyProof.Rows L2
section
variable {X : Cx} {K : PySem.W.Frag} {tg iter : Expr} {a b c e : Expr} {ma mb mc me : EM} {p pos tpos apos cpos : Pos} {kr : Kd} {m : SM}
theorem NLA.snoc {A : Act} {H F : Hp} {b : Addr} {vs : List V} {xs : List D} (h1 : A.H0 b = none) (h2 : F b = none) (h3 : H b = some (.lst vs)) (h4 : DpAll A.K F vs xs) : ∀ {as : List Addr} {xss : List (List D)}, NLA A H F as xss → NLA A H F (as ++ [b]) (xss ++ [xs])
  | [], [], _ => ⟨⟨h1, h2, vs, h3, h4⟩, trivial⟩
  | a :: as, ys :: xss, ⟨g1, g2⟩ => ⟨g1, NLA.snoc h1 h2 h3 h4 g2⟩
  | [], _ :: _, h => h.elim
  | _ :: _, [], h => h.elim
/-- the new list of new lists under way -/
structure LcN (A : Act) (n1 : Nat) (H1 F1 : Hp) (D0 : Addr) (acc : List D) (n : Nat) (H F : Hp) : Prop where
  adv : Adv A.bx n1 n H1 F1 H F
  fr : F D0 = none
  at_ : ∃ as xss, acc = xss.map .list ∧ (D0 :: as).Nodup ∧ H D0 = some (.lst (as.map V.ref)) ∧ NLA ⟨A.K, H1, F1, A.bx, n1⟩ H F as xss
theorem LcN.step {A : Act} {n1 n n' : Nat} {H1 F1 H F H' F' : Hp} {D0 : Addr} {acc : List D} (L : LcN A n1 H1 F1 D0 acc n H F) (ad : Adv A.bx n n' H F H' F') : LcN A n1 H1 F1 D0 acc n' H' F' := by
  obtain ⟨as, xss, e, nd, h1, h2⟩ := L.at_
  have hb : A.bx ≠ some D0 := fun z => by rw [L.adv.box D0 z] at h1; cases h1
  refine ⟨L.adv.trans ad, ?_, as, xss, e, nd, ad.keep D0 _ h1 hb, h2.imp fun b _ vs xs g1 g2 g3 g4 => ⟨g1, ?_, ad.keep b _ g3 fun z => ?_, dp_monoAll (ad.fro L.adv.sub) xs vs g4⟩⟩
  · rw [ad.old D0 (by rw [h1]; exact fun z => nomatch z)]
    exact L.fr
  · rw [ad.old b (by rw [g3]; exact fun z => nomatch z)]
    exact g2
  · rw [L.adv.box b z] at g3
    cases g3
theorem lc_readN {A : Act} {τ : Ev} {n1 : Nat} {σ : L2.St} {H1 F1 : Hp} {vs : List Nat} {J : It} {items : List D} {g : GM} {c : CM} {me : EM} {ws : List Nat} {P : D → Nat → Prop} {Qd : Addr → Hp → Prop} (R : Rel A τ n1 σ H1 F1) (hw : ∀ i ∈ ws, i ∈ vs)
    (y : YH A.K J items A.bx n1 H1 F1) (h : lcD g c me (wipeE τ vs) items [] n1 P)
    (hq : ∀ D0 acc n' H' F', H1 D0 = none → P (.list acc) n' → LcN A n1 H1 F1 D0 acc n' H' F' → Qd D0 H') :
    ∀ D0, H1 D0 = none → ∃ W : Nat → Nat → Hp → Prop, (∃ m, W 0 m (upd H1 D0 (.lst []))) ∧ ∀ i m H, W i m H →
  (J.stop i H ∧ Qd D0 H) ∨ (J.go i H ∧ ∃ Nx : Hp → Prop, (∀ H', Nx H' → ∃ m', m' < m ∧ W (i + 1) m' H') ∧ ∀ x H', J.yld i H x H' → tG A.K ws g x (L2.wipe σ vs) H' fun σ2 H2 => L2.wipe σ2 vs = L2.wipe σ vs ∧ tT A.K c σ2 H2 fun b H3 =>
    if b = true then tE A.K .nw me σ2 H3 fun y H4 => ∃ acc, H4 D0 = some (.lst acc) ∧ acc.length < sizeLine ∧ Nx (upd H4 D0 (.lst (acc ++ [y]))) else Nx H3) := by
  intro D0 hD0
  have hF1 : F1 D0 = none := by
    cases e : F1 D0 with
    | none => rfl
    | some o => rw [R.same D0 o e] at hD0; cases hD0
  refine ⟨fun i m H => ∃ acc n F, m = items.length - i ∧ i ≤ items.length ∧ LcN A n1 H1 F1 D0 acc n H F ∧ lcD g c me (wipeE τ vs) (items.drop i) acc n P, ⟨items.length, [], n1, F1, rfl, Nat.zero_le _, ⟨(PAdv.new' R.same hD0).adv R.box, hF1, [], [], rfl, by simp, upd_same, trivial⟩, by rw [List.drop_zero]; exact h⟩, ?_⟩
  rintro i m H ⟨acc, n, F, rfl, hi, L, q⟩
  obtain ⟨y1, y2⟩ := y i n H F L.adv
  by_cases hl : i < items.length
  · have ed : items.drop i = items[i] :: items.drop (i + 1) := List.drop_eq_getElem_cons hl
    rw [ed] at q
    obtain ⟨g1, g2⟩ := y1 items[i] (List.getElem?_eq_getElem hl)
    refine .inr ⟨g1, fun H' => ∃ acc n F, LcN A n1 H1 F1 D0 acc n H' F ∧ lcD g c me (wipeE τ vs) (items.drop (i + 1)) acc n P, ?_, ?_⟩
    · rintro H' ⟨acc', n', F', L', q'⟩
      exact ⟨items.length - (i + 1), by omega, acc', n', F', rfl, hl, L', q'⟩
    · intro x H2 hy
      obtain ⟨F2, a2, d2⟩ := g2 x H2 hy
      have L2' := L.step (a2.adv (R.step L.adv).box)
      have R2 := (R.step L2'.adv).wipe vs
      refine ⟨A, wipeE τ vs, n, F2, _, items[i], rfl, R2, d2, q, fun τ3 n3 σ3 H3 F3 p3 R3 s3 a3 x3 => ⟨?_, ?_⟩⟩
      · rw [x3.1 vs hw]
        exact lc_read.wipe_wipe σ vs
      · have L3 := L2'.step a3
        refine tT_go rfl R3 p3 fun t n4 H4 F4 p4 a4 => ?_
        have L4 := L3.step a4
        cases t with
        | true =>
          rw [if_pos rfl] at p4 ⊢
          refine tE_run rfl (R3.step a4) p4 fun d n5 v H5 F5 p5 a5 r5 => ?_
          obtain ⟨hz, p5⟩ := p5
          have L5 := L4.step a5
          obtain ⟨as, xss, ea, nd, h51, h52⟩ := L5.at_
          obtain ⟨as4, xss4, ea4, nd4, h41, h42⟩ := L4.at_
          obtain ⟨q5, us, xs, rfl, rfl, hq0, hqF, hq1, hq2⟩ := r5
          have eas : as = as4 := by
            have hb : A.bx ≠ some D0 := fun z => by rw [L4.adv.box D0 z] at h41; cases h41
            have := a5.keep D0 _ h41 hb
            rw [h51] at this
            injection this with this
            injection this with this
            have inj : ∀ {x y : List Addr}, x.map V.ref = y.map V.ref → x = y := by
              intro x
              induction x with
              | nil => intro y h; cases y with
                | nil => rfl
                | cons => simp at h
              | cons u x ih => intro y h; cases y with
                | nil => simp at h
                | cons w y =>
                  simp at h
                  rw [h.1, ih h.2]
            exact inj this
          subst eas
          have nq : q5 ∉ D0 :: as := fun z => by
            rcases List.mem_cons.mp z with z | z
            · subst z; rw [h41] at hq0; cases hq0
            · obtain ⟨_, _, vs', g3⟩ := h42.mem z
              rw [g3] at hq0; cases hq0
          have hq1' : H1 q5 = none := by
            cases e : H1 q5 with
            | none => rfl
            | some o =>
              by_cases hb : A.bx = some q5
              · rw [L4.adv.box q5 hb] at hq0; cases hq0
              · rw [L4.adv.keep q5 o e hb] at hq0; cases hq0
          have nD : D0 ≠ q5 := fun z => nq (by rw [z]; simp)
          have ndn : D0 ∉ as := (List.nodup_cons.mp nd).1
          have len : as.length = xss.length := h52.len
          refine ⟨as.map V.ref, h51, ?_, acc ++ [.list xs], n5, F5, ⟨⟨fun c o e hb => ?_, L5.adv.old, fun c o e => ?_, fun b hb => ?_⟩, L5.fr, as ++ [q5], xss ++ [xs], by rw [ea]; simp, ?_, ?_, ?_⟩, p5⟩
          · rw [List.length_map, len]
            rw [ea] at hz
            simpa using hz
          · rw [upd_ne (ne_of_none e hD0)]; exact L5.adv.keep c o e hb
          · rw [upd_ne (ne_of_none e L5.fr)]; exact L5.adv.sub c o e
          · rw [upd_ne (fun z => by subst z; rw [L5.adv.box b hb] at h51; cases h51)]; exact L5.adv.box b hb
          · have nd' := List.nodup_cons.mp nd
            rw [List.nodup_cons]
            refine ⟨fun z => ?_, ?_⟩
            · rcases List.mem_append.mp z with z | z
              · exact nd'.1 z
              · exact nD (by simpa using z)
            · rw [List.nodup_append]
              exact ⟨nd'.2, by simp, fun c hc b hb e => nq (by rw [List.mem_singleton.mp hb] at e; rw [← e]; exact List.mem_cons_of_mem _ hc)⟩
          · rw [upd_same]
            simp
          · have w1 : NLA ⟨A.K, H1, F1, A.bx, n1⟩ (upd H5 D0 (.lst (as.map V.ref ++ [.ref q5]))) F5 as xss := h52.imp fun b hb vs' xs' g1 g2 g3 g4 => ⟨g1, g2, by
              rw [upd_ne fun z => by subst z; exact ndn hb]
              exact g3, g4⟩
            exact NLA.snoc (A := ⟨A.K, H1, F1, A.bx, n1⟩) (H := upd H5 D0 (.lst (as.map V.ref ++ [.ref q5]))) (F := F5) hq1' hqF (by rw [upd_ne (Ne.symm nD)]; exact hq1) hq2 w1
        | false =>
          rw [if_neg Bool.false_ne_true] at p4 ⊢
          exact ⟨acc, n4, F4, L4, p4⟩
  · have ei : i = items.length := by omega
    subst ei
    rw [List.drop_length] at q
    exact .inl ⟨y2 (Nat.le_refl _), hq D0 acc n H F hD0 q L⟩
/-- name = [..] of one line, new lists in it, the name a local -/
def sSetNl (i : Nat) (m : EM) : SM := fun E τ n => m τ n fun d n' => ∃ xss, d = .list (xss.map .list) ∧ ∀ as : List Addr, as.length = xss.length → E.nx (τ.set i (some (.nl as xss))) n'
theorem p_setNl {i : Nat} {y : Str} {py spos : Pos} {elt : Expr} {ifs : List Expr} {scope : Scope} {own : List (Str × Nat)} {mi : IM} {g : GM} {c : CM} {me : EM} {ws : List Nat} (hc : X.calm = true) (hN : X.N.Nodup) (hy : X.N[i]? = some y) (hyl : X.env.scope.names.lookup y = some .local)
    (hi : J2 X tg iter mi) (ok : BlkOk X.N X.env.scope scope own)
    (hg : ∀ (s : Shared) (H : Hp) (C : Addr) (cl : List (Str × Addr)) (fp : List Addr), G2 (X.blk s H scope (compEnvC scope cl C X.env) fp) ws tg g) (ht : ∀ (s : Shared) (H : Hp) (C : Addr) (cl : List (Str × Addr)) (fp : List Addr), C2 (X.blk s H scope (compEnvC scope cl C X.env) fp) ifs c)
    (he : ∀ (s : Shared) (H : Hp) (C : Addr) (cl : List (Str × Addr)) (fp : List Addr), E2 (X.blk s H scope (compEnvC scope cl C X.env) fp) .nw elt me)
    (hsw : swapsWith (.ListComp elt [⟨tg, iter, ifs, 0⟩] scope pos) (some (.Name y py)) spos.line X.env = pure true) (hw : ∀ i ∈ ws, i ∈ own.map (·.2) := by decide) (hs : ∀ x, foldedSetIterable iter X.env x = pure x := by intro _; rfl) :
    P2 X kr (.Assign [.Name y py] (.ListComp elt [⟨tg, iter, ifs, 0⟩] scope pos) spos) (sSetNl i (mLc mi g c me (own.map (·.2)))) := by
  refine ⟨fun Wx tk => ps_weak (ps_setLc (te := tE X.K .nw me) (g := tG X.K ws g) (tt := tT X.K c) hc hN hy hyl hsw hi.pi ok (fun s H C cl fp => (hg s H C cl fp).pg) (fun s H C cl fp => (ht s H C cl fp).pt) (fun s H C cl fp => (he s H C cl fp).pe) hs) fun Dd σ H ⟨A, τ, n, F, E, eK, R, hm, e⟩ => ⟨A, τ, n, F, _, eK, R, hm, fun items n1 J H1 F1 p1 a1 yy => ?_⟩⟩
  have eK' : A.K = X.K := eK
  have := lc_readN (Qd := fun D0 H' => Dd.nx (σ.set i (some (.ref D0))) H') (R.step a1) hw (eK'.symm ▸ yy) p1 fun D0 acc n' H' F' hD p' L => by
    obtain ⟨as, xss, ea, nd, h1, h2⟩ := L.at_
    obtain ⟨xss', e1, p2⟩ := p'
    have ex : xss' = xss := by
      rw [ea] at e1
      injection e1 with e1
      have inj : ∀ {x y : List (List D)}, x.map PyData.list = y.map .list → x = y := by
        intro x
        induction x with
        | nil => intro y h; cases y with
          | nil => rfl
          | cons => simp at h
        | cons u x ih => intro y h; cases y with
          | nil => simp at h
          | cons w y =>
            simp at h
            rw [h.1, ih h.2]
      exact (inj e1).symm
    subst ex
    have R1 := R.step a1
    have R2 := R1.step L.adv
    have hk : ∀ c ∈ D0 :: as, A.H0 c = none ∧ H1 c = none := fun c hc => by
      have : H1 c = none := by
        rcases List.mem_cons.mp hc with z | z
        · subst z; exact hD
        · exact (h2.mem z).1
      exact ⟨R1.h0some this, this⟩
    refine e.nx _ n' _ H' F' (p2 as h2.len) (R2.setS (s := .nl as xss') i ⟨D0, rfl, nd, (hk D0 (by simp)).1, L.fr, h1, h2.imp fun b hb vs xs g1 g2 g3 g4 => ⟨(hk b (List.mem_cons_of_mem _ hb)).1, g2, g3, g4⟩⟩ fun _ j s' b hj e1 e2 e3 e4 => ?_) ((a1.trans L.adv).fro R.same)
    have hn := (R1.own e1 e2 e3).2.2
    rcases e4 with e4 | e4
    · cases e4
      exact hn (hk D0 (by simp)).2
    · exact hn (hk b (List.mem_cons_of_mem _ e4)).2
  rw [eK'] at this
  exact this
end
end TL
set_option Elab.async false
set_option linter.all false
set_option maxRecDepth 100000
set_option maxHeartbeats 4000000
/-! a, b = new list, [new list for ..] -/
namespace TL
open PySem PySem.Spec PyProof.Rows L2
section
variable {X : Cx} {K : PySem.W.Frag} {tg iter : Expr} {a b c e : Expr} {ma mb mc me : EM} {p pos tpos apos cpos : Pos} {kr : Kd} {m : SM}
theorem mapList_inj : ∀ {x y : List (List D)}, x.map PyData.list = y.map .list → x = y
  | [], [], _ => rfl
  | [], _ :: _, h => by simp at h
  | _ :: _, [], h => by simp at h
  | u :: x, w :: y, h => by
    simp at h
    rw [h.1, mapList_inj (x := x) (y := y) (by simpa using h.2)]
def sParNl (i j : Nat) (ma m : EM) : SM := fun E τ n => ma τ n fun x n1 => m τ n1 fun d n' => ∃ xss, d = .list (xss.map .list) ∧ ∀ as : List Addr, as.length = xss.length → E.nx ((τ.set i (some (slOf .nw x))).set j (some (.nl as xss))) n'
theorem p_parNl {i j : Nat} {x y : Str} {px py pt : Pos} {kt q2 pt2} {elt : Expr} {ifs : List Expr} {scope : Scope} {own : List (Str × Nat)} {mi : IM} {g : GM} {c : CM} {me : EM} {ws : List Nat} (hc : X.calm = true) (hN : X.N.Nodup) (hi : X.N[i]? = some x) (hj : X.N[j]? = some y) (hij : i ≠ j)
    (hx : X.env.scope.names.lookup x = some .local) (hy : X.env.scope.names.lookup y = some .local) (ha : E2 X .nw a ma)
    (hit : J2 X tg iter mi) (ok : BlkOk X.N X.env.scope scope own)
    (hg : ∀ (s : Shared) (H : Hp) (C : Addr) (cl : List (Str × Addr)) (fp : List Addr), G2 (X.blk s H scope (compEnvC scope cl C X.env) fp) ws tg g) (ht : ∀ (s : Shared) (H : Hp) (C : Addr) (cl : List (Str × Addr)) (fp : List Addr), C2 (X.blk s H scope (compEnvC scope cl C X.env) fp) ifs c)
    (he : ∀ (s : Shared) (H : Hp) (C : Addr) (cl : List (Str × Addr)) (fp : List Addr), E2 (X.blk s H scope (compEnvC scope cl C X.env) fp) .nw elt me)
    (hwi : ∀ i ∈ ws, i ∈ own.map (·.2) := by decide) (hfs : ∀ x, foldedSetIterable iter X.env x = pure x := by intro _; rfl)
    (hw : swappedStores [.Tuple [.Name x px, .Name y py] kt pt] (.Tuple [a, .ListComp elt [⟨tg, iter, ifs, 0⟩] scope pos] q2 pt2) X.env = pure (some [x, y]) := by rfl)
    (hs : swapsWithSole [.Tuple [.Name x px, .Name y py] kt pt] (.Tuple [a, .ListComp elt [⟨tg, iter, ifs, 0⟩] scope pos] q2 pt2) tpos.line X.env = pure false := by rfl)
    (s1 : starEach [a, .ListComp elt [⟨tg, iter, ifs, 0⟩] scope pos] X.env = (false, eval a X.env) :: starEach [.ListComp elt [⟨tg, iter, ifs, 0⟩] scope pos] X.env := by rfl) (s2 : starEach [.ListComp elt [⟨tg, iter, ifs, 0⟩] scope pos] X.env = (false, eval (.ListComp elt [⟨tg, iter, ifs, 0⟩] scope pos) X.env) :: starEach [] X.env := by rfl) :
    P2 X kr (.Assign [.Tuple [.Name x px, .Name y py] kt pt] (.Tuple [a, .ListComp elt [⟨tg, iter, ifs, 0⟩] scope pos] q2 pt2) tpos) (sParNl i j ma (mLc mi g c me (own.map (·.2)))) := by
  refine ⟨fun Wx tk => ps_weak (ps_par hc hN hi hj hij hx hy (pa_cons ha.pe (pa_cons (pe_lc (te := tE X.K .nw me) (g := tG X.K ws g) (tt := tT X.K c) hc hN hit.pi ok (fun s H C cl fp => (hg s H C cl fp).pg) (fun s H C cl fp => (ht s H C cl fp).pt) (fun s H C cl fp => (he s H C cl fp).pe) hfs) pa_nil s2) s1) hw hs) fun Dd σ H ⟨A, τ, n, F, E, eK, R, p, e⟩ => ?_⟩
  refine tE_run eK R p fun d1 n0 v1 H0 F0 p0 a0 r0 => ?_
  have R0 := R.step a0
  refine ⟨A, τ, n0, F0, _, eK, R0, p0, fun items n1 J H1 F1 p1 a1 yy => ?_⟩
  have eK' : A.K = X.K := eK
  have r0' : RepK A.K .nw H H0 F0 v1 d1 := eK'.symm ▸ r0
  have RS : Rel A (τ.set i (some (slOf .nw d1))) n1 (σ.set i (some v1)) H1 F1 := (R.set1 (k := .nw) i (fun z => nomatch z) a0 r0').step a1
  have := lc_readN (Qd := fun D0 H' => ∃ v1' v2', [v1, V.ref D0] = [v1', v2'] ∧ Dd.nx ((σ.set i (some v1')).set j (some v2')) H') (R0.step a1) hwi (eK'.symm ▸ yy) p1 fun D0 acc n' H' F' hD p' L => by
    obtain ⟨as, xss, ea, nd, h1, h2⟩ := L.at_
    obtain ⟨xss', e1, p2⟩ := p'
    have ex : xss' = xss := by
      rw [ea] at e1
      injection e1 with e1
      exact (mapList_inj e1).symm
    subst ex
    have hk : ∀ c ∈ D0 :: as, A.H0 c = none ∧ H1 c = none := fun c hc => by
      have : H1 c = none := by
        rcases List.mem_cons.mp hc with z | z
        · subst z; exact hD
        · exact (h2.mem z).1
      exact ⟨RS.h0some this, this⟩
    refine ⟨v1, .ref D0, rfl, e.nx _ n' _ H' F' (p2 as h2.len) ((RS.step L.adv).setS (s := .nl as xss') j ⟨D0, rfl, nd, (hk D0 (by simp)).1, L.fr, h1, h2.imp fun b hb vs xs g1 g2 g3 g4 => ⟨(hk b (List.mem_cons_of_mem _ hb)).1, g2, g3, g4⟩⟩ fun _ l s' b hl e1 e2 e3 e4 => ?_) (((a0.trans a1).trans L.adv).fro R.same)⟩
    have hn := (RS.own e1 e2 e3).2.2
    rcases e4 with e4 | e4
    · cases e4
      exact hn (hk D0 (by simp)).2
    · exact hn (hk b (List.mem_cons_of_mem _ e4)).2
  rw [eK'] at this
  exact this
/-- name = [new list for ..], the name any of the def's own -/
theorem p_setNlC {i : Nat} {y : Str} {py spos : Pos} {elt : Expr} {ifs : List Expr} {scope : Scope} {own : List (Str × Nat)} {mi : IM} {g : GM} {c : CM} {me : EM} {ws : List Nat} (hc : X.calm = true) (hN : X.N.Nodup) (hy : X.N[i]? = some y) (hyl : Loc X.env.scope y)
    (hi : J2 X tg iter mi) (ok : BlkOk X.N X.env.scope scope own)
    (hg : ∀ (s : Shared) (H : Hp) (C : Addr) (cl : List (Str × Addr)) (fp : List Addr), G2 (X.blk s H scope (compEnvC scope cl C X.env) fp) ws tg g) (ht : ∀ (s : Shared) (H : Hp) (C : Addr) (cl : List (Str × Addr)) (fp : List Addr), C2 (X.blk s H scope (compEnvC scope cl C X.env) fp) ifs c)
    (he : ∀ (s : Shared) (H : Hp) (C : Addr) (cl : List (Str × Addr)) (fp : List Addr), E2 (X.blk s H scope (compEnvC scope cl C X.env) fp) .nw elt me)
    (hsw : swapsWith (.ListComp elt [⟨tg, iter, ifs, 0⟩] scope pos) (some (.Name y py)) spos.line X.env = pure false := by rfl) (hw : ∀ i ∈ ws, i ∈ own.map (·.2) := by decide) (hs : ∀ x, foldedSetIterable iter X.env x = pure x := by intro _; rfl)
    (hf : X.fn y = true ∨ X.env.scope.names.lookup y = some .local := by first | exact .inl rfl | exact .inr rfl | assumption) :
    P2 X kr (.Assign [.Name y py] (.ListComp elt [⟨tg, iter, ifs, 0⟩] scope pos) spos) (sSetNl i (mLc mi g c me (own.map (·.2)))) := by
  refine ⟨fun Wx tk => ps_weak (ps_set hN hy hyl (pe_lc (te := tE X.K .nw me) (g := tG X.K ws g) (tt := tT X.K c) hc hN hi.pi ok (fun s H C cl fp => (hg s H C cl fp).pg) (fun s H C cl fp => (ht s H C cl fp).pt) (fun s H C cl fp => (he s H C cl fp).pe) hs) hsw hf) fun Dd σ H ⟨A, τ, n, F, E, eK, R, hm, e⟩ => ⟨A, τ, n, F, _, eK, R, hm, fun items n1 J H1 F1 p1 a1 yy => ?_⟩⟩
  have eK' : A.K = X.K := eK
  have := lc_readN (Qd := fun D0 H' => Dd.nx (σ.set i (some (.ref D0))) H') (R.step a1) hw (eK'.symm ▸ yy) p1 fun D0 acc n' H' F' hD p' L => by
    obtain ⟨as, xss, ea, nd, h1, h2⟩ := L.at_
    obtain ⟨xss', e1, p2⟩ := p'
    have ex : xss' = xss := by
      rw [ea] at e1
      injection e1 with e1
      exact (mapList_inj e1).symm
    subst ex
    have R1 := R.step a1
    have R2 := R1.step L.adv
    have hk : ∀ c ∈ D0 :: as, A.H0 c = none ∧ H1 c = none := fun c hc => by
      have : H1 c = none := by
        rcases List.mem_cons.mp hc with z | z
        · subst z; exact hD
        · exact (h2.mem z).1
      exact ⟨R1.h0some this, this⟩
    refine e.nx _ n' _ H' F' (p2 as h2.len) (R2.setS (s := .nl as xss') i ⟨D0, rfl, nd, (hk D0 (by simp)).1, L.fr, h1, h2.imp fun b hb vs xs g1 g2 g3 g4 => ⟨(hk b (List.mem_cons_of_mem _ hb)).1, g2, g3, g4⟩⟩ fun _ j s' b hj e1 e2 e3 e4 => ?_) ((a1.trans L.adv).fro R.same)
    have hn := (R1.own e1 e2 e3).2.2
    rcases e4 with e4 | e4
    · cases e4
      exact hn (hk D0 (by simp)).2
    · exact hn (hk b (List.mem_cons_of_mem _ e4)).2
  rw [eK'] at this
  exact this
end
end TL
namespace TL
open PySem PySem.Spec PyProof.Rows L2
section
variable {τ : Ev} {n i j : Nat} {mb mc me m ma : EM} {Q : D → Nat → Prop} {E : En} {R : D → Ev → Nat → Prop} {ms : SM}
@[simp] theorem mIxN_ap : mIxN i mb τ n Q ↔ ∃ as xss, τ[i]? = some (some (.nl as xss)) ∧ mb τ n fun y n1 => ∃ k j xs, y = .int k ∧ ixN xss.length k = some j ∧ xss[j]? = some xs ∧ Q (.list xs) n1 := Iff.rfl
@[simp] theorem xAppN_ap : xAppN i mb me τ n R ↔ ∃ as xss, τ[i]? = some (some (.nl as xss)) ∧ mb τ n fun y n1 => ∃ k j xs, y = .int k ∧ ixN xss.length k = some j ∧ xss[j]? = some xs ∧ me τ n1 fun d n2 => xs.length < sizeLine ∧ R .none (τ.set i (some (.nl as (xss.set j (xs ++ [d]))))) n2 := Iff.rfl
@[simp] theorem sSetIxN_ap : sSetIxN i mb mc me E τ n ↔ ∃ as xss, τ[i]? = some (some (.nl as xss)) ∧ me τ n fun d n1 => mb τ n1 fun y n2 => ∃ k j xs, y = .int k ∧ ixN xss.length k = some j ∧ xss[j]? = some xs ∧ mc τ n2 fun z n3 => ∃ k2 j2, z = .int k2 ∧ ixN xs.length k2 = some j2 ∧ E.nx (τ.set i (some (.nl as (xss.set j (xs.set j2 d))))) n3 := Iff.rfl
@[simp] theorem sFrzN_ap : sFrzN i ms E τ n ↔ ∃ as xss, τ[i]? = some (some (.nl as xss)) ∧ ms E (τ.set i (some (.d (.list (xss.map .list))))) n := Iff.rfl
@[simp] theorem sSetNl_ap : sSetNl i m E τ n ↔ m τ n fun d n' => ∃ xss, d = .list (xss.map .list) ∧ ∀ as : List Addr, as.length = xss.length → E.nx (τ.set i (some (.nl as xss))) n' := Iff.rfl
@[simp] theorem sParNl_ap : sParNl i j ma m E τ n ↔ ma τ n fun x n1 => m τ n1 fun d n' => ∃ xss, d = .list (xss.map .list) ∧ ∀ as : List Addr, as.length = xss.length → E.nx ((τ.set i (some (slOf .nw x))).set j (some (.nl as xss))) n' := Iff.rfl
end
end TL
set_option Elab.async false
set_option linter.all false
set_option maxRecDepth 100000
set_option maxHeartbeats 4000000
/-! exception classes of the program: made, raised -/
namespace TL
open PySem PySem.Spec PyProof.Rows L2
/-- a built-in class under which own ones stand -/
structure ExB (B : String) (newId initId : String) (bmB : List Value) : Prop where
  F : ExcBaseFacts B newId initId bmB
  SF : StoreFacts B bmB "object.__setattr__" "object"
  ty : typeOf (.type B) = pure (.type "type")
  fnd : ∀ K : PySem.W.Frag, PySem.W.findCls K (.type B) (.type "type") "__init__" = some (.val (.builtin initId))
  stub : Manifest.isStub B = false
  out : PySem.W.handedIn (.builtin initId) = true
/-- an own class over such a one, whose instances have one field -/
structure ExI (K : PySem.W.Frag) (mg : Str → Option Value) (nm f : Str) (newId : String) (bmB : List Value) : Prop where
  gC : mg nm = some (.ref (He.ga K nm))
  mi : PySem.W.excInitIn K (He.ga K nm) bmB newId = true
  ov : PySem.W.excOver K (He.ga K nm) bmB = true
  tk : PySem.W.takerIn K (He.ga K nm) f = some none
  noN : PySem.W.findIn K (.ref (He.ga K nm)) f = some none
  hd : PySem.W.hasDictIn K (He.ga K nm) = true
  sa : PySem.W.findIn K (.ref (He.ga K nm)) "__setattr__" = some (some (.builtin "object.__setattr__"))
  iC : PySem.W.findIn K (.ref (He.ga K nm)) "__init__" = some (some (.ref (He.ma K (He.ga K nm) "__init__")))
  tI : PySem.W.typeIn K (.ref (He.ma K (He.ga K nm) "__init__")) = some (.type "function")
  kC : PySem.W.keepIn K (.ref (He.ga K nm)) = true
  exC : PySem.W.subIn K (.ref (He.ga K nm)) (.type "BaseException") = some true
  tyC : PySem.W.typeIn K (.ref (He.ga K nm)) = some (.type "type")
  ga : PySem.W.findIn K (.ref (He.ga K nm)) "__getattribute__" = some (some (.builtin "BaseException.__getattribute__"))
  gg : PySem.W.findIn K (.ref (He.ga K nm)) "__getattr__" = some none
  cl : PySem.W.findIn K (.ref (He.ga K nm)) "__class__" = some (some (.builtin "object.__class__"))
  cn : PySem.W.specialIn K (.builtin "object.__class__") "__get__" = some (some (.builtin "getset_descriptor.__get__"))
  ct : PySem.W.takesIn K (.builtin "object.__class__") = some true
  hm : PySem.W.mroIn K (He.ga K nm) (.type "object") = some true
def exiB (K : PySem.W.Frag) (nm f : Str) (newId : String) (bmB : List Value) : Bool :=
  He.eqO (PySem.W.nsIn K mainGlobals nm) (some (some (.ref (He.ga K nm)))) && (PySem.W.excInitIn K (He.ga K nm) bmB newId && (PySem.W.excOver K (He.ga K nm) bmB && (decide (PySem.W.takerIn K (He.ga K nm) f = some none) && (decide (PySem.W.findIn K (.ref (He.ga K nm)) f = some none) && (PySem.W.hasDictIn K (He.ga K nm) &&
  (decide (PySem.W.findIn K (.ref (He.ga K nm)) "__setattr__" = some (some (.builtin "object.__setattr__"))) && (decide (PySem.W.findIn K (.ref (He.ga K nm)) "__init__" = some (some (.ref (He.ma K (He.ga K nm) "__init__")))) && (decide (PySem.W.typeIn K (.ref (He.ma K (He.ga K nm) "__init__")) = some (.type "function")) && (PySem.W.keepIn K (.ref (He.ga K nm)) &&
  (decide (PySem.W.subIn K (.ref (He.ga K nm)) (.type "BaseException") = some true) && (decide (PySem.W.typeIn K (.ref (He.ga K nm)) = some (.type "type")) && (decide (PySem.W.findIn K (.ref (He.ga K nm)) "__getattribute__" = some (some (.builtin "BaseException.__getattribute__"))) && (decide (PySem.W.findIn K (.ref (He.ga K nm)) "__getattr__" = some none) &&
  (decide (PySem.W.findIn K (.ref (He.ga K nm)) "__class__" = some (some (.builtin "object.__class__"))) && (decide (PySem.W.specialIn K (.builtin "object.__class__") "__get__" = some (some (.builtin "getset_descriptor.__get__"))) && (decide (PySem.W.takesIn K (.builtin "object.__class__") = some true) && decide (PySem.W.mroIn K (He.ga K nm) (.type "object") = some true)))))))))))))))))
theorem exi_ok {K : PySem.W.Frag} {h : Heap} {mg : Str → Option Value} {nm f : Str} {newId : String} {bmB : List Value} (X : K.In h) (G : h.Ns mainGlobals mg) (c : exiB K nm f newId bmB = true) : ExI K mg nm f newId bmB := by
  unfold exiB at c
  simp only [Bool.and_eq_true, decide_eq_true_eq] at c
  obtain ⟨c1, c2, c3, c4, c5, c6, c7, c8, c9, c10, c11, c12, c13, c14, c15, c16, c17, c18⟩ := c
  exact ⟨PySem.W.mg_of X G (He.eqO_ok c1), c2, c3, c4, c5, c6, c7, c8, c9, c10, c11, c12, c13, c14, c15, c16, c17, c18⟩
theorem exb_VE : ExB "ValueError" "ValueError.__new__" "ValueError.__init__" [.type "ValueError", .type "Exception", .type "BaseException", .type "object"] := ⟨PySem.F.excBase_ValueError, PySem.F.store_ValueError, by kernel_rfl, fun K => by first | rfl | kernel_rfl, by decide +kernel, by first | rfl | decide +kernel⟩
theorem exb_LE : ExB "LookupError" "LookupError.__new__" "LookupError.__init__" [.type "LookupError", .type "Exception", .type "BaseException", .type "object"] := ⟨PySem.F.excBase_LookupError, PySem.F.store_LookupError, by kernel_rfl, fun K => by first | rfl | kernel_rfl, by decide +kernel, by first | rfl | decide +kernel⟩
theorem exb_RE : ExB "RuntimeError" "RuntimeError.__new__" "RuntimeError.__init__" [.type "RuntimeError", .type "Exception", .type "BaseException", .type "object"] := ⟨PySem.F.excBase_RuntimeError, PySem.F.store_RuntimeError, by kernel_rfl, fun K => by first | rfl | kernel_rfl, by decide +kernel, by first | rfl | decide +kernel⟩
theorem exb_OE : ExB "OverflowError" "OverflowError.__new__" "OverflowError.__init__" [.type "OverflowError", .type "ArithmeticError", .type "Exception", .type "BaseException", .type "object"] := ⟨PySem.F.excBase_OverflowError, PySem.F.store_OverflowError, by kernel_rfl, fun K => by first | rfl | kernel_rfl, by decide +kernel, by first | rfl | decide +kernel⟩
/-! ### self.f = v on an exception without a dict -/
section
variable {prog : Program} {w : World} {A : Around} {E : Value → Shared → Prop} {R : Result → Shared → Prop} {s : Shared} {K : PySem.W.Frag} {B newId initId : String} {bmB : List Value}
theorem osa_first {x C t1 : Addr} {name : Str} {tk : Tok} {v : Value} (U : ExB B newId initId bmB) (X : K.In s.heap) (hx : s.heap.get? x = some ({ cls := .ref C, dict := none, data := .fields #[.ref t1, .none, .none, .none, .bool false, .none] } : Obj))
    (ov : PySem.W.excOver K C bmB = true) (tn : PySem.W.takerIn K C name = some none) (hh : PySem.W.hasDictIn K C = true)
    (hq : ∀ h' tk' dx, (∀ b o, b ≠ x → s.heap.get? b = some o → h'.get? b = some o) → s.heap.objs.size ≤ dx → dx ≠ x → h'.get? x = some ({ cls := .ref C, dict := some dx, data := .fields #[.ref t1, .none, .none, .none, .bool false, .none] } : Obj) →
      h'.Ns1 dx (fun y => if y = name then some v else none) → R (.ok (.ret .none)) { s with heap := h', toks := tk' }) :
    codeAny (model prog w) A (.call (.builtin "object.__setattr__") ⟨[.ref x, .str name tk, v], []⟩) R s := by
  refine PySem.W.osa_openX (od := none) U.SF X ⟨hx, rfl, rfl, trivial⟩ ov tn fun b => ?_
  obtain ⟨cd, hc, hd⟩ := PySem.W.any_some hh
  have nx : x ≠ s.heap.objs.size := Nat.ne_of_lt (Heap.lt_size hx)
  refine wpAny_bind (wpAny_pure (wpAny_bind (PySem.W.instanceDict_exc hx (PySem.W.looks_clsIn X hc) hd ?_)))
  show wpAny _ _ (Builtin.ObjectAttr.storeInDict s.heap.objs.size (.str name tk) name v) _ _ _
  obtain ⟨hp, g, d, t, os⟩ := s
  refine HandSPX.store_in_new ⟨_, #[], _, (Heap.get?_update_ne _ _ _ _ nx.symm).trans (Heap.get?_push_at rfl rfl), rfl, fun e he => absurd he (by simp), fun _ => rfl⟩ fun h' tk' hn sb => ?_
  refine hq h' tk' hp.objs.size (fun c o hb ho => ?_) (Nat.le_refl _) nx.symm ?_ hn
  · exact (sb.2 c (Nat.ne_of_lt (Heap.lt_size ho))).trans ((Heap.get?_update_ne _ _ _ _ hb).trans (Heap.get?_push_of_some _ ho))
  · exact (sb.2 x nx).trans (Heap.get?_update_self _ (Heap.get?_push_of_some _ hx) rfl)
end
/-! ### the text of __init__: B.__init__(self, 'refused'); self.f = v -/
section
variable {X : Cx} {pins : List (Addr × Obj)} {σ : L2.St} {H : Hp} {s : Shared} {a dx : Addr} {nm f : Str} {y : V} {u : Value} {Q : Unit → Shared → Prop} {E : Value → Shared → Prop} {A : Around} {B newId initId : String} {bmB : List Value}
theorem ost_first (U : ExB B newId initId bmB) (T : ExI X.K X.mg nm f newId bmB) (I : Inv X pins σ H s) (e : H a = some (exo a (He.ga X.K nm) none)) (ry : RelV y u)
    (h : ∀ dx s', H dx = none → dx ≠ a → Inv X pins σ (upd (upd H dx (exd dx [(f, y)])) a (exo a (He.ga X.K nm) (some dx))) s' → Q () s') : wpAny (model X.prog X.w) A (setAttr (.ref a) f u) Q E s := by
  obtain ⟨t1, ho⟩ := exo_at I.hok e
  obtain ⟨hp, g, d, t, os⟩ := s
  refine PySem.W.set_plain I.kIn (ox := { cls := .ref (He.ga X.K nm), dict := none, data := .fields #[.ref t1, .none, .none, .none, .bool false, .none] }) (od := none) ⟨ho, rfl, rfl, trivial⟩ T.sa ?_
  refine osa_first (s := ⟨hp, g, d, _, os⟩) U I.kIn ho T.ov T.tk T.hd (fun h' tk' dx k dn dne hx hn => ?_)
  have hnd : H dx = none := I.hok.fresh dn
  have nd : ∀ {b : Addr} {o : Obj}, hp.get? b = some o → b ≠ dx := fun {b o} q => Nat.ne_of_lt (Nat.lt_of_lt_of_le (Heap.lt_size q) dn)
  have na : ∀ {b : Addr}, H b = none → b ≠ a := fun {b} n z => by rw [z, e] at n; cases n
  have U1 : Un X.fs [] H (upd (upd H dx (exd dx [(f, y)])) a (exo a (He.ga X.K nm) (some dx))) hp h' := {
    keep := fun b o q n _ _ => k b o (na n) q
    slot := fun b o q n _ _ => ⟨o.slots, k b o (na n) q⟩
    free := fun b o q n _ => by rw [upd_ne (na n), upd_ne (nd q)]; exact n
    there := fun b o q _ => by
      by_cases hb : b = a
      · exact ⟨_, by rw [hb]; exact hx⟩
      · exact ⟨o, k b o hb q⟩
    tups := fun b xs q => by rw [upd_ne (at_ne e q exo_tup), upd_ne (ne_of_none q hnd)]; exact q
    frzs := fun b o v q => by rw [upd_ne (at_ne e q exo_frz), upd_ne (ne_of_none q hnd)]; exact q
    tbls := fun b ps q => ⟨#[], by rw [upd_ne (at_ne e q exo_tbl), upd_ne (ne_of_none q hnd), q]; simp⟩ }
  refine h dx _ hnd dne (I.un (t' := tk') U1 fun b o q => ?_)
  by_cases hb : b = a
  · subst hb
    rw [upd_same] at q
    cases q
    exact exo_ok hx
  · rw [upd_ne hb] at q
    by_cases hd : b = dx
    · subst hd
      rw [upd_same] at q
      cases q
      exact exd_ok hn (relO_put (fs := []) ry fun g => True.intro)
    · rw [upd_ne hd] at q
      have n1 : ∀ {c : Addr}, H c = some (.own b) → c ≠ a := fun hc => at_ne e hc exo_own
      refine (I.hok b o q).stay (fun c v hc z => k c v ?_ z) (fun c hc => by rw [upd_ne (n1 hc), upd_ne (ne_of_none hc hnd)]; exact hc) (fun c xs hc => by rw [upd_ne (at_ne e hc exo_tup), upd_ne (ne_of_none hc hnd)]; exact hc)
      rcases hc with hc | hc
      · rw [hc]; exact hb
      · exact n1 hc
theorem oinit_any {us : List Value} {Q : Value → Shared → Prop} (U : ExB B newId initId bmB) (T : ExI X.K X.mg nm f newId bmB) (I : Inv X pins σ H s) (e : H a = some (exo a (He.ga X.K nm) none)) (hl : us.length ≤ sizeLine) (h : ∀ s', Inv X pins σ H s' → Q .none s') :
    wpAny (model X.prog X.w) A (call (.builtin initId) (.ref a :: us)) Q E s := by
  obtain ⟨_, _, _, _, bm, _, _, _, _, _, _, _, _, _, _, _, hC, hT⟩ := PySem.W.excInit_of I.kIn T.mi
  obtain ⟨t1, ho⟩ := exo_at I.hok e
  obtain ⟨hp, g, d, t, os⟩ := s
  refine wpAny_call (HandSPX.init_base U.F hT hC ho hl fun h' t2 k hx => ?_)
  have J := I.write (t' := t) (x := a) (e := a) (o := exo a (He.ga X.K nm) none) (by rw [e]; exact True.intro) (.inl rfl) k ⟨_, hx⟩ (exo_ok hx)
  have eu : upd H a (exo a (He.ga X.K nm) none) = H := funext fun b => by
    by_cases hb : b = a
    · rw [hb, upd_same, e]
    · rw [upd_ne hb]
  rw [eu] at J
  exact h _ J
end
section
variable {X : Cx} {e : Expr} {es : List Expr} {to te : TE} {ta : TA} {nm f : Str} {p p' p1 p2 pos : Pos} {B newId initId : String} {bmB : List Value} {o : Expr}
def tBI (C : Addr) (ta : TA) : TE := fun σ H Q => ta σ H fun vs H1 => ∃ (a : Addr) (ws : List V), vs = .ref a :: ws ∧ ws.length ≤ 1000 ∧ H1 a = some (exo a C none) ∧ Q .non H1
theorem pe_binit {b : Str} {pl : Sem Bool} (U : ExB B newId initId bmB) (T : ExI X.K X.mg nm f newId bmB) (hg : Gl X b) (hm : X.mg b = none) (hb : bootBuiltins b = some (.type B)) (ha : PA X (e :: es) ta) (d1 : (b == ("__debug__" : Str)) = false) (d2 : b ≠ ("__name__" : Str))
    (hc : eval (.Call (.Attribute (.Name b p1) "__init__" p2) (e :: es) [] pos) X.env = (do
      let ov ← eval (.Name b p1) X.env
      standAt p2.atName
      let (f, first) ← holding [ov] (getMethod ov "__init__" pl)
      callWith pos f first (backTo pos (starEach (e :: es) X.env)) (backToKw pos (keywordEach [] X.env))))
    (he : starEach (e :: es) X.env = (false, eval e X.env) :: starEach es X.env) (hpl : (backTo pos (starEach es X.env)).any (·.1) = false) :
    PE X (.Call (.Attribute (.Name b p1) "__init__" p2) (e :: es) [] pos) (tBI (He.ga X.K nm) ta) := by
  refine ⟨fun pins s σ H Q I h => ?_⟩
  refine PySem.W.methodCall_KW (ld_blt I hg hm hb ?_ d2 d1) hc
  obtain ⟨m, fr⟩ := I.fr
  refine PySem.W.method_type fr I.ok.mod.kin U.ty U.stub (U.fnd _) U.out ?_
  show wpAny _ _ (callWith pos (Value.builtin initId) [] (backTo pos (starEach (e :: es) X.env)) []) _ _ _
  refine PyProof.Rows.callWith_method1 (thn (ha.run pos pins _ σ H _ (I.tok _) h) fun us s1 ⟨vs, H1, I1, r1, a, ws, ev, hl, ea, q⟩ => ?_) he hpl
  subst ev
  cases r1 with
  | @cons _ u0 _ ur ra rw' =>
    obtain rfl : u0 = Value.ref a := ra
    exact oinit_any U T I1 ea (by rw [← Paired.length rw', sizeLine_eq]; omega) fun s' J => ⟨.non, H1, J, rfl, q⟩
def tSt (C : Addr) (f : Str) (to te : TE) : TS := fun D σ H => te σ H fun y H1 => to σ H1 fun x H2 => ∃ a : Addr, x = .ref a ∧ H2 a = some (exo a C none) ∧ ∀ dx, H2 dx = none → dx ≠ a → D.nx σ (upd (upd H2 dx (exd dx [(f, y)])) a (exo a C (some dx)))
theorem ps_first (U : ExB B newId initId bmB) (T : ExI X.K X.mg nm f newId bmB) (ho : PE X o to) (he : PE X e te) (hs : swapsWith e (some (.Attribute o f p')) pos.line X.env = pure false := by rfl) : PS X (.Assign [.Attribute o f p'] e pos) (tSt (He.ga X.K nm) f to te) := by
  refine ⟨fun pins s σ H D I h => ?_⟩
  refine plainObj_wpAny_Assign_Attribute (thn (he.run pins s σ H _ I h) fun v s1 ⟨y, H1, I1, r1, q1⟩ => thn (ho.run pins s1 σ H1 _ I1 q1) fun u s2 ⟨x, H2, I2, r2, a, ex, ea, q⟩ => ?_) hs
  subst ex
  obtain rfl : u = Value.ref a := r2
  exact ost_first U T I2 ea r1 fun dx s' n ne J => ⟨σ, _, J, q dx n ne⟩
end
/-! ### __init__'s promise; C(e) -/
def spInit (K : PySem.W.Frag) (nm f : Str) : Sp := fun vs H Q _ => ∃ (a : Addr) (v : V), vs = [.ref a, v] ∧ H a = some (exo a (He.ga K nm) none) ∧ ∀ dx, H dx = none → dx ≠ a → Q .non (upd (upd H dx (exd dx [(f, v)])) a (exo a (He.ga K nm) (some dx)))
section
variable {P : Program} {w : World} {K : PySem.W.Frag} {mg : Str → Option Value} {base : Heap} {B newId initId : String} {bmB : List Value} {nm f : Str}
theorem ok_init {st : Stmt} {qual x : Str} {fI : Addr} {fd : FuncData} {k : Nat} (F : FunD K x qual (defArgs st) (defBody st) (defScope st) [] [] fI fd) (S : FnScope ["self", f] ["self", f] (defScope st))
    (hder : ∀ (cdv : Value) (A : Around) (outer : List Env) (s : Shared) (H : Hp) (E : XK), ∃ X, X = (cxOf CX0 P w K mg base ["self", f] qual (defScope st) fI cdv A outer s H E).nox ∧ PSs X (defBody st)
      (tSeq (tDrop (tBI (He.ga K nm) (tCons (tVar 0) (tCons (tC (.str "refused")) tNil)))) (tSt (He.ga K nm) f (tVar 0) (tVar 1)))) :
    FnOk P w K mg base CX0 (k + 1) fI fd ["self", f] (spInit K nm f) := by
  refine F.ok S (fun vs H Q E h => by obtain ⟨a, v, rfl, _⟩ := h; rfl) fun cdv A outer s H vs Q E hr h => ?_
  obtain ⟨X, rfl, hd⟩ := hder cdv A outer s H E
  refine ⟨_, hd.nox, ?_⟩
  obtain ⟨a, v, rfl, ea, q⟩ := h
  exact ⟨.ref a, rfl, a, [.str "refused"], rfl, by decide, ea, v, rfl, .ref a, rfl, a, rfl, ea, q⟩
end
section
variable {X : Cx} {e : Expr} {ta : TA} {nm f : Str} {p pos : Pos} {B newId initId : String} {bmB : List Value} {fd : FuncData} {k : Nat}
def tMkX (C : Addr) (f : Str) (ta : TA) : L2.St → Hp → XK → Prop := fun σ H Q => ta σ H fun vs H1 => ∃ v, vs = [v] ∧ ∀ d, H1 d = none → Q (.ref C) (some d) (upd H1 d (.xd [(f, v)]))
theorem pmk_x (U : ExB B newId initId bmB) (T : ExI X.K X.mg nm f newId bmB) (G : FnOk X.prog X.w X.K X.mg X.base CX0 k (He.ma X.K (He.ga X.K nm) "__init__") fd ["self", f] (spInit X.K nm f)) (hb : Binds X.K fd ["self", f] []) (hr : Room (k + 1) X.A) (hg : Gl X nm) (ha : PA X [e] ta)
    (hdb : (nm == ("__debug__" : Str)) = false := by decide) (he : starEach [e] X.env = (false, eval e X.env) :: starEach [] X.env := by rfl) (hpl : (backTo pos (starEach [] X.env)).any (·.1) = false := by rfl) :
    PMk X (.Call (.Name nm p) [e] [] pos) (tMkX (He.ga X.K nm) f ta) := by
  intro pins s σ H Q I h
  refine wpAny_Call_Name_kw (ld_glob I hg T.gC ?_ hdb)
  refine PySem.W.callWith_K (h₀ := X.base) I.ok.mod.kin T.kC (thn (ha.run pos pins s σ H _ I h) fun us s1 ⟨vs, H1, I1, r1, v, ev, q1⟩ => ⟨I1.kIn, ?_⟩) he hpl
  subst ev
  cases r1 with
  | @cons _ u _ _ rv rn =>
    cases rn
    show wpAny _ _ (call (.ref (He.ga X.K nm)) [u]) _ _ _
    obtain ⟨_, _, _, _, bm, _, _, _, _, _, _, _, _, _, _, _, hC, hT⟩ := PySem.W.excInit_of I1.kIn T.mi
    obtain ⟨hp, g, dr, tk, os⟩ := s1
    have hsz : hp.objs.size ≤ hp.objs.size + 1 := Nat.le_succ _
    have hn : H1 (hp.objs.size + 1) = none := I1.hok.fresh hsz
    have kk : ∀ b o, hp.get? b = some o → ((hp.push (PySem.W.kdv_tup [u])).push (HandSPX.excO (He.ga X.K nm) hp.objs.size)).get? b = some o := fun b o z => Heap.get?_push_of_some _ (Heap.get?_push_of_some _ z)
    have hget : ((hp.push (PySem.W.kdv_tup [u])).push (HandSPX.excO (He.ga X.K nm) hp.objs.size)).get? (hp.objs.size + 1) = some (HandSPX.excO (He.ga X.K nm) hp.objs.size) := by heap_get
    have I2 : Inv X pins σ (upd H1 (hp.objs.size + 1) (exo (hp.objs.size + 1) (He.ga X.K nm) none)) ⟨(hp.push (PySem.W.kdv_tup [u])).push (HandSPX.excO (He.ga X.K nm) hp.objs.size), g, dr, tk, os⟩ :=
      I1.laid (t' := tk) (a := hp.objs.size + 1) (o := exo (hp.objs.size + 1) (He.ga X.K nm) none) (h' := (hp.push (PySem.W.kdv_tup [u])).push (HandSPX.excO (He.ga X.K nm) hp.objs.size)) kk hsz (exo_ok hget)
    refine wpAny_call (HandSPX.call_own U.F hT hC (PySem.W.looks_findIn I1.kIn T.iC) (fun self => PySem.W.bind_fn I1.kIn self T.tI) (by rw [sizeLine_eq]; show 1 ≤ _; omega)
      (codeAny_mono (G.run _ X.stack _ _ ⟨[Value.ref (hp.objs.size + 1), u], []⟩ [Value.ref (hp.objs.size + 1), u] [.ref (hp.objs.size + 1), v] (fun v2 H2 => v2 = .non ∧ ∃ d, H1 d = none ∧ d ≠ hp.objs.size + 1 ∧ H2 = upd (upd (upd H1 (hp.objs.size + 1) (exo (hp.objs.size + 1) (He.ga X.K nm) none)) d (exd d [(f, v)])) (hp.objs.size + 1) (exo (hp.objs.size + 1) (He.ga X.K nm) (some d))) (fun _ _ _ => False) (hr.make _ [u] []) (I2.env0.make _ [u] []) (hb _ [Value.ref (hp.objs.size + 1), u] I2.kIn rfl) (.cons rfl (.cons rv .nil))
        ⟨hp.objs.size + 1, v, rfl, upd_same, fun d hd hne => ⟨rfl, d, by rw [upd_ne hne] at hd; exact hd, hne, rfl⟩⟩) fun r s' hq' => ?_))
    cases r with
    | error er => exact (show False from hq').elim
    | ok fl =>
      cases fl with
      | ret u2 =>
        obtain ⟨v2, H2, os2, bare2, un2, hok2, rv2, ev, d, hd1, hne, eH⟩ := hq'
        subst ev
        subst eH
        obtain ⟨h2, g2, d2, t2, os'⟩ := s'
        have na : hp.objs.size + 1 ≠ d := Ne.symm hne
        have eq : upd (del (upd (upd (upd H1 (hp.objs.size + 1) (exo (hp.objs.size + 1) (He.ga X.K nm) none)) d (exd d [(f, v)])) (hp.objs.size + 1) (exo (hp.objs.size + 1) (He.ga X.K nm) (some d))) (hp.objs.size + 1)) d (.xd [(f, v)]) = upd H1 d (.xd [(f, v)]) := funext fun b => by
          by_cases b1 : b = d
          · rw [b1, upd_same, upd_same]
          · rw [upd_ne b1, upd_ne b1]
            by_cases b2 : b = hp.objs.size + 1
            · rw [b2, del_same, hn]
            · rw [del_ne b2, upd_ne b2, upd_ne b1, upd_ne b2]
        refine ⟨rv2, mk_end (Q := Q) (raises_own T.exC T.tyC) I1 hsz kk un2 hok2 os2 bare2 upd_same (by rw [upd_ne hne, upd_same]) hd1 ?_⟩
        rw [eq]
        exact q1 d hd1
      | next => exact False.elim hq'
      | brk => exact False.elim hq'
      | cont => exact False.elim hq'
end
end TL
set_option Elab.async false
set_option linter.all false
set_option maxRecDepth 100000
set_option maxHeartbeats 4000000
/-! raising over data -/
namespace TL
open PySem PySem.Spec PyProof.Rows L2
section
variable {X : Cx} {kr k : Kd} {a b c e : Expr} {es : List Expr} {ma mb : EM} {p pos pos2 : Pos} {nm f : Str} {B newId initId : String} {bmB : List Value}
/-- raise C(e) -/
def sRaise (nm f : Str) (ma : EM) : SM := fun E τ n => ma τ n fun d n1 => E.xx τ ⟨nm, f, d⟩ n1
/-- a class whose instances are made and raised -/
structure ExK (P : Program) (w : World) (K : PySem.W.Frag) (mg : Str → Option Value) (base : Heap) (nm f : Str) (k : Nat) : Prop where
  ex : ∃ (B newId initId : String) (bmB : List Value) (fd : FuncData), ExB B newId initId bmB ∧ ExI K mg nm f newId bmB ∧ FnOk P w K mg base CX0 k (He.ma K (He.ga K nm) "__init__") fd ["self", f] (spInit K nm f) ∧ Binds K fd ["self", f] []
theorem p_raise {P : Program} {w : World} {K : PySem.W.Frag} {mg : Str → Option Value} {base : Heap} {j : Nat} (hc : X.calm = true) (T : ExK P w K mg base nm f j) (hr : Room (j + 1) X.A) (hg : Gl X nm) (ha : E2 X .fz a ma) (hdb : (nm == ("__debug__" : Str)) = false := by decide)
    (he : starEach [a] X.env = (false, eval a X.env) :: starEach [] X.env := by rfl) (hpl : (backTo pos (starEach [] X.env)).any (·.1) = false := by rfl) (hX : XEq P w K mg base X := by exact ⟨rfl, rfl, rfl, rfl, rfl⟩) :
    P2 X kr (.Raise (some (.Call (.Name nm p) [a] [] pos)) none pos2) (sRaise nm f ma) := by
  obtain ⟨rfl, rfl, rfl, rfl, rfl⟩ := hX
  obtain ⟨B, newId, initId, bmB, fd, U, TI, G, hb⟩ := T.ex
  refine ⟨fun W tk => ps_weak (ps_raise hc tk (pmk_x U TI G hb hr hg (pa_cons ha.pe pa_nil he) hdb he hpl)) fun Dd σ H ⟨A, τ, n, F, E, eK, R, p, ed⟩ => ?_⟩
  refine tE_run eK R p fun d n1 v H1 F1 p1 a1 r1 => ⟨v, rfl, fun dd hd => ?_⟩
  have pv : PAdv H1 F1 (upd H1 dd (.xd [(f, v)])) (upd F1 dd (.xd [(f, v)])) := PAdv.new a1.sub hd
  have a2 := a1.trans (pv.adv (R.step a1).box)
  refine ed.xx τ ⟨nm, f, d⟩ n1 σ _ (upd F1 dd (.xd [(f, v)])) _ _ p1 (R.step a2) (a2.fro R.same) ?_
  rw [eK]
  exact ⟨rfl, dd, v, rfl, upd_same, dp_mono (pv.fro a1.sub) d v r1⟩
/-! ### expressions that may raise -/
abbrev EMX := Ev → Nat → (D → Nat → Prop) → (XE → Nat → Prop) → Prop
def tEX (K : PySem.W.Frag) (k : Kd) (W : WX) (m : EMX) : TE := fun σ H Q => ∃ A τ n F P PX, A.K = K ∧ Rel A τ n σ H F ∧ m τ n P PX ∧ (∀ d n' v H' F', P d n' → Adv A.bx n n' H F H' F' → RepK K k H H' F' v d → Q v H') ∧
  ∀ x n' cls dd H' F', PX x n' → Adv A.bx n n' H F H' F' → XRep K F' H' x cls dd → W cls dd σ H'
structure E2X (X : Cx) (k : Kd) (e : Expr) (m : EMX) : Prop where
  pe : ∀ W : WX, Takes X W → PE X e (tEX X.K k W m)
def xLift (m : EM) : EMX := fun τ n P _ => m τ n P
theorem E2.x (h : E2 X k e ma) : E2X X k e (xLift ma) := ⟨fun W tk => pe_weak h.pe fun σ H Q ⟨A, τ, n, F, P, PX, eK, R, hm, hq, hx⟩ => ⟨A, τ, n, F, P, eK, R, hm, hq⟩⟩
theorem E2X.fz {m : EMX} (h : E2X X .nw e m) : E2X X .fz e m := ⟨fun W tk => pe_weak (h.pe W tk) fun σ H Q ⟨A, τ, n, F, P, PX, eK, R, hm, hq, hx⟩ => ⟨A, τ, n, F, P, PX, eK, R, hm, fun d n' v H' F' p a r => by
  obtain ⟨F2, h1, h2, h3, h4⟩ := nw_fz a.sub r
  exact hq d n' v H' F2 p ⟨a.keep, fun c hc => (h1 c hc).trans (a.old c hc), h2, a.box⟩ h4, hx⟩⟩
def xCall (np : Nat) (f : FM) (m : AM) : EMX := fun τ n P PX => m τ n fun ss n1 => ss.length = np ∧ f ss n1 P PX
/-- a def that may let exceptions out -/
structure CalX (P : Program) (w : World) (K : PySem.W.Frag) (mg : Str → Option Value) (base : Heap) (x : Str) (ar : Arguments) (ps : List Str) (k : Nat) (kr : Kd) (m : FM) : Prop where
  ex : ∃ (f : Addr) (fd : FuncData) (qual : Str) (body : List Stmt) (scope : Scope), FunD K x qual ar body scope [] [] f fd ∧ FnOk P w K mg base (L2.CX P w) k f fd ps (Pr K kr ps.length m) ∧ mg x = some (.ref f) ∧ Binds K fd ps []
section
variable {P : Program} {w : World} {K : PySem.W.Frag} {mg : Str → Option Value} {base : Heap} {x : Str} {ar : Arguments} {ps : List Str} {k : Nat} {kr : Kd} {m m' : FM}
theorem CalX.up {j : Nat} (c : CalX P w K mg base x ar ps k kr m) (h : k ≤ j := by decide) : CalX P w K mg base x ar ps j kr m := by
  obtain ⟨f, fd, q, b, s, F, G, g, bi⟩ := c.ex
  exact ⟨f, fd, q, b, s, F, G.mono h, g, bi⟩
theorem ExK.up {nm f : Str} {j : Nat} (c : ExK P w K mg base nm f k) (h : k ≤ j := by decide) : ExK P w K mg base nm f j := by
  obtain ⟨B, newId, initId, bmB, fd, U, TI, G, hb⟩ := c.ex
  exact ⟨B, newId, initId, bmB, fd, U, TI, G.mono h, hb⟩
theorem CalX.mk2 {f : Addr} {fd : FuncData} {q : Str} {b : List Stmt} {s : Scope} (F : FunD K x q ar b s [] [] f fd) (G : FnOk P w K mg base (L2.CX P w) k f fd ps (Pr K kr ps.length m)) (g : mg x = some (.ref f))
    (h : ∀ (kV doc pm : Value) (an : Option Addr) (cdv ct : Value) (us : List Value), us.length = ps.length → bindArgs (PySem.W.fnOf x q ar b s .none kV doc pm an cdv ct) ⟨us, []⟩ = pure (ps.zip us)) : CalX P w K mg base x ar ps k kr m :=
  ⟨f, fd, q, b, s, F, G, g, F.bindsN h⟩
end
theorem xcall_go {K : PySem.W.Frag} {kr : Kd} {np : Nat} {f : FM} {m : AM} {W : WX} {σ : L2.St} {H : Hp} {Q : VK} (h : tEX K kr W (xCall np f m) σ H Q) : tCallS (Pr K kr np f) (WE W) (tA K m) σ H Q := by
  obtain ⟨A, τ, n, F, P, PX, eK, R, hm, hq, hx⟩ := h
  refine ⟨A, τ, n, F, _, eK, R, hm, fun ss n1 vs H1 F1 p1 a1 r1 => ?_⟩
  have R1 := R.step a1
  refine ⟨F1, ss, n1, A.bx, P, PX, p1.1, R1.same, fun b hb => ⟨R1.box b hb, ?_⟩, r1, p1.2, fun d n' v H' F' p' a' r' => ?_, fun x n' cls dd H' F' p' a' r' => hx x n' cls dd H' F' p' (a1.trans a') r'⟩
  · have h0 := R.ok.box b hb
    rw [R1.adv.old b (by rw [h0.1]; exact fun z => nomatch z)]
    exact h0.2
  · exact hq d n' v H' F' p' (a1.trans a') (r'.h0 fun c h => a1.none_back c h)
section
variable {x : Str} {ar : Arguments} {ps : List Str} {j : Nat} {f : FM} {P : Program} {w : World} {K : PySem.W.Frag} {mg : Str → Option Value} {base : Heap}
theorem e_calX {m : AM} (c : CalX P w K mg base x ar ps j kr f) (hr : Room j X.A) (hg : Gl X x) (ha : A2 X (a :: es) m) (hdb : (x == ("__debug__" : Str)) = false := by decide) (he : starEach (a :: es) X.env = (false, eval a X.env) :: starEach es X.env := by rfl) (hpl : (backTo pos (starEach es X.env)).any (·.1) = false := by rfl) (hX : XEq P w K mg base X := by exact ⟨rfl, rfl, rfl, rfl, rfl⟩) :
    E2X X kr (.Call (.Name x p) (a :: es) [] pos) (xCall ps.length f m) := by
  obtain ⟨rfl, rfl, rfl, rfl, rfl⟩ := hX
  obtain ⟨_, fd, q, b, s, F, G, g, bi⟩ := c.ex
  exact ⟨fun W tk => pe_weak (pe_callS G hr hg g F.kp bi (fun σ => passAt tk σ) ha.pa hdb he hpl) fun σ H Q h => xcall_go h⟩
/-- .. called where it raises nothing -/
theorem e_calN {m : AM} (c : CalX P w K mg base x ar ps j kr f) (hr : Room j X.A) (hg : Gl X x) (ha : A2 X (a :: es) m) (hdb : (x == ("__debug__" : Str)) = false := by decide) (he : starEach (a :: es) X.env = (false, eval a X.env) :: starEach es X.env := by rfl) (hpl : (backTo pos (starEach es X.env)).any (·.1) = false := by rfl) (hX : XEq P w K mg base X := by exact ⟨rfl, rfl, rfl, rfl, rfl⟩) :
    E2 X kr (.Call (.Name x p) (a :: es) [] pos) (mCal ps.length f m) := by
  obtain ⟨rfl, rfl, rfl, rfl, rfl⟩ := hX
  obtain ⟨_, fd, q, b, s, F, G, g, bi⟩ := c.ex
  exact ⟨pe_weak (pe_call (E := E0) G hr hg g F.kp bi .nil (fun _ _ _ _ _ _ _ ⟨_, _, _, _, _, _, _, _, _, _, _, _, z⟩ => False.elim z) ha.pa hdb he hpl) fun _ _ _ h => tCall_go h⟩
theorem e_calKWN {ks : List Str} {m : AM} {is : List Nat} {kws : List Keyword} (c : CalX P w K mg base x ar ps j kr f) (hr : Room j X.A) (hg : Gl X x) (hb : KwOk x ar ps 0 ks is) (hkw : K2 X kws m) (hall : (backToKw pos (keywordEach kws X.env)).all (·.1.isSome) = true := by rfl) (hks : (backToKw pos (keywordEach kws X.env)).filterMap (·.1) = ks := by rfl) (hdb : (x == ("__debug__" : Str)) = false := by decide)
    (hpl : ((backTo pos (starEach [] X.env)).any (·.1) || (backToKw pos (keywordEach kws X.env)).any (·.1.isNone)) = false := by rfl) (hX : XEq P w K mg base X := by exact ⟨rfl, rfl, rfl, rfl, rfl⟩) :
    E2 X kr (.Call (.Name x p) [] kws pos) (mCal ps.length f (kPerm 0 ks.length is kNil m)) := by
  obtain ⟨rfl, rfl, rfl, rfl, rfl⟩ := hX
  obtain ⟨_, fd, q, b, s, F, G, g, bi⟩ := c.ex
  exact ⟨pe_weak (pe_callN0 (E := E0) G hr hg g F.kp (kbn F 0 ks is fun kV doc pm an cdv ct us ws l1 l2 => hb q b s kV doc pm an cdv ct us ws l1 l2) (fun _ _ _ _ _ _ _ ⟨_, _, _, _, _, _, _, _, _, _, _, _, z⟩ => False.elim z) hkw.pk hall hks hdb hpl) fun σ H Q h => by
    obtain ⟨A, τ, n, F, P, eK, R, p, hq⟩ := tCallN_go (E := E0) h
    exact hq [] n [] H F p (Adv.refl R.same R.box) .nil⟩
end
def xIf (c : CM) (a b : EMX) : EMX := fun τ n P PX => c τ n fun t n1 => if t = true then a τ n1 P PX else b τ n1 P PX
theorem e_ifX {ca : CM} {m m' : EMX} (hc : T2 X c ca) (ha : E2X X k a m) (hb : E2X X k b m') : E2X X k (.IfExp c a b pos) (xIf ca m m') := by
  refine ⟨fun W tk => pe_weak (pe_ifExp hc.pt (ha.pe W tk) (hb.pe W tk)) fun σ H Q ⟨A, τ, n, F, P, PX, eK, R, hm, hq, hx⟩ => tT_go eK R hm fun d n1 H1 F1 p1 a1 => ?_⟩
  cases d with
  | true => exact iteT ⟨A, τ, n1, F1, P, PX, eK, R.step a1, by simpa using p1, fun d n2 v H2 F2 p2 a2 r2 => hq d n2 v H2 F2 p2 (a1.trans a2) (r2.h0 fun c h => a1.none_back c h), fun x n2 cls dd H2 F2 p2 a2 r2 => hx x n2 cls dd H2 F2 p2 (a1.trans a2) r2⟩
  | false => exact iteF ⟨A, τ, n1, F1, P, PX, eK, R.step a1, by simpa using p1, fun d n2 v H2 F2 p2 a2 r2 => hq d n2 v H2 F2 p2 (a1.trans a2) (r2.h0 fun c h => a1.none_back c h), fun x n2 cls dd H2 F2 p2 a2 r2 => hx x n2 cls dd H2 F2 p2 (a1.trans a2) r2⟩
/-! ### statements over them -/
def sRetX (m : EMX) : SM := fun E τ n => m τ n E.rt fun x n' => E.xx τ x n'
theorem p_retX {m : EMX} (h : E2X X kr a m) : P2 X kr (.Return (some a) pos) (sRetX m) := by
  refine ⟨fun W tk => ps_weak (ps_ret (h.pe W tk)) fun Dd σ H ⟨A, τ, n, F, E, eK, R, p, e⟩ => ⟨A, τ, n, F, _, _, eK, R, p, fun d n' v H' F' p1 a1 r1 => ?_, fun x n' cls dd H' F' p1 a1 r1 => ?_⟩⟩
  · rw [← eK] at r1
    exact e.rt d n' v H' F' p1 (R.adv.trans a1) (r1.h0 fun c h => R.h0some h)
  · rw [← eK] at r1
    exact e.xx τ x n' σ H' F' cls dd p1 (R.step a1) (a1.fro R.same) r1
def sDropX (m : EMX) : SM := fun E τ n => m τ n (fun _ n' => E.nx τ n') fun x n' => E.xx τ x n'
theorem p_exprX2 {m : EMX} (h : E2X X k a m) (hs : swapsWith a none pos.line X.env = pure false := by rfl) : P2 X kr (.Expr a pos) (sDropX m) :=
  ⟨fun W tk => ps_weak (ps_expr (h.pe W tk) hs) fun Dd σ H ⟨A, τ, n, F, E, eK, R, p, e⟩ => ⟨A, τ, n, F, _, _, eK, R, p, fun d n' v H' F' p1 a1 r1 => e.nx τ n' σ H' F' p1 (R.step a1) (a1.fro R.same), fun x n' cls dd H' F' p1 a1 r1 => by
    rw [← eK] at r1
    exact e.xx τ x n' σ H' F' cls dd p1 (R.step a1) (a1.fro R.same) r1⟩⟩
def sSetX2 (k : Kd) (i : Nat) (m : EMX) : SM := fun E τ n => m τ n (fun d n1 => E.nx (τ.set i (some (slOf k d))) n1) fun x n' => E.xx τ x n'
theorem p_setX2 {m : EMX} {i : Nat} {x : Str} {pos' : Pos} (hk : k ≠ .bw) (hN : X.N.Nodup) (hi : X.N[i]? = some x) (hx : Loc X.env.scope x) (h : E2X X k a m) (hs : swapsWith a (some (.Name x pos')) pos.line X.env = pure false := by rfl)
    (hf : X.fn x = true ∨ X.env.scope.names.lookup x = some .local := by first | exact .inl rfl | exact .inr rfl | assumption) : P2 X kr (.Assign [.Name x pos'] a pos) (sSetX2 k i m) :=
  ⟨fun W tk => ps_weak (ps_set hN hi hx (h.pe W tk) hs hf) fun Dd σ H ⟨A, τ, n, F, E, eK, R, p, e⟩ => ⟨A, τ, n, F, _, _, eK, R, p, fun d n1 v H1 F1 p1 a1 r1 => by
    rw [← eK] at r1
    exact e.nx _ n1 _ H1 F1 p1 (R.set1 i hk a1 r1) (a1.fro R.same), fun y n' cls dd H' F' p1 a1 r1 => by
    rw [← eK] at r1
    exact e.xx τ y n' σ H' F' cls dd p1 (R.step a1) (a1.fro R.same) r1⟩⟩
def sAsgX (m : EMX) (g : GM) : SM := fun E τ n => m τ n (fun d n1 => g d τ n1 E.nx) fun x n' => E.xx τ x n'
theorem p_asgX {m : EMX} {tg : Expr} {g : GM} {ws : List Nat} (h : E2X X .fz a m) (hg : G2 X ws tg g) (hs : swapsWithSole [tg] a pos.line X.env = pure false := by rfl) (hw : swappedStores [tg] a X.env = pure none := by rfl)
    (h1 : (assignEach [tg] X.env).map (·.2) = [assign tg X.env] := by rfl) : P2 X kr (.Assign [tg] a pos) (sAsgX m g) :=
  ⟨fun W tk => ps_weak (ps_asg (h.pe W tk) hg.pg hs hw h1) fun Dd σ H ⟨A, τ, n, F, E, eK, R, p, e⟩ => ⟨A, τ, n, F, _, _, eK, R, p, fun d n1 v H1 F1 p1 a1 r1 =>
    ⟨A, τ, n1, F1, _, d, eK, R.step a1, r1, p1, fun τ' n' σ' H' F' p' R' s' a' _ => e.nx τ' n' σ' H' F' p' R' ((a1.fro R.same).trans s')⟩, fun y n' cls dd H' F' p1 a1 r1 => by
    rw [← eK] at r1
    exact e.xx τ y n' σ H' F' cls dd p1 (R.step a1) (a1.fro R.same) r1⟩⟩
/-- x, y = e, e', e may raise -/
def sParX (k1 k2 : Kd) (i j : Nat) (ma : EMX) (mb : EM) : SM := fun E τ n => ma τ n (fun x n1 => mb τ n1 fun y n2 => E.nx ((τ.set i (some (slOf k1 x))).set j (some (slOf k2 y))) n2) fun x n' => E.xx τ x n'
theorem p_parX {k1 k2 : Kd} {i j : Nat} {x y : Str} {m : EMX} {px py pt : Pos} {kt q2 pt2} (hk1 : k1 ≠ .bw) (hk2 : k2 ≠ .bw) (hc : X.calm = true) (hN : X.N.Nodup) (hi : X.N[i]? = some x) (hj : X.N[j]? = some y) (hij : i ≠ j)
    (hx : X.env.scope.names.lookup x = some .local) (hy : X.env.scope.names.lookup y = some .local) (ha : E2X X k1 a m) (hb : E2 X k2 b mb)
    (hw : swappedStores [.Tuple [.Name x px, .Name y py] kt pt] (.Tuple [a, b] q2 pt2) X.env = pure (some [x, y]) := by rfl)
    (hs : swapsWithSole [.Tuple [.Name x px, .Name y py] kt pt] (.Tuple [a, b] q2 pt2) pos.line X.env = pure false := by rfl)
    (s1 : starEach [a, b] X.env = (false, eval a X.env) :: starEach [b] X.env := by rfl) (s2 : starEach [b] X.env = (false, eval b X.env) :: starEach [] X.env := by rfl) :
    P2 X kr (.Assign [.Tuple [.Name x px, .Name y py] kt pt] (.Tuple [a, b] q2 pt2) pos) (sParX k1 k2 i j m mb) := by
  refine ⟨fun W tk => ps_weak (ps_par hc hN hi hj hij hx hy (pa_cons (ha.pe W tk) (pa_cons hb.pe pa_nil s2) s1) hw hs) fun Dd σ H ⟨A, τ, n, F, E, eK, R, p, e⟩ => ⟨A, τ, n, F, _, _, eK, R, p, fun d1 n1 v1 H1 F1 p1 a1 r1 => ?_, fun y n' cls dd H' F' p1 a1 r1 => ?_⟩⟩
  · refine tE_run eK (R.step a1) p1 fun d2 n2 v2 H2 F2 p2 a2 r2 => ?_
    rw [← eK] at r1 r2
    have a12 := a1.trans a2
    refine ⟨v1, v2, rfl, e.nx _ n2 _ H2 F2 p2 ?_ (a12.fro R.same)⟩
    have R1 : Rel A (τ.set i (some (slOf k1 d1))) n2 (σ.set i (some v1)) H2 F2 := (R.set1 i hk1 a1 r1).step a2
    refine R1.set (Hs := H1) j hk2 (fun a h => R.h0some (a1.none_back a h)) (fun l s b hl e1 e0 e2 => ((R.set1 i hk1 a1 r1).own e1 e0 e2).2.2) r2
  · rw [← eK] at r1
    exact e.xx τ y n' σ H' F' cls dd p1 (R.step a1) (a1.fro R.same) r1
/-- e[i], e may raise -/
def xIx (m : EMX) (mb : EM) : EMX := fun τ n P PX => m τ n (fun x n1 => mb τ n1 fun y n2 => dIx x y fun d => P d n2) PX
end
section
variable {P : Program} {w : World} {K : PySem.W.Frag} {mg : Str → Option Value} {base : Heap}
/-- a def that may raise keeps its promise -/
def bodyX (nN : Nat) (b : SM) : FM := bodyM nN fun PX E => b { E with xx := fun _ x n => PX x n }
theorem fn_okX {x qual : Str} {params : Arguments} {body : List Stmt} {scope : Scope} {f : Addr} {fd : FuncData} {N ps : List Str} {k : Nat} {kr : Kd} {b : SM} {mN : Nat}
    (F : FunD K x qual params body scope [] [] f fd) (S : FnScope N ps scope) (hN : N.length = mN) (hkr : kr = .fz ∨ kr = .nw)
    (hbody : ∀ (cdv : Value) (A : Around) (outer : List Env) (s : Shared) (H : Hp) (E : XK), Room k (A.deeper (envOfC qual scope s.heap.objs.size f cdv)) → S2 (cxOf (L2.CX P w) P w K mg base N qual scope f cdv A outer s H E) kr body b)
    (hnx : kr = .nw → ∀ E τ n, b E τ n → b { E with nx := fun _ _ => False } τ n) :
    FnOk P w K mg base (L2.CX P w) (k + 1) f fd ps (Pr K kr ps.length (bodyX mN b)) := by
  refine F.ok S (fun vs H Q E h => Pr.len vs H Q E h) fun cdv A outer s H vs Q E hr h => ⟨_, (hbody cdv A outer s H E hr).ps (fun cls d _ H' => E cls d H') (takes_of rfl rfl rfl rfl), ?_⟩
  obtain ⟨F0, as, n, bx, P', PX, hl, sm, hb, hp, hm, hq, hx⟩ := h
  have R := start_rel (N := N) sm hb hp
  rw [hN] at R
  have xx : ∀ τ x n' σ H' F' cls dd, PX x n' → Rel ⟨K, H, F0, bx, n⟩ τ n' σ H' F' → Same F0 F' → XRep K F' H' x cls dd → E cls dd H' := fun τ x n' σ H' F' cls dd p R' s r => hx x n' cls dd H' F' p R'.adv r
  rcases hkr with rfl | rfl
  · exact ⟨_, _, n, F0, _, rfl, R, hm, ⟨fun τ n' σ H' F' p' R' _ => hq .none n' .non H' F' p' R'.adv .non, fun _ _ _ _ _ z => z.elim, fun _ _ _ _ _ z => z.elim, fun d n' v H' F' p' a' r' => hq d n' v H' F' p' a' r', xx⟩⟩
  · exact ⟨_, _, n, F0, _, rfl, R, hnx rfl _ _ _ hm, ⟨fun _ _ _ _ _ z => z.elim, fun _ _ _ _ _ z => z.elim, fun _ _ _ _ _ z => z.elim, fun d n' v H' F' p' a' r' => hq d n' v H' F' p' a' r', xx⟩⟩
end
end TL
set_option Elab.async false
set_option linter.all false
set_option maxRecDepth 100000
set_option maxHeartbeats 4000000
/-! try: .. except (A, B, ..) as n: m = n -/
namespace TL
open PySem PySem.Spec PyProof.Rows L2
section
variable {M : Model} {A : Around} {E : Value → Shared → Prop} {s : Shared}
theorem forIn_yields {α : Type} {f : α → PUnit → Sem (ForInStep PUnit)} {Q : PUnit → Shared → Prop} : ∀ (cs : List α), (∀ c ∈ cs, ∀ {Q' : ForInStep PUnit → Shared → Prop}, Q' (.yield ⟨⟩) s → wpAny M A (f c ⟨⟩) Q' E s) → Q ⟨⟩ s → wpAny M A (forIn cs PUnit.unit f) Q E s
  | [], _, q => by
    rw [List.forIn_nil]
    exact wpAny_pure q
  | c :: cs, h, q => by
    rw [List.forIn_cons]
    exact wpAny_bind (h c (by simp) (forIn_yields cs (fun c' hc => h c' (List.mem_cons_of_mem _ hc)) q))
theorem forIn_finds {α β : Type} {f : α → β → Sem (ForInStep β)} {bs : α → Bool} {b0 b1 : β} {Q : β → Shared → Prop} : ∀ (cs : List α), (∀ c ∈ cs, ∀ {Q' : ForInStep β → Shared → Prop}, Q' (if bs c = true then .done b1 else .yield b0) s → wpAny M A (f c b0) Q' E s) →
    Q (if cs.any bs = true then b1 else b0) s → wpAny M A (forIn cs b0 f) Q E s
  | [], _, q => by
    rw [List.forIn_nil]
    exact wpAny_pure q
  | c :: cs, h, q => by
    rw [List.forIn_cons]
    refine wpAny_bind (h c (by simp) ?_)
    rw [List.any_cons] at q
    cases e : bs c with
    | true =>
      rw [e] at q
      exact wpAny_pure q
    | false =>
      rw [e] at q
      exact forIn_finds cs (fun c' hc => h c' (List.mem_cons_of_mem _ hc)) q
theorem exm_tupG {K : PySem.W.Frag} {cls : Value} {tp e : Addr} {cs : List Value} {bs : Value → Bool} {h : Heap} {o : Obj} {n : Nat} (X : K.In h) (LT : PySem.W.Looks M h (typeOf (.ref e)) cls) (hp : h.get? tp = some o) (hc : o.cls = .type "tuple") (hd : o.data = .seq cs.toArray n)
    (hx : ∀ c ∈ cs, PySem.W.exmOne K cls c = some (bs c)) : PySem.W.Looks M h (excMatches (.ref e) (.ref tp)) (cs.any bs) := by
  intro A Q E s k₀ q
  obtain ⟨hh, g, d, tk, os⟩ := s
  have k : ∀ b o, h.get? b = some o → hh.get? b = some o := k₀
  have L1 : PySem.W.Looks M h (typeOf (.ref tp)) (.type "tuple") := fun A Q E s k q => wpAny_typeOf_ref (k _ _ hp) (by rw [hc]; exact q)
  have LT0 : PySem.W.Looks M h (isInstance (.ref tp) (.type "tuple")) true := L1.andThen (PySem.W.Looks.of_pure isSubtype_tuple_tuple)
  have LT0 := LT0.keeps k
  have LT := LT.keeps k
  unfold excMatches
  refine wpAny_bind (LT0.at ?_)
  dsimp only
  rw [if_pos rfl]
  first
    | refine wpAny_bind (wpAny_seqItems (k _ _ hp) hd ?_)
    | refine wpAny_bind (wpAny_bind (wpAny_seqItems (k _ _ hp) hd (wpAny_pure ?_)))
  dsimp only [Option.getD_some, Option.getD]
  (try refine wpAny_bind (wpAny_pure ?_))
  refine wpAny_bind (forIn_yields _ (fun c hc2 {Q'} q' => ?_) ?_)
  · have L := (PySem.W.exm_cls (M := M) X (hx c hc2)).1.keeps k
    refine wpAny_bind (L.at ?_)
    simp only [Bool.not_true, Bool.false_eq_true, if_false]
    exact wpAny_pure q'
  · refine wpAny_bind (LT.at ?_)
    refine wpAny_bind (forIn_finds (bs := bs) (b1 := (some true, ())) _ (fun c hc2 {Q'} q' => ?_) ?_)
    · have L := (PySem.W.exm_cls (M := M) X (hx c hc2)).2.keeps k
      refine wpAny_bind (L.at ?_)
      cases e : bs c with
      | true =>
        rw [e] at q'
        simp only [if_true]
        exact wpAny_pure q'
      | false =>
        rw [e] at q'
        simp only [Bool.false_eq_true, if_false]
        exact wpAny_pure q'
    · cases e : cs.any bs with
      | true =>
        rw [e] at q
        simp only [if_true]
        exact wpAny_pure q
      | false =>
        rw [e] at q
        simp only [Bool.false_eq_true, if_false]
        exact wpAny_pure q
/-- names evaluated in a row, nothing else happens -/
inductive EvN (M : Model) (A : Around) (env : Env) (s : Shared) : List Expr → List Value → Prop
  | nil : EvN M A env s [] []
  | cons {e : Expr} {es : List Expr} {v : Value} {vs : List Value} : (∀ {Q : Value → Shared → Prop} {E : Value → Shared → Prop}, Q v s → wpAny M A (eval e env) Q E s) → starEach (e :: es) env = (false, eval e env) :: starEach es env → EvN M A env s es vs → EvN M A env s (e :: es) (v :: vs)
theorem EvN.run {env : Env} {pos : Pos} {es : List Expr} {vs : List Value} {E : Value → Shared → Prop} (h : EvN M A env s es vs) : ∀ {Q : List Value → Shared → Prop}, Q vs s → wpAny M A (spliced (backTo pos (starEach es env))) Q E s := by
  induction h with
  | nil => exact fun q => Calls.spliced_nil q
  | cons h1 h2 r ih =>
    intro Q q
    rw [h2]
    show wpAny _ _ (spliced ((false, eval _ env) :: backTo pos (starEach _ env))) _ _ s
    exact Calls.spliced_cons (h1 (ih q))
end
theorem FlyingZ.keep {base h h' : Heap} {l : List Env} {e : Addr} {Z : Obj → Prop} (k : ∀ b o, h.get? b = some o → h'.get? b = some o) (x : HandSPX.FlyingZ base l e Z h) : HandSPX.FlyingZ base l e Z h' := by
  obtain ⟨h1, h2, h3, oe, vs, T, oT, ts, g1, g2, g3, g4, g5, g6, g7, g8, g9⟩ := x
  exact ⟨fun b o q => k b o (h1 b o q), h2, Heap.FunFrames.of_keeps (fun b o q _ => ⟨o, k b o q, rfl⟩) h3, oe, vs, T, oT, ts, k _ _ g1, g2, g3, g4, g5, g6, k _ _ g7, g8, g9⟩
section
variable {X : Cx} {pins : List (Addr × Obj)} {σ : L2.St} {H : Hp} {sI s' : Shared} {B : Heap}
theorem landedX {a : Addr} {P : Heap → Prop} (I : Inv X pins σ H sI) (nb : ∀ b o, sI.heap.get? b = some o → b ∉ frs X.stack → B.get? b = some o) (st : B.StaysIn s'.heap) (up : sI.heap.UpToSlots s'.heap) (os : s'.os = sI.os) (ag : AllBare s'.gens)
    (na : sI.heap.get? a = none) (ha : H a = none) (ho : ObjOk X.prog X.w (upd H a (.ext P)) s'.heap a (.ext P)) : Inv X pins σ (upd H a (.ext P)) s' := by
  have nf : ∀ b ∈ frs X.stack, ∀ o, sI.heap.get? b = some o → ∃ sl, s'.heap.get? b = some { o with slots := sl } := fun b hb o e => by
    obtain ⟨_, o', e', hd⟩ := I.stack.mem hb
    rw [e] at e'; cases e'
    exact up b o e hd
  have J := I.call (ch := []) (h' := s'.heap) (g' := s'.gens) (t' := s'.toks) (d' := s'.drawn) (H' := upd H a (.ext P))
    ⟨fun b o e _ hb _ => st b o (nb b o e hb), fun b o e _ hb _ => nf b hb o e, fun b o e n _ => by rw [upd_ne (fun z => by rw [z, na] at e; cases e)]; exact n, fun b o e _ => by
      by_cases hb : b ∈ frs X.stack
      · obtain ⟨sl, q⟩ := nf b hb o e
        exact ⟨_, q⟩
      · exact ⟨o, st b o (nb b o e hb)⟩, fun _ _ e => by rw [upd_ne (ne_of_none e ha)]; exact e, fun _ _ _ e => by rw [upd_ne (ne_of_none e ha)]; exact e, fun b ps e => ⟨#[], by rw [upd_ne (ne_of_none e ha), e]; simp⟩⟩
    (fun b o q => by
      by_cases hb : b = a
      · subst hb
        rw [upd_same] at q
        cases q
        exact ho
      · rw [upd_ne hb] at q
        exact (((I.inGround nb).kept st) b o q).stay (fun _ _ _ r => r) (fun c r => by rw [upd_ne (ne_of_none r ha)]; exact r) fun c xs r => by rw [upd_ne (ne_of_none r ha)]; exact r) ag (fun _ z => nomatch z)
  obtain ⟨a1, a2, a3, a4, a5⟩ := s'
  have e5 : a5 = sI.os := os
  subst e5
  exact J
theorem suiteIn (I : Inv X pins σ H sI) (a : Addr) : Inv (X.suite a (X.pn ++ pins)) [] σ H sI :=
  ⟨I.ok.suite _ _, I.os, I.bare, I.base, I.loc, I.cell, I.free, I.freeC, fun p hp => I.pin p (by rw [List.append_nil] at hp; exact hp), I.hok, I.len⟩
theorem suiteOut {a : Addr} (I : Inv (X.suite a (X.pn ++ pins)) [] σ H sI) (ok : X.Ok) : Inv X pins σ H sI :=
  ⟨ok, I.os, I.bare, I.base, I.loc, I.cell, I.free, I.freeC, fun p hp => I.pin p (by show p ∈ (X.pn ++ pins) ++ []; rw [List.append_nil]; exact hp), I.hok, I.len⟩
end
def wKeep (K : PySem.W.Frag) (cs : List Str) (i j : Nat) (Wout : WX) (D : Ends) : WX := fun cls d σ H => ∃ bs : Str → Bool, (∀ c ∈ cs, PySem.W.exmOne K cls (.ref (He.ga K c)) = some (bs c)) ∧
  (cs.any bs = true → ∃ dd, d = some dd ∧ ∀ a, H a = none → D.nx (((σ.set i (some (.ref a))).set j (some (.ref a))).set i none) (upd H a (excHO a cls dd))) ∧ (cs.any bs = false → Wout cls d σ H)
/-- the names of an except clause -/
inductive NmsOk (X : Cx) : List Expr → List Str → Prop
  | nil : NmsOk X [] []
  | cons {x : Str} {p : Pos} {es : List Expr} {cs : List Str} : Gl X x → (x == ("__debug__" : Str)) = false → X.mg x = some (.ref (He.ga X.K x)) → starEach (.Name x p :: es) X.env = (false, eval (.Name x p) X.env) :: starEach es X.env → NmsOk X es cs → NmsOk X (.Name x p :: es) (x :: cs)
theorem evn_of {X : Cx} {a : Addr} {pn pins : List (Addr × Obj)} {σ : L2.St} {H : Hp} {s : Shared} {es : List Expr} {cs : List Str} (I : Inv (X.suite a pn) pins σ H s) (hc : NmsOk X es cs) : EvN (model X.prog X.w) (X.A.mark (some (.ref a))) X.env s es (cs.map fun c => .ref (He.ga X.K c)) := by
  induction hc with
  | nil => exact .nil
  | cons g1 g2 g3 g4 r ih => exact .cons (fun {Q E} q => ld_glob (X := X.suite a pn) I g1 g3 q g2) g4 ih
section
variable {X : Cx} {n m : Str} {i j : Nat} {cs : List Str} {es : List Expr} {body : List Stmt} {st : Stmt} {pos pos' tpos : Pos} {x1} {tb : WX → TS} {Wout : WX}
theorem ps_try_keep (hs : X.stack = X.env :: X.outer) (hf : X.env.frame = some X.env.locals) (hN : X.N.Nodup) (hi : X.N[i]? = some n) (hln : X.env.kindOf n = some .local) (hc : NmsOk X es cs) (hl : cs.length ≤ 100) (tk : Takes X Wout)
    (hb : ∀ (W : WX) (pn : List (Addr × Obj)) (xe : Value → Shared → Prop), Takes (X.tr pn xe) W → PassesOwn (model X.prog X.w) X.A X.env xe → PSs (X.tr pn xe) body (tb W))
    (hsu : ∀ (a : Addr) (pn : List (Addr × Obj)), PSs (X.suite a pn) [st] (tAsg (tVar i) (gName j))) (hij : i ≠ j) :
    PS X (.Try body [.ExceptHandler (some (.Tuple es x1 tpos)) (some n) [st] pos'] [] [] pos) (fun D σ H => tb (wKeep X.K cs i j Wout D) D σ H) := by
  refine ⟨fun pins s σ H D I h => ?_⟩
  have ok := I.ok
  have hfr : X.A.frames = some (X.env :: X.outer) := by rw [ok.frames, hs]
  have hloc : Loc X.env.scope n := .inl hln
  refine wpAny_Try_except ?_
  refine wpAny_mono ((hb (wKeep X.K cs i j Wout D) (X.pn ++ pins) (fun e s₁ => wpAny (model X.prog X.w) X.A (noteFrame e X.env) (fun _ s₂ => wpAny (model X.prog X.w) X.A (setFlight e none) (fun _ s₃ =>
    wpAny (model X.prog X.w) X.A (handleBy e X.env [.ExceptHandler (some (.Tuple es x1 tpos)) (some n) [st] pos']) (SP X pins D) X.xe s₃) X.xe s₂) X.xe s₁) (fun u s' xx => ?_) PassesOwn.looking).run [] s σ H D (I.toTry _) h) (fun f s1 hsp => ?_) (fun e s1 he => he)
  · obtain ⟨a, B, sI, pins', σ', H', cls, d, rfl, J', nb, up, sky, na, os, ag, bs, hbs, hyes, hno⟩ := xx
    have J : Inv X pins σ' H' sI := J'.ofTry ok
    have sky' : Sky B (X.env :: X.outer) a (Zc cls d) X.env.locals s'.heap := by rw [← hs]; exact sky
    show wpAny (model X.prog X.w) X.A (noteFrame (.ref a) X.env) _ _ _
    refine Sky.land Zc.steady hfr hf sky' fun h3 fl3 up3 => ?_
    have J3 : Inv X pins σ' H' { s' with heap := h3 } := J.landed nb fl3.1 (up.trans up3) os ag
    have notFr : ∀ {h : Heap} {o : Obj} {vs : Array Value}, h.FunFrames B (X.env :: X.outer) → h.get? a = some o → o.data = .fields vs → a ∉ frs (X.env :: X.outer) := fun {h o vs} ff e dd hm => by
      obtain ⟨_, o', e', hnf⟩ := ff.mem hm
      rw [e] at e'; cases e'
      exact hnf _ dd
    obtain ⟨oe3, vs3, he3, hz3, hd3⟩ := fl3.there
    have nfr := notFr fl3.2.2.1 he3 hd3
    have naI : sI.heap.get? a = none := by
      cases q : sI.heap.get? a with
      | none => rfl
      | some o =>
        have z := nb a o q (by rw [hs]; exact nfr)
        rw [fl3.2.1] at z
        cases z
    refine wpAny_handleBy_cons (codeAny_handlers_test ?_) (by intro q; cases q)
    have ev : EvN (model X.prog X.w) (X.A.mark (some (.ref a))) X.env { s' with heap := h3 } es (cs.map fun c => .ref (He.ga X.K c)) := evn_of (suiteIn J3 a) hc
    refine wpAny_Tuple_spliced (ev.run ⟨by rw [List.length_map, sizeLine_eq]; omega, ?_⟩)
    have kp : ∀ b o, h3.get? b = some o → (h3.push { cls := .type "tuple", data := .seq (cs.map fun c => Value.ref (He.ga X.K c)).toArray }).get? b = some o := fun b o q => Heap.get?_push_of_some _ q
    have hpz : (h3.push { cls := .type "tuple", data := .seq (cs.map fun c => Value.ref (He.ga X.K c)).toArray }).get? h3.objs.size = some { cls := .type "tuple", data := .seq (cs.map fun c => Value.ref (He.ga X.K c)).toArray } := Heap.get?_push_size _ rfl
    generalize (h3.push { cls := .type "tuple", data := .seq (cs.map fun c => Value.ref (He.ga X.K c)).toArray }) = h5 at kp hpz ⊢
    have J5 : Inv X pins σ' H' { s' with heap := h5 } := J3.kept (t' := s'.toks) kp
    have fl5 := FlyingZ.keep kp fl3
    have up5 : s'.heap.UpToSlots h5 := up3.trans (Heap.UpToSlots.of_keeps kp)
    have he5 := kp _ _ he3
    have LT : PySem.W.Looks (model X.prog X.w) h5 (typeOf (.ref a)) cls := fun A Q E s k q => wpAny_typeOf_ref (k _ _ he5) (by rw [hz3.1]; exact q)
    have LM := exm_tupG (M := model X.prog X.w) (bs := fun v => cs.any fun c => bs c && v == .ref (He.ga X.K c)) J5.kIn LT hpz rfl rfl fun v hv => by
      obtain ⟨c, hc', rfl⟩ := List.mem_map.mp hv
      have e1 := hbs c hc'
      have : (cs.any fun c' => bs c' && (Value.ref (He.ga X.K c) == Value.ref (He.ga X.K c'))) = bs c := by
        cases q : bs c with
        | true =>
          rw [List.any_eq_true]
          exact ⟨c, hc', by simp [q]⟩
        | false =>
          rw [List.any_eq_false]
          intro c' hc2 z
          rw [Bool.and_eq_true, beq_iff_eq] at z
          obtain ⟨z1, z2⟩ := z
          have e2 := hbs c' hc2
          rw [← z2, e1, q, z1] at e2
          cases e2
      rw [this]
      exact e1
    have eb : ((cs.map fun c => Value.ref (He.ga X.K c)).any fun v => cs.any fun c => bs c && v == .ref (He.ga X.K c)) = cs.any bs := by
      rw [List.any_map]
      cases q : cs.any bs with
      | true =>
        obtain ⟨c, hc1, hc2⟩ := List.any_eq_true.mp q
        rw [List.any_eq_true]
        exact ⟨c, hc1, List.any_eq_true.mpr ⟨c, hc1, by simp [hc2]⟩⟩
      | false =>
        rw [List.any_eq_false]
        intro c hc1 z
        obtain ⟨c', hc2, z2⟩ := List.any_eq_true.mp z
        have : bs c' = true := by
          rw [Bool.and_eq_true] at z2
          exact z2.1
        have w := List.any_eq_false.mp q c' hc2
        exact w this
    rw [eb] at LM
    refine LM.here ?_
    cases q : cs.any bs with
    | true =>
      obtain ⟨dd, rfl, hy⟩ := hyes q
      refine codeAny_handlers_suite_as ?_
      refine HandSPX.lands_againZ fl5 fun h4 fl4 up4 => ?_
      obtain ⟨oe4, vs4, he4, hz4, hd4⟩ := fl4.there
      have hoe : ObjOk X.prog X.w (upd H' a (excHO a cls dd)) h4 a (excHO a cls dd) := ⟨⟨oe4, he4, hz4.1, hz4.2, vs4, hd4⟩, ⟨_, he4⟩, fun h1 h2 ⟨o, z1, z2⟩ k => ⟨o, k _ z1, z2⟩⟩
      have J4 : Inv X pins σ' (upd H' a (excHO a cls dd)) { s' with heap := h4 } := landedX (s' := { s' with heap := h4 }) J nb fl4.1 ((up.trans up5).trans up4) os ag naI na hoe
      refine store_ok (X := X.suite a (X.pn ++ pins)) (v := .ref a) (suiteIn J4 a) hN hi hloc rfl (fun s5 S5 => ?_) (.inr hln)
      have hlen : i < σ'.length := by
        have z := (List.getElem?_eq_some_iff.mp hi).1
        have y := J.len
        omega
      refine wpAny_mono ((hsu a (X.pn ++ pins)).run [] s5 _ _ { nx := fun σ2 H2 => σ2 = (σ'.set i (some (.ref a))).set j (some (.ref a)) ∧ H2 = upd H' a (excHO a cls dd), rt := fun _ _ => False } S5 ⟨.ref a, List.getElem?_set_self hlen, rfl, rfl⟩) (fun f s6 hsp => ?_) (fun _ _ z => False.elim z)
      cases f with
      | next =>
        obtain ⟨σ6, H6, S6, rfl, rfl⟩ := hsp
        exact gone_ok (suiteOut S6 ok) hN hi hln fun s7 J7 => ⟨_, _, J7, hy a na⟩
      | brk => obtain ⟨_, _, _, z⟩ := hsp; exact z.elim
      | cont => obtain ⟨_, _, _, z⟩ := hsp; exact z.elim
      | ret u => obtain ⟨_, _, _, _, _, z⟩ := hsp; exact z.elim
    | false =>
      show wpAny _ X.A (handleBy (.ref a) X.env []) _ _ _
      refine wpAny_handleBy_nil ?_
      obtain ⟨k1, k2, k3, oe, vs, T, oT, ts', he, hz, hd, h1, hr⟩ := id fl5
      unfold PySem.passOn
      refine wpAny_bind (wpAny_field he hd h1 ?_)
      rw [if_neg (show ¬ ((Value.ref T == Value.none) = true) from by simp)]
      have fin : wpAny (model X.prog X.w) X.A (setFlight (.ref a) X.env.frame) (fun _ s4 => wpAny (model X.prog X.w) X.A (throw (.ref a) : Sem Flow) (SP X pins D) X.xe s4) X.xe { s' with heap := h5 } := by
        rw [hf]
        refine HandSPX.setFlight_upZ fl5 fun h4 hh4 up4 => wpAny_throw (tk _ _ ?_)
        exact ⟨a, B, sI, pins, σ', H', cls, d, rfl, J, nb, (up.trans up5).trans up4, .inr (.inr (by rw [hs]; exact hh4)), na, os, ag, hno q⟩
      first
        | exact wpAny_bind (wpAny_pure (wpAny_bind fin))
        | exact wpAny_bind fin
  · cases f with
    | next =>
      obtain ⟨σ', H', J', q⟩ := hsp
      exact wpAny_execs_nil ⟨σ', H', J'.ofTry ok, q⟩
    | brk =>
      obtain ⟨σ', H', J', q⟩ := hsp
      exact ⟨σ', H', J'.ofTry ok, q⟩
    | cont =>
      obtain ⟨σ', H', J', q⟩ := hsp
      exact ⟨σ', H', J'.ofTry ok, q⟩
    | ret u =>
      obtain ⟨v, σ', H', J', r, q⟩ := hsp
      exact ⟨v, σ', H', J'.ofTry ok, r, q⟩
end
end TL
set_option Elab.async false
set_option linter.all false
set_option maxRecDepth 100000
set_option maxHeartbeats 4000000
/-! caught exceptions as data: try, isinstance, the field -/
namespace TL
open PySem PySem.Spec PyProof.Rows L2
/-- the built-in class above -/
inductive Bk where
  | ve | le | re | oe
def Bk.mro : Bk → List String
  | .ve => ["ValueError", "Exception", "BaseException", "object"]
  | .le => ["LookupError", "Exception", "BaseException", "object"]
  | .re => ["RuntimeError", "Exception", "BaseException", "object"]
  | .oe => ["OverflowError", "ArithmeticError", "Exception", "BaseException", "object"]
def Bk.bm (b : Bk) : List Value := b.mro.map .type
def Bk.new : Bk → String
  | .ve => "ValueError.__new__"
  | .le => "LookupError.__new__"
  | .re => "RuntimeError.__new__"
  | .oe => "OverflowError.__new__"
abbrev ExL := List (Str × Str × Bk)
/-- a class asked about -/
inductive Cn where
  | own (x : Str)
  | ty (n : String)
def Cn.v (K : PySem.W.Frag) : Cn → V
  | .own x => .ref (He.ga K x)
  | .ty n => .ty n
def Cn.u (K : PySem.W.Frag) : Cn → Value
  | .own x => .ref (He.ga K x)
  | .ty n => .type n
def isX (L : ExL) (x : Str) : Cn → Bool
  | .own y => decide (x = y)
  | .ty n => match L.lookup x with
    | some (_, b) => b.mro.contains n
    | none => false
def cnsOf (L : ExL) : List Cn := L.map (fun p => .own p.1) ++ [.ty "ValueError", .ty "LookupError", .ty "RuntimeError", .ty "OverflowError", .ty "KeyError", .ty "IndexError"]
def exTB (K : PySem.W.Frag) (L : ExL) : Bool :=
  (L.all fun p => exiB K p.1 p.2.1 p.2.2.new p.2.2.bm && ((L.all fun q => decide (PySem.W.exmOne K (.ref (He.ga K p.1)) (.ref (He.ga K q.1)) = some (decide (p.1 = q.1)))) && (cnsOf L).all fun c => decide (PySem.W.kitOne K (.ref (He.ga K p.1)) (c.u K) = some (isX L p.1 c)))) &&
    (cnsOf L).all fun c => decide (PySem.W.kitOne K (.type "NoneType") (c.u K) = some false)
structure XT (K : PySem.W.Frag) (mg : Str → Option Value) (L : ExL) : Prop where
  i : ∀ p ∈ L, ExI K mg p.1 p.2.1 p.2.2.new p.2.2.bm
  m : ∀ p ∈ L, ∀ q ∈ L, PySem.W.exmOne K (.ref (He.ga K p.1)) (.ref (He.ga K q.1)) = some (decide (p.1 = q.1))
  k : ∀ p ∈ L, ∀ c ∈ cnsOf L, PySem.W.kitOne K (.ref (He.ga K p.1)) (c.u K) = some (isX L p.1 c)
  n : ∀ c ∈ cnsOf L, PySem.W.kitOne K (.type "NoneType") (c.u K) = some false
theorem xt_ok {K : PySem.W.Frag} {h : Heap} {mg : Str → Option Value} {L : ExL} (X : K.In h) (G : h.Ns mainGlobals mg) (c : exTB K L = true) : XT K mg L := by
  unfold exTB at c
  rw [Bool.and_eq_true, List.all_eq_true, List.all_eq_true] at c
  obtain ⟨c1, c2⟩ := c
  refine ⟨fun p hp => ?_, fun p hp q hq => ?_, fun p hp q hq => ?_, fun q hq => of_decide_eq_true (c2 q hq)⟩ <;> (have z := c1 p hp; rw [Bool.and_eq_true, Bool.and_eq_true, List.all_eq_true, List.all_eq_true] at z; obtain ⟨z1, z2, z3⟩ := z)
  · exact exi_ok X G z1
  · exact of_decide_eq_true (z2 q hq)
  · exact of_decide_eq_true (z3 q hq)
section
variable {X : Cx} {kr : Kd} {a c e : Expr} {es : List Expr} {ma : EM} {p pos pos' tpos apos : Pos} {L : ExL}
/-! ### isinstance -/
theorem kitAny_any {K : PySem.W.Frag} {t : Value} {f : Cn → Bool} : ∀ {cs : List Cn}, (∀ c ∈ cs, PySem.W.kitOne K t (c.u K) = some (f c)) → PySem.W.kitAny K t (cs.map (Cn.u K)) = some (cs.any f)
  | [], _ => rfl
  | c :: cs, h => by
    have ih := kitAny_any (cs := cs) fun c' hc => h c' (List.mem_cons_of_mem _ hc)
    rw [List.map_cons, List.any_cons]
    refine kitAny_cons (h c (by simp)) (fun z => ?_) fun z => ?_
    · rw [ih, z, Bool.false_or]
    · rw [z, Bool.true_or]
def rIsX (K : PySem.W.Frag) (L : ExL) (cs : List Cn) : List V → Hp → VK → Prop := fun xs H Q => ∃ (x cv : V) (b : Bool), xs = [x, cv] ∧ ((∃ c, cs = [c] ∧ cv = c.v K) ∨ ∃ tp, cv = .ref tp ∧ H tp = some (.tup (cs.map (Cn.v K)))) ∧
  ((x = .non ∧ b = false) ∨ ∃ (a d : Addr) (q : Str × Str × Bk) (fs : List (Str × V)), x = .ref a ∧ H a = some (excHO a (.ref (He.ga K q.1)) d) ∧ H d = some (.xd fs) ∧ q ∈ L ∧ b = cs.any (isX L q.1)) ∧ Q (.bl b) H
theorem cn_rel {K : PySem.W.Frag} {c : Cn} {u : Value} (r : RelV (c.v K) u) : u = c.u K := by
  cases c with
  | own x => exact r
  | ty n => exact r
theorem cn_all {K : PySem.W.Frag} : ∀ {cs : List Cn} {us : List Value}, Vals (cs.map (Cn.v K)) us → us = cs.map (Cn.u K)
  | [], _, .nil => rfl
  | c :: cs, _, .cons r t => by
    rw [List.map_cons, ← cn_all t, ← cn_rel r]
theorem call_isX {cs : List Cn} (T : XT X.K X.mg L) (hcs : ∀ c ∈ cs, c ∈ cnsOf L) : CallR X (.builtin "isinstance") (rIsX X.K L cs) := by
  intro pins s σ H xs us Q I r h
  obtain ⟨x, cv, b, rfl, hc, hx, q⟩ := h
  obtain ⟨u1, u2, rfl, r1, r2⟩ := vals2 r
  have key : ∃ (t : Value) (P : Heap → Prop), PySem.W.KitX X.K u1 t P ∧ P s.heap ∧ u1 ≠ .builtin "__main__.__loader__#opaque" ∧ ∃ f : Cn → Bool, (∀ c ∈ cs, PySem.W.kitOne X.K t (c.u X.K) = some (f c)) ∧ b = cs.any f := by
    rcases hx with ⟨rfl, rfl⟩ | ⟨a, d, w, fs, rfl, ha, hd, hL, rfl⟩
    · cases (show u1 = Value.none from r1)
      exact ⟨_, _, PySem.W.kitx_none, True.intro, (fun z => nomatch z), fun _ => false, fun c hc' => T.n c (hcs c hc'), by simp⟩
    · cases (show u1 = Value.ref a from r1)
      have Ti := T.i w hL
      obtain ⟨⟨o, e1, e2, e3, vs, e4⟩, _⟩ := (show ObjOk X.prog X.w H s.heap a (excHO a (.ref (He.ga X.K w.1)) d) from I.hok a _ ha)
      obtain ⟨mA, hns, _⟩ := (show ObjOk X.prog X.w H s.heap d (.xd fs) from I.hok d _ hd)
      obtain ⟨od, ho, _⟩ := lookIn_ns hns
      have J : PySem.W.InstAt s.heap a o (He.ga X.K w.1) (some od) := ⟨e1, e2, by unfold PySem.W.notCls; rw [e4] <;> rfl, by rw [e3]; exact ho⟩
      have hcl : (PySem.W.clsIn X.K (He.ga X.K w.1)).isSome = true := by
        obtain ⟨cd, hc, _⟩ := PySem.W.any_some Ti.hd
        rw [hc]; rfl
      exact ⟨_, _, PySem.W.kitx_exc (od := some od) hcl Ti.ga Ti.gg Ti.exC Ti.cl Ti.cn Ti.ct Ti.hm, J, (fun z => nomatch z), isX L w.1, fun c hc' => T.k w hL c (hcs c hc'), rfl⟩
  obtain ⟨t, P, Z, hP, hn, f, hf, rfl⟩ := key
  rcases hc with ⟨c, rfl, rfl⟩ | ⟨tp, rfl, hT⟩
  · have e2 := cn_rel r2
    subst e2
    have e := hf c (by simp)
    have eb : [c].any f = f c := by simp
    rw [eb] at q
    exact PySem.W.kia_one Z I.kIn hP e hn fun tk => ⟨.bl (f c), H, I.tok tk, rfl, q⟩
  · cases (show u2 = Value.ref tp from r2)
    obtain ⟨_, its, rv, o, h1, h2, n, h3⟩ := (show ObjOk X.prog X.w H s.heap tp (.tup (cs.map (Cn.v X.K))) from I.hok tp _ hT)
    have e3 := cn_all rv
    subst e3
    obtain ⟨oc, od, dt, sl⟩ := o
    simp only at h2 h3
    subst h2 h3
    exact PySem.W.kia_tup Z I.kIn hP h1 (kitAny_any hf) hn fun tk => ⟨.bl (cs.any f), H, I.tok tk, rfl, q⟩
/-- what is asked: None, or a caught exception -/
def dIsX (L : ExL) (cs : List Cn) : Op1 := fun x P => (x = .none ∧ P (.bool false)) ∨ ∃ c f v, x = excD c f v ∧ (∃ b, (c, f, b) ∈ L) ∧ P (.bool (cs.any (isX L c)))
theorem isx_go {cs : List Cn} {H0 H F : Hp} {v cv : V} {d : D} {P : D → Prop} {Q : VK} (s : Same F H) (r : RepK X.K .bw H0 H F v d) (h : dIsX L cs d P) (hc : (∃ c, cs = [c] ∧ cv = c.v X.K) ∨ ∃ tp, cv = .ref tp ∧ H tp = some (.tup (cs.map (Cn.v X.K)))) (hq : ∀ b, P (.bool b) → Q (.bl b) H) : rIsX X.K L cs [v, cv] H Q := by
  rcases h with ⟨rfl, p⟩ | ⟨c, f, x, rfl, ⟨b, hb⟩, p⟩
  · exact ⟨v, cv, false, rfl, hc, .inl ⟨bw_none r, rfl⟩, hq _ p⟩
  · have r : Dp X.K H v (excD c f x) := bw_dp s r
    cases r with
    | exc h1 h2 h3 => exact ⟨_, cv, _, rfl, hc, .inr ⟨_, _, (c, f, b), _, rfl, h1, h2, hb, rfl⟩, hq _ p⟩
theorem e_isX {b : Expr} {cn : Cn} (T : XT X.K X.mg L) (hcn : cn ∈ cnsOf L) (hg : Gl X "isinstance") (hm : X.mg "isinstance" = none) (ha : E2 X .bw a ma) (hb : PE X b (tC (cn.v X.K))) (he : starEach [a, b] X.env = (false, eval a X.env) :: starEach [b] X.env := by rfl) (he2 : starEach [b] X.env = (false, eval b X.env) :: starEach [] X.env := by rfl)
    (hpl : (backTo pos (starEach [b] X.env)).any (·.1) = false := by rfl) : E2 X .fz (.Call (.Name "isinstance" p) [a, b] [] pos) (m1 (dIsX L [cn]) ma) := by
  refine ⟨pe_weak (pe_callB (call_isX (cs := [cn]) T fun c hc => by rw [List.mem_singleton.mp hc]; exact hcn) hg hm PyProof.Rows.boot_isinstance (pa_cons ha.pe (pa_cons hb pa_nil he2) he) (by decide) (by decide) he hpl) fun σ H Q ⟨A, τ, n, F, P, eK, R, hm, hq⟩ => tE_run eK R hm fun d n1 v1 H1 F1 p1 a1 r1 => ?_⟩
  exact isx_go a1.sub r1 p1 (.inl ⟨cn, rfl, rfl⟩) fun b p => hq _ n1 _ H1 F1 p a1 (.bl b)
theorem e_isXT {cs : List Cn} {x1 tp} (T : XT X.K X.mg L) (hcs : ∀ c ∈ cs, c ∈ cnsOf L) (hl : cs.length ≤ 100) (hg : Gl X "isinstance") (hm : X.mg "isinstance" = none) (ha : E2 X .bw a ma) (hb : PA X es (fun σ H Q => Q (cs.map (Cn.v X.K)) H)) (he : starEach [a, .Tuple es x1 tp] X.env = (false, eval a X.env) :: starEach [.Tuple es x1 tp] X.env := by rfl)
    (he2 : starEach [.Tuple es x1 tp] X.env = (false, eval (.Tuple es x1 tp) X.env) :: starEach [] X.env := by rfl) (hpl : (backTo pos (starEach [.Tuple es x1 tp] X.env)).any (·.1) = false := by rfl) : E2 X .fz (.Call (.Name "isinstance" p) [a, .Tuple es x1 tp] [] pos) (m1 (dIsX L cs) ma) := by
  refine ⟨pe_weak (pe_callB (call_isX (cs := cs) T hcs) hg hm PyProof.Rows.boot_isinstance (pa_cons ha.pe (pa_cons (pe_tup hb) pa_nil he2) he) (by decide) (by decide) he hpl) fun σ H Q ⟨A, τ, n, F, P, eK, R, hm, hq⟩ => tE_run eK R hm fun d n1 v1 H1 F1 p1 a1 r1 => ?_⟩
  refine ⟨by rw [List.length_map, sizeLine_eq]; omega, fun q hp => ?_⟩
  have b1 : PAdv H1 F1 (upd H1 q (.tup (cs.map (Cn.v X.K)))) F1 := PAdv.new' a1.sub hp
  have r2 : RepK X.K .bw H (upd H1 q (.tup (cs.map (Cn.v X.K)))) F1 v1 d := bw_adv r1 (b1.adv (R.step a1).box) a1.sub (R.step a1).box
  exact isx_go b1.sub r2 p1 (.inr ⟨q, rfl, upd_same⟩) fun b p => hq _ n1 _ _ F1 p (a1.trans (b1.adv (R.step a1).box)) (.bl b)
theorem pac_nil : PA X [] (fun σ H Q => Q (([] : List Cn).map (Cn.v X.K)) H) := pa_nil
theorem pac_cons {cn : Cn} {cs : List Cn} (ha : PE X a (tC (cn.v X.K))) (hr : PA X es (fun σ H Q => Q (cs.map (Cn.v X.K)) H)) (hs : starEach (a :: es) X.env = (false, eval a X.env) :: starEach es X.env := by rfl) : PA X (a :: es) (fun σ H Q => Q ((cn :: cs).map (Cn.v X.K)) H) := pa_cons ha hr hs
theorem pe_own {x : Str} (T : XT X.K X.mg L) (hg : Gl X x) (hx : L.any (fun p => p.1 == x) = true) (hd : (x == ("__debug__" : Str)) = false := by decide) : PE X (.Name x p) (tC ((Cn.own x).v X.K)) := by
  obtain ⟨q, h1, h2⟩ := List.any_eq_true.mp hx
  have e : q.1 = x := by simpa using h2
  have := (T.i q h1).gC
  rw [e] at this
  exact pe_glob (v := .ref (He.ga X.K x)) hg this rfl hd
/-! ### the field of a caught exception -/
def dAtt (L : ExL) (f : Str) : Op1 := fun x P => ∃ c v, x = excD c f v ∧ (∃ b, (c, f, b) ∈ L) ∧ P v
theorem e_attX {f : Str} (T : XT X.K X.mg L) (ha : E2 X .fz a ma) (hb : attributeBase a f X.env (eval a X.env) = eval a X.env := by rfl) : E2 X .fz (.Attribute a f pos) (m1 (dAtt L f) ma) := by
  have pe : PE X (.Attribute a f pos) (fun σ H Q => tE X.K .fz ma σ H fun x H1 => ∃ (a d : Addr) (q : Str × Str × Bk) (v : V), x = .ref a ∧ H1 a = some (excHO a (.ref (He.ga X.K q.1)) d) ∧ H1 d = some (.xd [(f, v)]) ∧ q ∈ L ∧ q.2.1 = f ∧ Q v H1) := by
    refine ⟨fun pins s σ H Q I h => ?_⟩
    refine attr_of hb (thn (ha.pe.run pins s σ H _ I h) fun u s1 ⟨x, H1, I1, rx, a', d, q, v, ex, h1, h2, hL, hf, hq⟩ => ?_)
    subst ex
    obtain rfl : u = Value.ref a' := rx
    have Ti := T.i q hL
    obtain ⟨⟨o, e1, e2, e3, vs, e4⟩, _⟩ := (show ObjOk X.prog X.w H1 s1.heap a' (excHO a' (.ref (He.ga X.K q.1)) d) from I1.hok a' _ h1)
    obtain ⟨mA, hns, hr⟩ := (show ObjOk X.prog X.w H1 s1.heap d (.xd [(f, v)]) from I1.hok d _ h2)
    obtain ⟨od, ho, hl⟩ := lookIn_ns hns
    have l : List.lookup f [(f, v)] = some v := by simp [List.lookup]
    obtain ⟨u, hu, ru⟩ := RelO.some_of (v := v) (o := mA f) (by rw [← l]; exact hr f)
    have J : PySem.W.InstAt s1.heap a' o (He.ga X.K q.1) (some od) := ⟨e1, e2, by unfold PySem.W.notCls; rw [e4] <;> rfl, by rw [e3]; exact ho⟩
    have hno := Ti.noN
    rw [hf] at hno
    exact HandSPX.exc_get I1.kIn J Ti.ga Ti.gg Ti.exC (PySem.W.findObj_own Ti.hd hno rfl (by rw [hl, hu])) (handed_of ru) ⟨v, H1, I1.tok _, ru, hq⟩
  refine ⟨pe_weak pe fun σ H Q ⟨A, τ, n, F, P, eK, R, hm, hq⟩ => tE_run eK R hm ?_⟩
  rintro d n1 v1 H1 F1 ⟨c, x, rfl, ⟨b, hb⟩, p⟩ a1 r1
  have r1 : Dp X.K F1 v1 (excD c f x) := r1
  cases r1 with
  | exc h1 h2 h3 => exact ⟨_, _, (c, f, b), _, rfl, a1.sub _ _ h1, a1.sub _ _ h2, hb, rfl, hq _ n1 _ H1 F1 p a1 h3⟩
/-! ### try -/
theorem Rel.unset {A : Act} {τ : Ev} {n : Nat} {σ : L2.St} {H F : Hp} {i : Nat} {x : Option V} (R : Rel A τ n σ H F) (h : ∀ s, τ[i]? ≠ some (some s)) : Rel A τ n (σ.set i x) H F := by
  have ne : ∀ {j : Nat} {s : Sl}, τ[j]? = some (some s) → j ≠ i := fun {j s} e z => by subst z; exact h s e
  refine ⟨R.ok, by rw [List.length_set]; exact R.len, R.adv, fun j s e => ?_, fun j l a s s' hj e1 o1 e2 o2 => ?_⟩
  · rw [List.getElem?_set_ne (Ne.symm (ne e))]
    exact R.sl j s e
  · rw [List.getElem?_set_ne (Ne.symm (ne e1)), List.getElem?_set_ne (Ne.symm (ne e2))]
    exact R.dis j l a s s' hj e1 o1 e2 o2
/-- what happens to an exception of the body -/
def tryX (L : ExL) (cs : List Str) (i j : Nat) (E : En) : Ev → XE → Nat → Prop := fun τ x n => (∃ b, (x.cls, x.fld, b) ∈ L) ∧ if cs.contains x.cls = true then E.nx ((τ.set i none).set j (some (.d (excD x.cls x.fld x.val)))) n else E.xx τ x n
def sTry (L : ExL) (cs : List Str) (i j : Nat) (mb : SM) : SM := fun E τ n => mb { E with xx := tryX L cs i j E } τ n
theorem nms_cons {x : Str} {cs : List Str} (T : XT X.K X.mg L) (hx : L.any (fun p => p.1 == x) = true) (hg : Gl X x) (r : NmsOk X es cs) (hd : (x == ("__debug__" : Str)) = false := by decide) (hs : starEach (.Name x p :: es) X.env = (false, eval (.Name x p) X.env) :: starEach es X.env := by rfl) : NmsOk X (.Name x p :: es) (x :: cs) := by
  obtain ⟨q, h1, h2⟩ := List.any_eq_true.mp hx
  have e : q.1 = x := by simpa using h2
  have := (T.i q h1).gC
  rw [e] at this
  exact .cons hg hd this hs r
theorem p_try {n : Str} {i j : Nat} {cs : List Str} {body : List Stmt} {st : Stmt} {x1} {mb : SM} (T : XT X.K X.mg L) (hcs : cs.all (fun c => L.any fun p => p.1 == c) = true) (hs : X.stack = X.env :: X.outer) (hf : X.env.frame = some X.env.locals) (hN : X.N.Nodup) (hi : X.N[i]? = some n) (hln : X.env.kindOf n = some .local) (hc : NmsOk X es cs) (hl : cs.length ≤ 100) (hij : i ≠ j)
    (hb : ∀ (pn : List (Addr × Obj)) (xe : Value → Shared → Prop), PassesOwn (model X.prog X.w) X.A X.env xe → S2 (X.tr pn xe) kr body mb)
    (hsu : ∀ (a : Addr) (pn : List (Addr × Obj)), PSs (X.suite a pn) [st] (tAsg (tVar i) (gName j))) :
    P2 X kr (.Try body [.ExceptHandler (some (.Tuple es x1 tpos)) (some n) [st] pos'] [] [] pos) (sTry L cs i j mb) := by
  refine ⟨fun Wx tk => ps_weak (ps_try_keep (tb := fun W => tS X.K kr W mb) hs hf hN hi hln hc hl tk (fun W pn xe tk' po => (hb pn xe po).ps W tk') hsu hij) fun Dd σ H ⟨A, τ, n0, F, E, eK, R, p, e⟩ => ⟨A, τ, n0, F, _, eK, R, p, e.nx, e.bk, e.ct, e.rt, fun τ' x n' σ' H' F' cls dd px R' s' xr => ?_⟩⟩
  obtain ⟨rfl, d, v, rfl, h1, h2⟩ := xr
  obtain ⟨⟨b, hb⟩, px⟩ := px
  rw [eK] at h2 ⊢
  have eb : cs.any (fun c => decide (x.cls = c)) = cs.contains x.cls := by
    rw [List.contains_eq_any_beq]
    refine congrArg (fun f => cs.any f) (funext fun c => ?_)
    by_cases z : x.cls = c
    · subst z; simp
    · simp [z]
  refine ⟨fun c => decide (x.cls = c), fun c hc' => ?_, fun q => ?_, fun q => ?_⟩
  · obtain ⟨q, h3, h4⟩ := List.any_eq_true.mp (List.all_eq_true.mp hcs c hc')
    have e4 : q.1 = c := by simpa using h4
    rw [← e4]
    exact T.m _ hb q h3
  · rw [eb] at q
    rw [if_pos q] at px
    refine ⟨d, rfl, fun a na => ?_⟩
    have pv : PAdv H' F' (upd H' a (excHO a (.ref (He.ga X.K x.cls)) d)) (upd F' a (excHO a (.ref (He.ga X.K x.cls)) d)) := PAdv.new R'.same na
    have R1 := R'.step (pv.adv R'.box)
    have R2 := Rel.gone (v := .ref a) i R1 (Adv.refl R1.same R1.box)
    have hx : Dp A.K (upd F' a (excHO a (.ref (He.ga X.K x.cls)) d)) (.ref a) (excD x.cls x.fld x.val) := by
      rw [eK]
      exact .exc upd_same ((pv.fro R'.same) _ _ h1) (dp_mono (pv.fro R'.same) _ _ h2)
    have R3 := R2.setS (s := .d (excD x.cls x.fld x.val)) j (v := .ref a) hx fun z => by cases z
    have R4 := Rel.unset (i := i) (x := none) R3 fun s z => by
      rw [List.getElem?_set_ne (Ne.symm hij)] at z
      by_cases hi2 : i < τ'.length
      · rw [List.getElem?_set_self hi2] at z; cases z
      · rw [List.getElem?_eq_none (by rw [List.length_set]; omega)] at z; cases z
    exact e.nx _ n' _ _ _ px R4 (s'.trans (pv.fro R'.same))
  · rw [eb] at q
    rw [if_neg (by rw [q]; exact Bool.false_ne_true)] at px
    exact e.xx τ' x n' σ' H' F' _ _ px R' s' ⟨by rw [eK], d, v, rfl, h1, by rw [eK]; exact h2⟩
/-- e[i], e may raise -/
theorem e_ixX {b : Expr} {m : EMX} {mb : EM} (ha : E2X X .fz a m) (hb : E2 X .bw b mb) (hs : PlainIx b := by exact fun _ _ => rfl) : E2X X .fz (.Subscript a b pos) (xIx m mb) :=
  ⟨fun W tk => pe_weak (pe_ix ix_seq (ha.pe W tk) hb.pe hs) fun σ H Q ⟨A, τ, n, F, P, PX, eK, R, hm, hq, hx⟩ => ⟨A, τ, n, F, _, PX, eK, R, hm, fun x n1 v1 H1 F1 p1 a1 r1 => by
    refine tE_run eK (R.step a1) p1 fun y n2 v2 H2 F2 p2 a2 r2 => ?_
    have a12 := a1.trans a2
    have R2 := R.step a12
    refine does_ix H2 F2 v1 v2 x y _ _ R2.same (bw_adv (H0 := H2) (RepK.bw (H0 := H2) (k := .fz) r1) a2 (R.step a1).same (R.step a1).box) r2 p2 fun d v H3 F3 p3 a3 r3 => ?_
    exact hq d n2 v H3 F3 p3 (a12.trans (a3.adv R2.box)) (r3.h0 fun a h => a12.none_back a h), hx⟩⟩
end
end TL
set_option Elab.async false
set_option linter.all false
set_option maxRecDepth 100000
set_option maxHeartbeats 4000000
/-! defs that may raise, their text; the head with a further fact -/
namespace TL
open PySem PySem.Spec PyProof.Rows L2
def clsB : Stmt → List Stmt
  | .ClassDef (body := b) .. => b
  | _ => []
/-! ### a hook with a further fact of the written part -/
abbrev AlZ : Type := He.AlD × Bool
def obsZ (fa : List He.Fa) (fn : List He.DefD) (ex : PySem.W.Frag → Bool) (K : PySem.W.Frag) : AlZ := (He.obsD fa fn K, ex K)
def obsZG (n : Nat) (fa : List He.Fa) (fn : List He.DefD) (ex : PySem.W.Frag → Bool) (g : Addr → Option Obj) : AlZ := obsZ fa fn ex (He.frG g (He.asD g n))
def SaysZ (fa : List He.Fa) (fn : List He.DefD) (ex : PySem.W.Frag → Bool) (K : PySem.W.Frag) : Prop := obsZ fa fn ex K = (He.valD fn, true)
def hookZ (n : Nat) (fa : List He.Fa) (fn : List He.DefD) (ex : PySem.W.Frag → Bool) : PySem.W.Hook where
  α := AlZ
  obs := fun s => obsZG n fa fn ex s.heap.get?
  val := fun _ => (He.valD fn, true)
  says := fun _ h => ∃ K : PySem.W.Frag, K.In h ∧ SaysZ fa fn ex K
  of := fun _ _ e => ⟨_, He.frG_in, e⟩
  keeps := fun _ _ _ ⟨K, hK, c⟩ k => ⟨K, PySem.W.Frag.In.keeps hK k, c⟩
theorem obsZG_eq {n : Nat} {fa : List He.Fa} {fn : List He.DefD} {ex : PySem.W.Frag → Bool} {g : Addr → Option Obj} {s : Shared} (h : ∀ a, g a = s.heap.get? a) : obsZG n fa fn ex g = (hookZ n fa fn ex).obs s := by
  have e : g = s.heap.get? := funext h
  rw [e] <;> rfl
theorem SaysZ.d {fa : List He.Fa} {fn : List He.DefD} {ex : PySem.W.Frag → Bool} {K : PySem.W.Frag} (c : SaysZ fa fn ex K) : He.SaysD fa fn K := congrArg (fun z : AlZ => z.1) c
theorem SaysZ.x {fa : List He.Fa} {fn : List He.DefD} {ex : PySem.W.Frag → Bool} {K : PySem.W.Frag} (c : SaysZ fa fn ex K) : ex K = true := congrArg (fun z : AlZ => z.2) c
/-! ### reading -/
@[simp] theorem tryX_ap {L : ExL} {cs : List Str} {i j : Nat} {E : En} {τ : Ev} {x : XE} {n : Nat} : tryX L cs i j E τ x n ↔ (∃ b, (x.cls, x.fld, b) ∈ L) ∧ if cs.contains x.cls = true then E.nx ((τ.set i none).set j (some (.d (excD x.cls x.fld x.val)))) n else E.xx τ x n := Iff.rfl
section
variable {E : En} {τ : Ev} {n : Nat} {P : D → Nat → Prop} {PX : XE → Nat → Prop}
@[simp] theorem sRaise_ap {nm f : Str} {ma : EM} : sRaise nm f ma E τ n ↔ ma τ n fun d n1 => E.xx τ ⟨nm, f, d⟩ n1 := Iff.rfl
@[simp] theorem xLift_ap {m : EM} : xLift m τ n P PX ↔ m τ n P := Iff.rfl
@[simp] theorem xCall_ap {np : Nat} {f : FM} {m : AM} : xCall np f m τ n P PX ↔ m τ n fun ss n1 => ss.length = np ∧ f ss n1 P PX := Iff.rfl
@[simp] theorem xIf_ap {c : CM} {a b : EMX} : xIf c a b τ n P PX ↔ c τ n fun t n1 => if t = true then a τ n1 P PX else b τ n1 P PX := Iff.rfl
@[simp] theorem xIx_ap {m : EMX} {mb : EM} : xIx m mb τ n P PX ↔ m τ n (fun x n1 => mb τ n1 fun y n2 => dIx x y fun d => P d n2) PX := Iff.rfl
@[simp] theorem sRetX_ap {m : EMX} : sRetX m E τ n ↔ m τ n E.rt fun x n' => E.xx τ x n' := Iff.rfl
@[simp] theorem sDropX_ap {m : EMX} : sDropX m E τ n ↔ m τ n (fun _ n' => E.nx τ n') fun x n' => E.xx τ x n' := Iff.rfl
@[simp] theorem sSetX2_ap {k : Kd} {i : Nat} {m : EMX} : sSetX2 k i m E τ n ↔ m τ n (fun d n1 => E.nx (τ.set i (some (slOf k d))) n1) fun x n' => E.xx τ x n' := Iff.rfl
@[simp] theorem sAsgX_ap {m : EMX} {g : GM} : sAsgX m g E τ n ↔ m τ n (fun d n1 => g d τ n1 E.nx) fun x n' => E.xx τ x n' := Iff.rfl
@[simp] theorem sParX_ap {k1 k2 : Kd} {i j : Nat} {ma : EMX} {mb : EM} : sParX k1 k2 i j ma mb E τ n ↔ ma τ n (fun x n1 => mb τ n1 fun y n2 => E.nx ((τ.set i (some (slOf k1 x))).set j (some (slOf k2 y))) n2) fun x n' => E.xx τ x n' := Iff.rfl
@[simp] theorem sTry_ap {L : ExL} {cs : List Str} {i j : Nat} {mb : SM} : sTry L cs i j mb E τ n ↔ mb { E with xx := tryX L cs i j E } τ n := Iff.rfl
end
@[simp] theorem dIsX_none {L : ExL} {cs : List Cn} {P : D → Prop} : dIsX L cs .none P ↔ P (.bool false) := by
  unfold dIsX excD
  simp
@[simp] theorem dIsX_exc {L : ExL} {cs : List Cn} {c f : Str} {v : D} {P : D → Prop} : dIsX L cs (excD c f v) P ↔ (∃ b, (c, f, b) ∈ L) ∧ P (.bool (cs.any (isX L c))) := by
  unfold dIsX excD
  constructor
  · rintro (⟨z, _⟩ | ⟨c', f', v', z, h1, h2⟩)
    · cases z
    · injection z with z
      simp at z
      obtain ⟨rfl, rfl, rfl⟩ := z
      exact ⟨h1, h2⟩
  · rintro ⟨h1, h2⟩
    exact .inr ⟨c, f, v, rfl, h1, h2⟩
@[simp] theorem dAtt_exc {L : ExL} {c f f' : Str} {v : D} {P : D → Prop} : dAtt L f (excD c f' v) P ↔ f' = f ∧ (∃ b, (c, f, b) ∈ L) ∧ P v := by
  unfold dAtt excD
  constructor
  · rintro ⟨c', v', z, h1, h2⟩
    injection z with z
    simp at z
    obtain ⟨rfl, rfl, rfl⟩ := z
    exact ⟨rfl, h1, h2⟩
  · rintro ⟨rfl, h1, h2⟩
    exact ⟨c, v, rfl, h1, h2⟩
end TL
set_option Elab.async false
set_option linter.all false
set_option maxRecDepth 100000
set_option maxHeartbeats 4000000
namespace TL
open PySem PySem.Spec PyProof.Rows L2
section
variable {τ : Ev} {n : Nat} {Q : D → Nat → Prop} {i j : Nat} {d : D}
@[simp] theorem mVar_ap : mVar i τ n Q ↔ ∃ x, τ[i]? = some (some (.d x)) ∧ Q x n := Iff.rfl
@[simp] theorem mVarO_ap : mVarO i τ n Q ↔ ∃ x, τ[i]? = some (some (.ow x)) ∧ Q (.list x) n := Iff.rfl
@[simp] theorem mC_ap : mC d τ n Q ↔ Q d n := Iff.rfl
@[simp] theorem m1_ap {f : Op1} {a : EM} : m1 f a τ n Q ↔ a τ n fun x n1 => f x fun d => Q d n1 := Iff.rfl
@[simp] theorem m2_ap {f : Op2} {a b : EM} : m2 f a b τ n Q ↔ a τ n fun x n1 => b τ n1 fun y n2 => f x y fun d => Q d n2 := Iff.rfl
@[simp] theorem mT_ap {a : EM} {R : Bool → Nat → Prop} : mT a τ n R ↔ a τ n fun d n' => ∃ b, d = .bool b ∧ R b n' := Iff.rfl
@[simp] theorem mAnd_ap {a b : EM} : mAnd a b τ n Q ↔ a τ n fun d n1 => ∃ c, d = .bool c ∧ if c = true then b τ n1 Q else Q (.bool false) n1 := Iff.rfl
@[simp] theorem mOr_ap {a b : EM} : mOr a b τ n Q ↔ a τ n fun d n1 => ∃ c, d = .bool c ∧ if c = true then Q (.bool true) n1 else b τ n1 Q := Iff.rfl
@[simp] theorem mNot_ap {a : EM} : mNot a τ n Q ↔ a τ n fun d n1 => ∃ c, d = .bool c ∧ Q (.bool (!c)) n1 := Iff.rfl
@[simp] theorem mIf_ap {c : CM} {a b : EM} : mIf c a b τ n Q ↔ c τ n fun b' n1 => if b' = true then a τ n1 Q else b τ n1 Q := Iff.rfl
@[simp] theorem cAnd_ap {a b : CM} {R : Bool → Nat → Prop} : cAnd a b τ n R ↔ a τ n fun c n1 => if c = true then b τ n1 R else R false n1 := Iff.rfl
@[simp] theorem cOr_ap {a b : CM} {R : Bool → Nat → Prop} : cOr a b τ n R ↔ a τ n fun c n1 => if c = true then R true n1 else b τ n1 R := Iff.rfl
@[simp] theorem cNot_ap {a : CM} {R : Bool → Nat → Prop} : cNot a τ n R ↔ a τ n fun c n1 => R (!c) n1 := Iff.rfl
@[simp] theorem cYes_ap {R : Bool → Nat → Prop} : cYes τ n R ↔ R true n := Iff.rfl
@[simp] theorem aNil_ap {R : List D → Nat → Prop} : aNil τ n R ↔ R [] n := Iff.rfl
@[simp] theorem aCons_ap {m : EM} {r : DM} {R : List D → Nat → Prop} : aCons m r τ n R ↔ m τ n fun d n1 => r τ n1 fun ds n2 => R (d :: ds) n2 := Iff.rfl
@[simp] theorem mTup_ap {m : DM} : mTup m τ n Q ↔ m τ n fun ds n' => ds.length ≤ sizeLine ∧ Q (.tuple ds) n' := Iff.rfl
@[simp] theorem mLst_ap {m : DM} : mLst m τ n Q ↔ m τ n fun ds n' => ds.length ≤ sizeLine ∧ Q (.list ds) n' := Iff.rfl
@[simp] theorem kNil_ap {R : List Sl → Nat → Prop} : kNil τ n R ↔ R [] n := Iff.rfl
@[simp] theorem kCons_ap {m : EM} {r : AM} {R : List Sl → Nat → Prop} : kCons m r τ n R ↔ m τ n fun d n1 => r τ n1 fun ss n2 => R (.d d :: ss) n2 := Iff.rfl
@[simp] theorem kBox_ap {r : AM} {R : List Sl → Nat → Prop} : kBox i r τ n R ↔ τ[i]? = some (some .box) ∧ r τ n fun ss n2 => R (.box :: ss) n2 := Iff.rfl
@[simp] theorem mCall_ap {f : FM} {m : AM} : mCall f m τ n Q ↔ m τ n fun ss n1 => f ss n1 Q fun _ _ => False := Iff.rfl
@[simp] theorem oNone_ap {R : Option Int → Nat → Prop} : oNone τ n R ↔ R none n := Iff.rfl
@[simp] theorem oSome_ap {m : EM} {R : Option Int → Nat → Prop} : oSome m τ n R ↔ m τ n fun d n' => ∃ i, d = .int i ∧ R (some i) n' := Iff.rfl
@[simp] theorem mSl_ap {f} {a : EM} {lo hi : OM} : mSl f a lo hi τ n Q ↔ a τ n fun x n1 => lo τ n1 fun l n2 => hi τ n2 fun u n3 => f x l u fun d => Q d n3 := Iff.rfl
@[simp] theorem mLc_ap {mi : IM} {g : GM} {c : CM} {me : EM} {vs : List Nat} : mLc mi g c me vs τ n Q ↔ mi τ n fun items n1 => lcD g c me (wipeE τ vs) items [] n1 Q := Iff.rfl
@[simp] theorem iR1_ap {m : EM} {R : List D → Nat → Prop} : iR1 m τ n R ↔ m τ n fun d n' => ∃ j, d = .int j ∧ (-(2 ^ 62) ≤ j ∧ j < 2 ^ 62) ∧ R (rangeD 0 j.toNat) n' := Iff.rfl
@[simp] theorem iR2_ap {m m' : EM} {R : List D → Nat → Prop} : iR2 m m' τ n R ↔ m τ n fun d n1 => m' τ n1 fun d' n2 => ∃ i j, d = .int i ∧ d' = .int j ∧ (-(2 ^ 62) ≤ i ∧ i < 2 ^ 62 ∧ -(2 ^ 62) ≤ j ∧ j < 2 ^ 62) ∧ R (rangeD i (j - i).toNat) n2 := Iff.rfl
@[simp] theorem iIt_ap {m : EM} {R : List D → Nat → Prop} : iIt m τ n R ↔ m τ n fun d n' => dItems d fun xs => R xs n' := Iff.rfl
@[simp] theorem iEn_ap {m : EM} {R : List D → Nat → Prop} : iEn m τ n R ↔ m τ n fun d n' => dItems d fun xs => R (enumD 0 xs) n' := Iff.rfl
@[simp] theorem iZp_ap {m m' : EM} {R : List D → Nat → Prop} : iZp m m' τ n R ↔ m τ n fun x n1 => m' τ n1 fun y n2 => dZip x y fun zs => R zs n2 := Iff.rfl
@[simp] theorem gN_ap {x : D} {R : Ev → Nat → Prop} : gN i x τ n R ↔ R (τ.set i (some (.d x))) n := Iff.rfl
theorem parts_tup {ds : List D} : parts (.tuple ds) = some ds := rfl
theorem parts_raw {x y : D} : parts (rawP x y) = some [x, y] := rfl
@[simp] theorem gT_ap {k : Nat} {g : GMs} {ds : List D} {R : Ev → Nat → Prop} : gT k g (.tuple ds) τ n R ↔ ds.length = k ∧ g ds τ n R := by simp [gT, parts_tup]
@[simp] theorem gT_raw {k : Nat} {g : GMs} {x y : D} {R : Ev → Nat → Prop} : gT k g (rawP x y) τ n R ↔ 2 = k ∧ g [x, y] τ n R := by simp [gT, parts_raw]
@[simp] theorem gsNil_ap {R : Ev → Nat → Prop} : gsNil [] τ n R ↔ R τ n := by simp [gsNil]
@[simp] theorem gsCons_ap {g : GM} {r : GMs} {x : D} {xs : List D} {R : Ev → Nat → Prop} : gsCons g r (x :: xs) τ n R ↔ g x τ n fun τ1 n1 => r xs τ1 n1 R := by
  constructor
  · rintro ⟨_, _, e, q⟩
    cases e
    exact q
  · exact fun q => ⟨_, _, rfl, q⟩
variable {E : En} {a b c : EM} {m m' : SM} {k k1 k2 k3 : Kd} {l : Nat}
@[simp] theorem sNext_ap : sNext E τ n ↔ E.nx τ n := Iff.rfl
@[simp] theorem sSeq_ap : sSeq m m' E τ n ↔ m { E with nx := fun τ' n' => m' E τ' n' } τ n := Iff.rfl
@[simp] theorem sFrz_ap : sFrz i m E τ n ↔ ∃ xs, τ[i]? = some (some (.ow xs)) ∧ m E (τ.set i (some (.d (.list xs)))) n := Iff.rfl
@[simp] theorem sRet_ap : sRet a E τ n ↔ a τ n E.rt := Iff.rfl
@[simp] theorem sRetO_ap : sRetO i E τ n ↔ ∃ xs, τ[i]? = some (some (.ow xs)) ∧ E.rt (.list xs) n := Iff.rfl
@[simp] theorem sRetN_ap : sRetN E τ n ↔ E.rt .none n := Iff.rfl
@[simp] theorem sIf_ap {c : CM} : sIf c m m' E τ n ↔ c τ n fun b n1 => if b = true then m E τ n1 else m' E τ n1 := Iff.rfl
@[simp] theorem sBk_ap : sBk E τ n ↔ E.bk τ n := Iff.rfl
@[simp] theorem sCt_ap : sCt E τ n ↔ E.ct τ n := Iff.rfl
@[simp] theorem sDrop_ap : sDrop a E τ n ↔ a τ n fun _ n' => E.nx τ n' := Iff.rfl
@[simp] theorem sAsg_ap {g : GM} : sAsg a g E τ n ↔ a τ n fun d n1 => g d τ n1 E.nx := Iff.rfl
@[simp] theorem sSet_ap : sSet k i a E τ n ↔ a τ n fun d n1 => E.nx (τ.set i (some (slOf k d))) n1 := Iff.rfl
@[simp] theorem sPar_ap : sPar k1 k2 i j a b E τ n ↔ a τ n fun x n1 => b τ n1 fun y n2 => E.nx ((τ.set i (some (slOf k1 x))).set j (some (slOf k2 y))) n2 := Iff.rfl
@[simp] theorem sPar3_ap : sPar3 k1 k2 k3 i j l a b c E τ n ↔ a τ n fun x n1 => b τ n1 fun y n2 => c τ n2 fun z n3 => E.nx (((τ.set i (some (slOf k1 x))).set j (some (slOf k2 y))).set l (some (slOf k3 z))) n3 := Iff.rfl
@[simp] theorem sAug_ap {f : Op2} : sAug f i a E τ n ↔ ∃ x, τ[i]? = some (some (.d x)) ∧ a τ n fun y n1 => f x y fun z => E.nx (τ.set i (some (.d z))) n1 := Iff.rfl
@[simp] theorem sFor_ap {mi : IM} {g : GM} : sFor mi g m E τ n ↔ mi τ n fun items n1 => forD items g m E τ n1 := Iff.rfl
@[simp] theorem sX_ap {x : XM} : sX x E τ n ↔ x τ n fun _ τ' n' => E.nx τ' n' := Iff.rfl
@[simp] theorem xMt_ap {f : MOp} {m : DM} {R : D → Ev → Nat → Prop} : xMt f i m τ n R ↔ ∃ xs, τ[i]? = some (some (.ow xs)) ∧ m τ n fun ds n1 => f xs ds fun d ys => R d (τ.set i (some (.ow ys))) n1 := Iff.rfl
@[simp] theorem sSetIx_ap : sSetIx j a b E τ n ↔ ∃ xs, τ[j]? = some (some (.ow xs)) ∧ b τ n fun d n1 => a τ n1 fun y n2 => ∃ i k, y = .int i ∧ ixN xs.length i = some k ∧ E.nx (τ.set j (some (.ow (xs.set k d)))) n2 := Iff.rfl
@[simp] theorem sSetSl_ap : sSetSl j a b c E τ n ↔ ∃ xs, τ[j]? = some (some (.ow xs)) ∧ c τ n fun d n1 => a τ n1 fun x n2 => b τ n2 fun y n3 => ∃ ys lo hi, d = .list ys ∧ x = .int lo ∧ y = .int hi ∧ (0 ≤ lo ∧ lo ≤ hi ∧ hi ≤ xs.length) ∧ xs.length + ys.length ≤ sizeLine ∧ E.nx (τ.set j (some (.ow (xs.take lo.toNat ++ ys ++ xs.drop hi.toNat)))) n3 := Iff.rfl
@[simp] theorem bodyM_ap {nN : Nat} {b : (XE → Nat → Prop) → SM} {as : List Sl} {P : D → Nat → Prop} {PX : XE → Nat → Prop} : bodyM nN b as n P PX ↔ b PX { nx := fun _ n' => P .none n', rt := P } (as.map some ++ List.replicate (nN - as.length) none) n := Iff.rfl
@[simp] theorem slOf_fz : slOf .fz d = .d d := rfl
@[simp] theorem slOf_nw {xs : List D} : slOf .nw (.list xs) = .ow xs := rfl
@[simp] theorem dI2_ap {f : Int → Int → D} {x y : Int} {P : D → Prop} : dI2 f (.int x) (.int y) P ↔ P (f x y) := ⟨fun ⟨_, _, e1, e2, p⟩ => by cases e1; cases e2; exact p, fun p => ⟨_, _, rfl, rfl, p⟩⟩
@[simp] theorem dI2c_ap {C : Int → Int → Prop} {f : Int → Int → D} {x y : Int} {P : D → Prop} : dI2c C f (.int x) (.int y) P ↔ C x y ∧ P (f x y) := ⟨fun ⟨_, _, e1, e2, c, p⟩ => by cases e1; cases e2; exact ⟨c, p⟩, fun p => ⟨_, _, rfl, rfl, p.1, p.2⟩⟩
@[simp] theorem dItems_L {xs : List D} {P : List D → Prop} : dItems (.list xs) P ↔ P xs := by simp [dItems]
@[simp] theorem dItems_T {xs : List D} {P : List D → Prop} : dItems (.tuple xs) P ↔ P xs := by simp [dItems]
@[simp] theorem dLen_L {xs : List D} {P : D → Prop} : dLen (.list xs) P ↔ P (.int xs.length) := by simp [dLen]
@[simp] theorem dLen_T {xs : List D} {P : D → Prop} : dLen (.tuple xs) P ↔ P (.int xs.length) := by simp [dLen]
@[simp] theorem dTuple_L {xs : List D} {P : D → Prop} : dTuple (.list xs) P ↔ P (.tuple xs) := by simp [dTuple]
@[simp] theorem dTuple_T {xs : List D} {P : D → Prop} : dTuple (.tuple xs) P ↔ P (.tuple xs) := by simp [dTuple]
@[simp] theorem dList_L {xs : List D} {P : D → Prop} : dList (.list xs) P ↔ P (.list xs) := by simp [dList]
@[simp] theorem dList_T {xs : List D} {P : D → Prop} : dList (.tuple xs) P ↔ P (.list xs) := by simp [dList]
@[simp] theorem dIx_L {xs : List D} {i : Int} {P : D → Prop} : dIx (.list xs) (.int i) P ↔ ∃ d, atI xs i = some d ∧ P d := by simp [dIx]
@[simp] theorem dIx_T {xs : List D} {i : Int} {P : D → Prop} : dIx (.tuple xs) (.int i) P ↔ ∃ d, atI xs i = some d ∧ P d := by simp [dIx]
@[simp] theorem dZip_L {xs ys : List D} {P : List D → Prop} : dZip (.list xs) (.list ys) P ↔ P (zipD xs ys) := by simp [dZip]
@[simp] theorem dZip_T {xs ys : List D} {P : List D → Prop} : dZip (.tuple xs) (.tuple ys) P ↔ P (zipD xs ys) := by simp [dZip]
@[simp] theorem dCatT_T {xs ys : List D} {P : D → Prop} : dCatT (.tuple xs) (.tuple ys) P ↔ xs.length + ys.length ≤ sizeLine ∧ P (.tuple (xs ++ ys)) := by simp [dCatT]
@[simp] theorem dCatL_L {xs ys : List D} {P : D → Prop} : dCatL (.list xs) (.list ys) P ↔ xs.length + ys.length ≤ sizeLine ∧ P (.list (xs ++ ys)) := by simp [dCatL]
@[simp] theorem dSlL_L {xs : List D} {lo hi : Option Int} {P : D → Prop} : dSlL (.list xs) lo hi P ↔ P (.list (cutG xs lo hi)) := by simp [dSlL]
@[simp] theorem dSlT_T {xs : List D} {lo hi : Option Int} {P : D → Prop} : dSlT (.tuple xs) lo hi P ↔ P (.tuple (cutG xs lo hi)) := by simp [dSlT]
@[simp] theorem dSl_T {xs : List D} {lo hi : Option Int} {P : D → Prop} : dSl (.tuple xs) lo hi P ↔ P (.tuple (cutG xs lo hi)) := by simp [dSl, dSlL, dSlT]
@[simp] theorem dSl_L {xs : List D} {lo hi : Option Int} {P : D → Prop} : dSl (.list xs) lo hi P ↔ P (.list (cutG xs lo hi)) := by simp [dSl, dSlL, dSlT]
@[simp] theorem dRg_ap {k : List D → D} {i : Int} {P : D → Prop} : dRg k (.int i) P ↔ (-(2 ^ 62) ≤ i ∧ i ≤ 2 ^ 24) ∧ P (k (rangeD 0 i.toNat)) := by simp [dRg]
@[simp] theorem okT_n : okT .none = true := rfl
@[simp] theorem okT_b {b : Bool} : okT (.bool b) = true := rfl
@[simp] theorem okT_i {b : Int} : okT (.int b) = true := rfl
@[simp] theorem okT_s {b : Str} : okT (.str b) = true := rfl
@[simp] theorem okT_l {b : List D} : okT (.list b) = true := rfl
@[simp] theorem okT_t {b : List D} : okT (.tuple b) = true := rfl
@[simp] theorem dIs_ap {c : String} {x : D} {P : D → Prop} : dIs c x P ↔ okT x = true ∧ P (.bool (isIn (tyD x) c)) := Iff.rfl
@[simp] theorem dIs2_ap {c c' : String} {x : D} {P : D → Prop} : dIs2 c c' x P ↔ okT x = true ∧ P (.bool (isIn (tyD x) c || isIn (tyD x) c')) := Iff.rfl
@[simp] theorem dIsN_ap {x : D} {P : D → Prop} : dIsN x P ↔ P (.bool (isN x)) := Iff.rfl
@[simp] theorem dEq_ap {x y : D} {P : D → Prop} : dEq x y P ↔ (SeqAt.shaped x = true ∧ SeqAt.shaped y = true) ∧ P (.bool (PyData.eqv x y)) := Iff.rfl
@[simp] theorem dNe_ap {x y : D} {P : D → Prop} : dNe x y P ↔ (SeqAt.shaped x = true ∧ SeqAt.shaped y = true) ∧ P (.bool (!PyData.eqv x y)) := Iff.rfl
@[simp] theorem dAbs_ap {x : Int} {P : D → Prop} : dAbs (.int x) P ↔ P (.int (if x < 0 then -x else x)) := by simp [dAbs]
@[simp] theorem dNeg_ap {x : Int} {P : D → Prop} : dNeg (.int x) P ↔ P (.int (-x)) := by simp [dNeg]
@[simp] theorem dInt_I {x : Int} {P : D → Prop} : dInt (.int x) P ↔ P (.int x) := by simp [dInt]
@[simp] theorem dInt_B {x : Bool} {P : D → Prop} : dInt (.bool x) P ↔ P (.int (if x then 1 else 0)) := by simp [dInt]
@[simp] theorem dMax2_ap {x y : Int} {P : D → Prop} : dMax2 (.int x) (.int y) P ↔ P (.int (if y > x then y else x)) := by simp [dMax2]
@[simp] theorem dRepL_ap {xs : List D} {k : Int} {P : D → Prop} : dRepL (.list xs) (.int k) P ↔ (-(2 ^ 63) ≤ k ∧ k < 2 ^ 63) ∧ xs.length * k.toNat ≤ sizeLine ∧ P (.list (List.replicate k.toNat xs).flatten) := by simp [dRepL]
@[simp] theorem oApp_ap {xs : List D} {d : D} {P : D → List D → Prop} : oApp xs [d] P ↔ xs.length < sizeLine ∧ P .none (xs ++ [d]) := by simp [oApp]
@[simp] theorem eqv_int {i j : Int} : PyData.eqv (.int i) (.int j) = decide (i = j) := by
  rw [PyData.eqv]
  by_cases h : i = j <;> simp [h]
@[simp] theorem eqv_bool {i j : Bool} : PyData.eqv (.bool i) (.bool j) = (i == j) := by rw [PyData.eqv]
@[simp] theorem eqv_str {i j : Str} : PyData.eqv (.str i) (.str j) = (i == j) := by rw [PyData.eqv]
@[simp] theorem shaped_int {i : Int} : SeqAt.shaped (.int i) = true := rfl
@[simp] theorem shaped_bool {i : Bool} : SeqAt.shaped (.bool i) = true := rfl
@[simp] theorem shaped_none : SeqAt.shaped .none = true := rfl
@[simp] theorem take_ap {many : Int} {P : D → Nat → Prop} {PX : XE → Nat → Prop} : fTake [.box, .d (.int many)] n P PX ↔ (0 < many ∧ many < 2 ^ 62) ∧ n < cap ∧ ∀ r : Int, 0 ≤ r → r < many → P (.int r) (n + 1) := by
  constructor
  · rintro ⟨m, e, h1, h2, h3⟩
    cases e
    exact ⟨h1, h2, h3⟩
  · rintro ⟨h1, h2, h3⟩
    exact ⟨many, rfl, h1, h2, h3⟩
end
end TL
set_option Elab.async false
set_option linter.all false
set_option maxRecDepth 100000
set_option maxHeartbeats 4000000
namespace TL
open PySem PySem.Spec PyProof.Rows L2
def top (i : Nat) : Stmt := PySem.Challenge.pw_hayherd_k02_who_may_pass.main.body.getD i (.Pass ⟨0, 0, 0, 0⟩)
def exL : ExL := [("MayNot", "place", .re), ("NotLet", "number", .re)]
def mth (i j : Nat) : Stmt := (clsB (top i)).getD j (.Pass ⟨0, 0, 0, 0⟩)
section
variable {P : Program} {w : World} {K : PySem.W.Frag} {mg : Str → Option Value} {base : Heap}

theorem sc_init_MayNot : FnScope ["self", "place"] ["self", "place"] (defScope (mth 1 0)) := ⟨rfl, rfl, rfl, by decide +kernel, rfl, by decide +kernel, by decide +kernel⟩
theorem raw_init_MayNot {k : Nat} {fd : FuncData} (F : FunD K "__init__" "MayNot.__init__" (defArgs (mth 1 0)) (defBody (mth 1 0)) (defScope (mth 1 0)) [] [] (He.ma K (He.ga K "MayNot") "__init__") fd) (T : XT K mg exL) (fz_RuntimeError : mg "RuntimeError" = none) : ExK P w K mg base "MayNot" "place" (k + 1) :=
  have Ti := T.i ("MayNot", "place", .re) (by simp [exL])
  have nd : (["self", "place"] : List Str).Nodup := sc_init_MayNot.nd
  ⟨_, _, _, _, fd, exb_RE, Ti, ok_init F sc_init_MayNot (fun cdv A outer s H E => ⟨_, rfl, by
    conv => arg 2; whnf
    exact pss_cons (ps_expr (pe_binit exb_RE Ti (by rfl) fz_RuntimeError (by decide +kernel) (pa_cons (pv 0) (pa_cons pe_str pa_nil)) (by decide) (by decide) rfl rfl rfl)) (pss_one (ps_first exb_RE Ti (pv 0) (pv 1)))⟩), F.bindsN (fun _ _ _ _ _ _ us hl => match us, hl with | [_, _], _ => rfl)⟩
def b_rowed : SM :=
  (sRet (m1 dTuple (mLc (iIt (mVar 0)) (gT 2 (gsCons (gN 1) (gsCons (gN 2) gsNil))) cYes (mTup (aCons (mVar 1) (aCons (mVar 2) aNil))) [1, 2])))
theorem sc_rowed : FnScope ["row", "strength", "toll"] ["row"] (defScope (top 4)) := ⟨rfl, rfl, rfl, by decide +kernel, rfl, by decide +kernel, by decide +kernel⟩
theorem raw_rowed {k : Nat} {fa : Addr} {fd : FuncData} (F : FunD K "rowed" "rowed" (defArgs (top 4)) (defBody (top 4)) (defScope (top 4)) [] [] fa fd) (hm : mg "rowed" = some (.ref fa)) (Z : Fz mg)  :
    Cal P w K mg base "rowed" (defArgs (top 4)) ["row"] (k + 1) .fz (bodyM 3 fun _ => b_rowed ) :=
  have nd : (["row", "strength", "toll"] : List Str).Nodup := sc_rowed.nd
  Cal.mk2 F (fn_ok F sc_rowed rfl (.inl rfl) (fun cdv A outer s H E hr => by
    conv => arg 3; whnf
    exact (s_one (p_ret (e_tuple (by rfl) Z.tuple (E2.bw (e_lc (own := [("strength", 1), ("toll", 2)]) rfl nd (j_seq (E2.bw (e_var (pv 0)))) (blkOk_by rfl) (fun _ _ _ _ _ => (g_tup rfl (gs_cons (g_name (i := 1) (pg_name (i := 1) nd rfl (by first | exact Or.inl rfl | exact Or.inr rfl))) (gs_cons (g_name (i := 2) (pg_name (i := 2) nd rfl (by first | exact Or.inl rfl | exact Or.inr rfl))) gs_nil)))) (fun _ _ _ _ _ => c_nil) (fun _ _ _ _ _ => (e_tup (d_cons (e_var (pv 1)) (d_cons (e_var (pv 2)) d_nil)))))))))) (fun z => nomatch z)) hm (fun _ _ _ _ _ _ us hl => match us, hl with | [_], _ => rfl)

def b_lets_pass : SM :=
  (sRet (m2 dGt (m2 dSub (m2 dIx (mVar 1) (mC (.int 0))) (m2 dIx (mVar 0) (mC (.int 1)))) (m2 dIx (mVar 0) (mC (.int 0)))))
theorem sc_lets_pass : FnScope ["ahead", "behind"] ["ahead", "behind"] (defScope (top 5)) := ⟨rfl, rfl, rfl, by decide +kernel, rfl, by decide +kernel, by decide +kernel⟩
theorem raw_lets_pass {k : Nat} {fa : Addr} {fd : FuncData} (F : FunD K "lets_pass" "lets_pass" (defArgs (top 5)) (defBody (top 5)) (defScope (top 5)) [] [] fa fd) (hm : mg "lets_pass" = some (.ref fa)) (Z : Fz mg)  :
    Cal P w K mg base "lets_pass" (defArgs (top 5)) ["ahead", "behind"] (k + 1) .fz (bodyM 2 fun _ => b_lets_pass ) :=
  have nd : (["ahead", "behind"] : List Str).Nodup := sc_lets_pass.nd
  Cal.mk2 F (fn_ok F sc_lets_pass rfl (.inl rfl) (fun cdv A outer s H E hr => by
    conv => arg 3; whnf
    exact (s_one (p_ret (e_gt (E2.bw (e_sub (E2.bw (e_ix (E2.bw (e_var (pv 1))) (E2.bw e_int))) (E2.bw (e_ix (E2.bw (e_var (pv 0))) (E2.bw e_int))))) (E2.bw (e_ix (E2.bw (e_var (pv 0))) (E2.bw e_int))))))) (fun z => nomatch z)) hm (fun _ _ _ _ _ _ us hl => match us, hl with | [_, _], _ => rfl)

def b_may_pass (f_lets_pass : FM) : SM :=
  (sRet (mLc (iR2 (mC (.int 1)) (m1 dLen (mVar 0))) (gN 1) (mT (mCal 2 f_lets_pass (kCons (m2 dIx (mVar 0) (m2 dSub (mVar 1) (mC (.int 1)))) (kCons (m2 dIx (mVar 0) (mVar 1)) kNil)))) (mVar 1) [1]))
theorem sc_may_pass : FnScope ["row", "place"] ["row"] (defScope (top 6)) := ⟨rfl, rfl, rfl, by decide +kernel, rfl, by decide +kernel, by decide +kernel⟩
theorem raw_may_pass {k : Nat} {fa : Addr} {fd : FuncData} {f_lets_pass : FM} (F : FunD K "may_pass" "may_pass" (defArgs (top 6)) (defBody (top 6)) (defScope (top 6)) [] [] fa fd) (hm : mg "may_pass" = some (.ref fa)) (Z : Fz mg) (C_lets_pass : Cal P w K mg base "lets_pass" (defArgs (top 5)) ["ahead", "behind"] k .fz f_lets_pass) :
    Cal P w K mg base "may_pass" (defArgs (top 6)) ["row"] (k + 1) .nw (bodyM 2 fun _ => b_may_pass f_lets_pass) :=
  have nd : (["row", "place"] : List Str).Nodup := sc_may_pass.nd
  Cal.mk2 F (fn_ok F sc_may_pass rfl (.inr rfl) (fun cdv A outer s H E hr => by
    conv => arg 3; whnf
    exact (s_one (p_ret (e_lc (own := [("place", 1)]) rfl nd (I2.j (i_range2 (by rfl) Z.range (E2.bw e_int) (E2.bw (e_len (by rfl) Z.len (E2.bw (e_var (pv 0))))))) (blkOk_by rfl) (fun _ _ _ _ _ => (g_name (i := 1) (pg_name (i := 1) nd rfl (by first | exact Or.inl rfl | exact Or.inr rfl)))) (fun _ _ _ _ _ => (c_one (t_val (e_cal C_lets_pass hr (by rfl) (a_cons (e_ix (E2.bw (e_var (pv 0))) (E2.bw (e_sub (E2.bw (e_var (pv 1))) (E2.bw e_int)))) (a_cons (e_ix (E2.bw (e_var (pv 0))) (E2.bw (e_var (pv 1)))) a_nil)))))) (fun _ _ _ _ _ => (e_var (pv 1))))))) (fun _ _ _ _ h => h)) hm (fun _ _ _ _ _ _ us hl => match us, hl with | [_], _ => rfl)

def b_with_pair (f_rowed : FM) : SM :=
  (sSeq (sSet .nw 4 (m1 dList (mCal 1 f_rowed (kCons (mVar 0) kNil)))) (sSeq (sSetSl 4 (mVar 1) (m2 dAdd (mVar 1) (mC (.int 2))) (mLst (aCons (m1 dTuple (mVar 2)) (aCons (m1 dTuple (mVar 3)) aNil)))) (sRet (m1 dTuple (mVarO 4)))))
theorem sc_with_pair : FnScope ["row", "place", "ahead", "behind", "found"] ["row", "place", "ahead", "behind"] (defScope (top 7)) := ⟨rfl, rfl, rfl, by decide +kernel, rfl, by decide +kernel, by decide +kernel⟩
theorem raw_with_pair {k : Nat} {fa : Addr} {fd : FuncData} {f_rowed : FM} (F : FunD K "with_pair" "with_pair" (defArgs (top 7)) (defBody (top 7)) (defScope (top 7)) [] [] fa fd) (hm : mg "with_pair" = some (.ref fa)) (Z : Fz mg) (C_rowed : Cal P w K mg base "rowed" (defArgs (top 4)) ["row"] k .fz f_rowed) :
    Cal P w K mg base "with_pair" (defArgs (top 7)) ["row", "place", "ahead", "behind"] (k + 1) .fz (bodyM 5 fun _ => b_with_pair f_rowed) :=
  have nd : (["row", "place", "ahead", "behind", "found"] : List Str).Nodup := sc_with_pair.nd
  Cal.mk2 F (fn_ok F sc_with_pair rfl (.inl rfl) (fun cdv A outer s H E hr => by
    conv => arg 3; whnf
    exact (s_cons (p_set (k := .nw) (i := 4) (fun z => nomatch z) nd rfl (by first | exact Or.inl rfl | exact Or.inr rfl) (e_list (by rfl) Z.list (E2.bw (e_cal C_rowed hr (by rfl) (a_cons (e_var (pv 0)) a_nil))))) (s_cons (p_setSl (pv 4) (E2.bw (e_var (pv 1))) (E2.bw (e_add (E2.bw (e_var (pv 1))) (E2.bw e_int))) (e_lst (d_cons (e_tuple (by rfl) Z.tuple (E2.bw (e_var (pv 2)))) (d_cons (e_tuple (by rfl) Z.tuple (E2.bw (e_var (pv 3)))) d_nil)))) (s_one (p_ret (e_tuple (by rfl) Z.tuple (e_varO (pv 4)))))))) (fun z => nomatch z)) hm (fun _ _ _ _ _ _ us hl => match us, hl with | [_, _, _, _], _ => rfl)

def b_passed (f_with_pair f_may_pass : FM) : SM :=
  (sSeq (sIf (mT (m2 (dMem true) (mVar 1) (mCal 1 f_may_pass (kCons (mVar 0) kNil)))) (sRaise "MayNot" "place" (mVar 1)) sNext) (sSeq (sAsg (mTup (aCons (m2 dIx (mVar 0) (m2 dSub (mVar 1) (mC (.int 1)))) (aCons (m2 dIx (mVar 0) (mVar 1)) aNil))) (gT 2 (gsCons (gN 2) (gsCons (gT 2 (gsCons (gN 3) (gsCons (gN 4) gsNil))) gsNil)))) (sRet (mCal 4 f_with_pair (kCons (mVar 0) (kCons (m2 dSub (mVar 1) (mC (.int 1))) (kCons (mTup (aCons (m2 dSub (mVar 3) (m2 dIx (mVar 2) (mC (.int 1)))) (aCons (mVar 4) aNil))) (kCons (mVar 2) kNil))))))))
theorem sc_passed : FnScope ["row", "place", "ahead", "strength", "toll"] ["row", "place"] (defScope (top 8)) := ⟨rfl, rfl, rfl, by decide +kernel, rfl, by decide +kernel, by decide +kernel⟩
theorem raw_passed {k j : Nat} (hj : j + 1 ≤ k) {fa : Addr} {fd : FuncData} {f_with_pair f_may_pass : FM} (F : FunD K "passed" "passed" (defArgs (top 8)) (defBody (top 8)) (defScope (top 8)) [] [] fa fd) (hm : mg "passed" = some (.ref fa)) (Z : Fz mg) (X_MayNot : ExK P w K mg base "MayNot" "place" j) (C_with_pair : Cal P w K mg base "with_pair" (defArgs (top 7)) ["row", "place", "ahead", "behind"] k .fz f_with_pair) (C_may_pass : Cal P w K mg base "may_pass" (defArgs (top 6)) ["row"] k .nw f_may_pass) :
    CalX P w K mg base "passed" (defArgs (top 8)) ["row", "place"] (k + 1) .fz (bodyX 5 (b_passed f_with_pair f_may_pass)) :=
  have nd : (["row", "place", "ahead", "strength", "toll"] : List Str).Nodup := sc_passed.nd
  CalX.mk2 F (fn_okX F sc_passed rfl (.inl rfl) (fun cdv A outer s H E hr => by
    conv => arg 3; whnf
    exact (s_cons (p_if (t_nin hr (E2.bw (e_var (pv 1))) (E2.bw (e_cal C_may_pass hr (by rfl) (a_cons (e_var (pv 0)) a_nil)))) (s_one (p_raise rfl X_MayNot (hr.mono hj) (by rfl) (e_var (pv 1)))) s_nil) (s_cons (p_asg (e_tup (d_cons (e_ix (E2.bw (e_var (pv 0))) (E2.bw (e_sub (E2.bw (e_var (pv 1))) (E2.bw e_int)))) (d_cons (e_ix (E2.bw (e_var (pv 0))) (E2.bw (e_var (pv 1)))) d_nil))) (g_tup rfl (gs_cons (g_name (i := 2) (pg_name (i := 2) nd rfl (by first | exact Or.inl rfl | exact Or.inr rfl))) (gs_cons (g_tup rfl (gs_cons (g_name (i := 3) (pg_name (i := 3) nd rfl (by first | exact Or.inl rfl | exact Or.inr rfl))) (gs_cons (g_name (i := 4) (pg_name (i := 4) nd rfl (by first | exact Or.inl rfl | exact Or.inr rfl))) gs_nil))) gs_nil)))) (s_one (p_ret (e_cal C_with_pair hr (by rfl) (a_cons (e_var (pv 0)) (a_cons (e_sub (E2.bw (e_var (pv 1))) (E2.bw e_int)) (a_cons (e_tup (d_cons (e_sub (E2.bw (e_var (pv 3))) (E2.bw (e_ix (E2.bw (e_var (pv 2))) (E2.bw e_int)))) (d_cons (e_var (pv 4)) d_nil))) (a_cons (e_var (pv 2)) a_nil)))))))))) (fun z => nomatch z)) hm (fun _ _ _ _ _ _ us hl => match us, hl with | [_, _], _ => rfl)

def b_law_dip : SM :=
  (sSeq (sSet .fz 2 (mIf (mT (m2 dLt (mVar 1) (m1 dLen (mVar 0)))) (m2 dIx (mVar 0) (mVar 1)) (mC (.int 0)))) (sRet (mLst (aCons (m2 dMul (m1 dAbs (mVar 2)) (m1 dInt (m2 dGe (m1 dAbs (mVar 2)) (m2 dPow (mC (.int 10)) (mC (.int 18)))))) (aCons (m2 dAdd (m2 dAdd (m2 dMod (mVar 2) (mC (.int 2305843009213693951))) (m2 dMul (mC (.int 39373)) (mVar 1))) (mC (.int 17))) (aCons (mC (.int 0)) aNil))))))
theorem sc_law_dip : FnScope ["_law_script", "_law_k", "_law_cell"] ["_law_script", "_law_k"] (defScope (top 10)) := ⟨rfl, rfl, rfl, by decide +kernel, rfl, by decide +kernel, by decide +kernel⟩
theorem raw_law_dip {k : Nat} {fa : Addr} {fd : FuncData} (F : FunD K "_law_dip" "_law_dip" (defArgs (top 10)) (defBody (top 10)) (defScope (top 10)) [] [] fa fd) (hm : mg "_law_dip" = some (.ref fa)) (Z : Fz mg)  :
    Cal P w K mg base "_law_dip" (defArgs (top 10)) ["_law_script", "_law_k"] (k + 1) .nw (bodyM 3 fun _ => b_law_dip ) :=
  have nd : (["_law_script", "_law_k", "_law_cell"] : List Str).Nodup := sc_law_dip.nd
  Cal.mk2 F (fn_ok F sc_law_dip rfl (.inr rfl) (fun cdv A outer s H E hr => by
    conv => arg 3; whnf
    exact (s_cons (p_set (k := .fz) (i := 2) (fun z => nomatch z) nd rfl (by first | exact Or.inl rfl | exact Or.inr rfl) (e_if (t_lt (E2.bw (e_var (pv 1))) (E2.bw (e_len (by rfl) Z.len (E2.bw (e_var (pv 0)))))) (e_ix (E2.bw (e_var (pv 0))) (E2.bw (e_var (pv 1)))) e_int)) (s_one (p_ret (e_lst (d_cons (e_mul (E2.bw (e_abs (by rfl) Z.abs (E2.bw (e_var (pv 2))))) (E2.bw (e_int1 (by rfl) Z.int (E2.bw (e_ge (E2.bw (e_abs (by rfl) Z.abs (E2.bw (e_var (pv 2))))) (E2.bw (e_pow (E2.bw e_int) (E2.bw e_int)))))))) (d_cons (e_add (E2.bw (e_add (E2.bw (e_mod (E2.bw (e_var (pv 2))) (E2.bw e_int))) (E2.bw (e_mul (E2.bw e_int) (E2.bw (e_var (pv 1))))))) (E2.bw e_int)) (d_cons e_int d_nil)))))))) (fun _ _ _ _ h => h)) hm (fun _ _ _ _ _ _ us hl => match us, hl with | [_, _], _ => rfl)

theorem sc_law_take : FnScope ["_law_box", "_law_many", "_law_found", "_law_once", "_law_pair"] ["_law_box", "_law_many"] (defScope (top 11)) := ⟨rfl, rfl, rfl, by decide +kernel, rfl, by decide +kernel, by decide +kernel⟩
theorem raw_law_take {k : Nat} {fa : Addr} {fd : FuncData} (F : FunD K "_law_take" "_law_take" (defArgs (top 11)) (defBody (top 11)) (defScope (top 11)) [] [] fa fd) (hm : mg "_law_take" = some (.ref fa)) :
    Cal P w K mg base "_law_take" (defArgs (top 11)) ["_law_box", "_law_many"] (k + 1) .fz fTake :=
  have nd : (["_law_box", "_law_many", "_law_found", "_law_once", "_law_pair"] : List Str).Nodup := sc_law_take.nd
  Cal.mk2 F (ok_take F sc_law_take (fun cdv A outer s H E => ⟨_, rfl, by
    conv => arg 2; whnf
    exact (pss_cons (ps_if (pt_cmpR op_gt (pe_ix ix_list (pv 0) pe_int (fun _ _ => rfl)) pe_int (nomark _)) (pss_cons (ps_asg (pe_op op_mod (pe_ix ix_list (pv 0) pe_int (fun _ _ => rfl)) (pv 1)) (pg_name (i := 2) nd rfl (by first | exact Or.inl rfl | exact Or.inr rfl))) (pss_cons (ps_asg (pe_op op_fdivW (pe_ix ix_list (pv 0) pe_int (fun _ _ => rfl)) (pv 1)) (pg_sub (pv 0) pe_int set_list)) (pss_one (ps_ret (pv 2))))) pss_nil) (pss_cons (ps_asg (pe_op op_add (pe_ix ix_list (pv 0) pe_int (fun _ _ => rfl)) pe_int) (pg_sub (pv 0) pe_int set_list)) (pss_cons (ps_asg (pe_op op_mod (pe_op op_powB (pe_op op_add (pe_ix ix_list (pv 0) pe_int (fun _ _ => rfl)) (pe_op op_mulO pe_int (pe_ix ix_list (pv 0) pe_int (fun _ _ => rfl)))) pe_int) pe_int) (pg_name (i := 3) nd rfl (by first | exact Or.inl rfl | exact Or.inr rfl))) (pss_cons (ps_asg (pe_op op_mod (pe_op op_mulO (pe_op op_add (pe_op op_add (pv 3) (pe_ix ix_list (pv 0) pe_int (fun _ _ => rfl))) (pe_op op_fdivW (pe_ix ix_list (pv 0) pe_int (fun _ _ => rfl)) pe_int)) (pe_op op_add (pe_op op_add (pe_op op_mod (pv 3) pe_int) pe_int) (pe_ix ix_list (pv 0) pe_int (fun _ _ => rfl)))) pe_int) (pg_name (i := 4) nd rfl (by first | exact Or.inl rfl | exact Or.inr rfl))) (pss_one (ps_ret (pe_op op_mod (pe_op op_fdivW (pe_op op_mod (pe_op op_add (pe_op op_mulO (pv 4) pe_int) (pv 3)) pe_int) pe_int) (pv 1))))))))⟩)) hm (fun _ _ _ _ _ _ us hl => match us, hl with | [_, _], _ => rfl)

def b_law_folded : SM :=
  (sSeq (sSet .nw 2 (m1 dList (mSl dSlL (mVar 0) oNone (oSome (mVar 1))))) (sSeq (sFor (iEn (mSl dSlL (mVar 0) (oSome (mVar 1)) (oSome (mC (.int 63))))) (gT 2 (gsCons (gN 3) (gsCons (gN 4) gsNil))) (sSetIx 2 (m2 dMod (mVar 3) (mVar 1)) (m2 dAdd (m2 dIx (mVarO 2) (m2 dMod (mVar 3) (mVar 1))) (m2 dMul (mVar 4) (m2 dAdd (mVar 3) (mC (.int 2))))))) (sFrz 2 (sRet (mVar 2)))))
theorem sc_law_folded : FnScope ["_law_script", "_law_many", "_law_cells", "_law_k", "_law_cell"] ["_law_script", "_law_many"] (defScope (top 12)) := ⟨rfl, rfl, rfl, by decide +kernel, rfl, by decide +kernel, by decide +kernel⟩
theorem raw_law_folded {k : Nat} {fa : Addr} {fd : FuncData} (F : FunD K "_law_folded" "_law_folded" (defArgs (top 12)) (defBody (top 12)) (defScope (top 12)) [] [] fa fd) (hm : mg "_law_folded" = some (.ref fa)) (Z : Fz mg)  :
    Cal P w K mg base "_law_folded" (defArgs (top 12)) ["_law_script", "_law_many"] (k + 1) .fz (bodyM 5 fun _ => b_law_folded ) :=
  have nd : (["_law_script", "_law_many", "_law_cells", "_law_k", "_law_cell"] : List Str).Nodup := sc_law_folded.nd
  Cal.mk2 F (fn_ok F sc_law_folded rfl (.inl rfl) (fun cdv A outer s H E hr => by
    conv => arg 3; whnf
    exact (s_cons (p_set (k := .nw) (i := 2) (fun z => nomatch z) nd rfl (by first | exact Or.inl rfl | exact Or.inr rfl) (e_list (by rfl) Z.list (E2.bw (e_slL (E2.bw (e_var (pv 0))) o_none (o_some (E2.bw (e_var (pv 1)))))))) (s_cons (p_for PassesOwn.never rfl (i_enum (by rfl) Z.enumerate (E2.fz (e_slL (E2.bw (e_var (pv 0))) (o_some (E2.bw (e_var (pv 1)))) (o_some (E2.bw e_int))))) (g_tup rfl (gs_cons (g_name (i := 3) (pg_name (i := 3) nd rfl (by first | exact Or.inl rfl | exact Or.inr rfl))) (gs_cons (g_name (i := 4) (pg_name (i := 4) nd rfl (by first | exact Or.inl rfl | exact Or.inr rfl))) gs_nil))) (s_one (p_setIx (pv 2) (E2.bw (e_mod (E2.bw (e_var (pv 3))) (E2.bw (e_var (pv 1))))) (e_add (E2.bw (e_ix (e_varO (pv 2)) (E2.bw (e_mod (E2.bw (e_var (pv 3))) (E2.bw (e_var (pv 1))))))) (E2.bw (e_mul (E2.bw (e_var (pv 4))) (E2.bw (e_add (E2.bw (e_var (pv 3))) (E2.bw e_int))))))))) (s_frz 2 (s_one (p_ret (e_var (pv 2)))))))) (fun z => nomatch z)) hm (fun _ _ _ _ _ _ us hl => match us, hl with | [_, _], _ => rfl)

def b_law_same (f_law_same : FM) : SM :=
  (sSeq (sIf (mT (m1 (dIs2 "list" "tuple") (mVar 1))) (sSeq (sIf (cOr (mT (m2 dNe (m1 (dIs "list") (mVar 0)) (m1 (dIs "list") (mVar 1)))) (mT (m2 dNe (m1 (dIs "tuple") (mVar 0)) (m1 (dIs "tuple") (mVar 1))))) (sRet (mC (.bool false))) sNext) (sRet (mAnd (m2 dEq (m1 dLen (mVar 0)) (m1 dLen (mVar 1))) (m1 dAll (mLc (iZp (mVar 0) (mVar 1)) (gT 2 (gsCons (gN 2) (gsCons (gN 3) gsNil))) cYes (mCal 2 f_law_same (kCons (mVar 2) (kCons (mVar 3) kNil))) [2, 3]))))) sNext) (sSeq (sIf (cOr (mT (m1 dIsN (mVar 1))) (mT (m1 dIsN (mVar 0)))) (sRet (mAnd (m1 dIsN (mVar 1)) (m1 dIsN (mVar 0)))) sNext) (sSeq (sIf (cOr (mT (m1 (dIs "bool") (mVar 1))) (mT (m1 (dIs "str") (mVar 1)))) (sRet (mAnd (m2 dEq (m1 (dIs "bool") (mVar 0)) (m1 (dIs "bool") (mVar 1))) (m2 dEq (mVar 0) (mVar 1)))) sNext) (sRet (mAnd (m1 (dIs "int") (mVar 0)) (mAnd (mNot (m1 (dIs "bool") (mVar 0))) (m2 dEq (mVar 0) (mVar 1))))))))
theorem sc_law_same : FnScope ["_law_found", "_law_due", "_law_one", "_law_two"] ["_law_found", "_law_due"] (defScope (top 13)) := ⟨rfl, rfl, rfl, by decide +kernel, rfl, by decide +kernel, by decide +kernel⟩
theorem raw_law_same {k : Nat} {fa : Addr} {fd : FuncData} {f_law_same : FM} (F : FunD K "_law_same" "_law_same" (defArgs (top 13)) (defBody (top 13)) (defScope (top 13)) [] [] fa fd) (hm : mg "_law_same" = some (.ref fa)) (Z : Fz mg) (C_law_same : Cal P w K mg base "_law_same" (defArgs (top 13)) ["_law_found", "_law_due"] k .fz f_law_same) :
    Cal P w K mg base "_law_same" (defArgs (top 13)) ["_law_found", "_law_due"] (k + 1) .fz (bodyM 4 fun _ => b_law_same f_law_same) :=
  have nd : (["_law_found", "_law_due", "_law_one", "_law_two"] : List Str).Nodup := sc_law_same.nd
  Cal.mk2 F (fn_ok F sc_law_same rfl (.inl rfl) (fun cdv A outer s H E hr => by
    conv => arg 3; whnf
    exact (s_cons (p_if (t_val (e_isi2 kc_list kc_tuple (by rfl) Z.isinstance (E2.bw (e_var (pv 1))) (pe_bltn (v := .ty "list") (by rfl) Z.list (by decide +kernel) rfl) (pe_bltn (v := .ty "tuple") (by rfl) Z.tuple (by decide +kernel) rfl))) (s_cons (p_if (W2.t (w_or (t_ne hr (E2.bw (e_isi kc_list (by rfl) Z.isinstance (E2.bw (e_var (pv 0))) (pe_bltn (v := .ty "list") (by rfl) Z.list (by decide +kernel) rfl))) (E2.bw (e_isi kc_list (by rfl) Z.isinstance (E2.bw (e_var (pv 1))) (pe_bltn (v := .ty "list") (by rfl) Z.list (by decide +kernel) rfl)))) (w_or1 (t_ne hr (E2.bw (e_isi kc_tuple (by rfl) Z.isinstance (E2.bw (e_var (pv 0))) (pe_bltn (v := .ty "tuple") (by rfl) Z.tuple (by decide +kernel) rfl))) (E2.bw (e_isi kc_tuple (by rfl) Z.isinstance (E2.bw (e_var (pv 1))) (pe_bltn (v := .ty "tuple") (by rfl) Z.tuple (by decide +kernel) rfl))))))) (s_one (p_ret e_bl)) s_nil) (s_one (p_ret (e_and (e_eq hr (E2.bw (e_len (by rfl) Z.len (E2.bw (e_var (pv 0))))) (E2.bw (e_len (by rfl) Z.len (E2.bw (e_var (pv 1)))))) (e_one (e_all rfl (E2.bw (e_lc (own := [("_law_one", 2), ("_law_two", 3)]) rfl nd (I2.j (i_zip (by rfl) Z.zip (e_var (pv 0)) (e_var (pv 1)))) (blkOk_by rfl) (fun _ _ _ _ _ => (g_tup rfl (gs_cons (g_name (i := 2) (pg_name (i := 2) nd rfl (by first | exact Or.inl rfl | exact Or.inr rfl))) (gs_cons (g_name (i := 3) (pg_name (i := 3) nd rfl (by first | exact Or.inl rfl | exact Or.inr rfl))) gs_nil)))) (fun _ _ _ _ _ => c_nil) (fun _ _ _ _ _ => (e_cal C_law_same hr (by rfl) (a_cons (e_var (pv 2)) (a_cons (e_var (pv 3)) a_nil)))))) (by rfl) Z.all)))))) s_nil) (s_cons (p_if (W2.t (w_or (t_isN (E2.bw (e_var (pv 1)))) (w_or1 (t_isN (E2.bw (e_var (pv 0))))))) (s_one (p_ret (e_and (e_isN (E2.bw (e_var (pv 1)))) (e_one (e_isN (E2.bw (e_var (pv 0)))))))) s_nil) (s_cons (p_if (W2.t (w_or (t_val (e_isi kc_bool (by rfl) Z.isinstance (E2.bw (e_var (pv 1))) (pe_bltn (v := .ty "bool") (by rfl) Z.bool (by decide +kernel) rfl))) (w_or1 (t_val (e_isi kc_str (by rfl) Z.isinstance (E2.bw (e_var (pv 1))) (pe_bltn (v := .ty "str") (by rfl) Z.str (by decide +kernel) rfl)))))) (s_one (p_ret (e_and (e_eq hr (E2.bw (e_isi kc_bool (by rfl) Z.isinstance (E2.bw (e_var (pv 0))) (pe_bltn (v := .ty "bool") (by rfl) Z.bool (by decide +kernel) rfl))) (E2.bw (e_isi kc_bool (by rfl) Z.isinstance (E2.bw (e_var (pv 1))) (pe_bltn (v := .ty "bool") (by rfl) Z.bool (by decide +kernel) rfl)))) (e_one (e_eq hr (E2.bw (e_var (pv 0))) (E2.bw (e_var (pv 1)))))))) s_nil) (s_one (p_ret (e_and (e_isi kc_int (by rfl) Z.isinstance (E2.bw (e_var (pv 0))) (pe_bltn (v := .ty "int") (by rfl) Z.int (by decide +kernel) rfl)) (e_and (e_not (e_isi kc_bool (by rfl) Z.isinstance (E2.bw (e_var (pv 0))) (pe_bltn (v := .ty "bool") (by rfl) Z.bool (by decide +kernel) rfl))) (e_one (e_eq hr (E2.bw (e_var (pv 0))) (E2.bw (e_var (pv 1))))))))))))) (fun z => nomatch z)) hm (fun _ _ _ _ _ _ us hl => match us, hl with | [_, _], _ => rfl)

def b_law_of (f_law_take : FM) : SM :=
  (sRet (m2 dIx (mVar 1) (mCal 2 f_law_take (kBox 0 (kCons (m1 dLen (mVar 1)) kNil)))))
theorem sc_law_of : FnScope ["_law_box", "_law_pool"] ["_law_box", "_law_pool"] (defScope (top 14)) := ⟨rfl, rfl, rfl, by decide +kernel, rfl, by decide +kernel, by decide +kernel⟩
theorem raw_law_of {k : Nat} {fa : Addr} {fd : FuncData} {f_law_take : FM} (F : FunD K "_law_of" "_law_of" (defArgs (top 14)) (defBody (top 14)) (defScope (top 14)) [] [] fa fd) (hm : mg "_law_of" = some (.ref fa)) (Z : Fz mg) (C_law_take : Cal P w K mg base "_law_take" (defArgs (top 11)) ["_law_box", "_law_many"] k .fz f_law_take) :
    Cal P w K mg base "_law_of" (defArgs (top 14)) ["_law_box", "_law_pool"] (k + 1) .fz (bodyM 2 fun _ => b_law_of f_law_take) :=
  have nd : (["_law_box", "_law_pool"] : List Str).Nodup := sc_law_of.nd
  Cal.mk2 F (fn_ok F sc_law_of rfl (.inl rfl) (fun cdv A outer s H E hr => by
    conv => arg 3; whnf
    exact (s_one (p_ret (e_ix (E2.bw (e_var (pv 1))) (E2.bw (e_cal C_law_take hr (by rfl) (a_box (i := 0) (pv 0) (a_cons (e_len (by rfl) Z.len (E2.bw (e_var (pv 1)))) a_nil)))))))) (fun z => nomatch z)) hm (fun _ _ _ _ _ _ us hl => match us, hl with | [_, _], _ => rfl)

def b_law_row (f_law_take f_law_of : FM) : SM :=
  (sSeq (sPar3 .fz .fz .fz 2 3 4 (m2 dAdd (mC (.int 1)) (mCal 2 f_law_take (kBox 0 (kCons (mVar 1) kNil)))) (mCal 2 f_law_take (kBox 0 (kCons (mC (.int 6)) kNil))) (mCal 2 f_law_of (kBox 0 (kCons (mLst (aCons (mC (.int 0)) (aCons (mC (.int 0)) (aCons (mC (.int 1)) (aCons (mC (.int 3)) aNil))))) kNil)))) (sSeq (sPar .fz .fz 5 6 (m2 dIx (mLst (aCons (mC (.int 9)) (aCons (mC (.int 9)) (aCons (mC (.int 30)) (aCons (mC (.int 60)) (aCons (mC (.int 25)) (aCons (mC (.int 200)) aNil))))))) (mVar 3)) (m2 dIx (mLst (aCons (mC (.int 3)) (aCons (mC (.int 1)) (aCons (mC (.int 1)) (aCons (mC (.int 10)) (aCons (mC (.int 4)) (aCons (mC (.int 40)) aNil))))))) (mVar 3))) (sSeq (sPar .fz .fz 7 8 (m2 dIx (mLst (aCons (mC (.int 0)) (aCons (m1 dNeg (mC (.int 4))) (aCons (m1 dNeg (mC (.int 15))) (aCons (mC (.int 0)) (aCons (m2 dSub (m2 dPow (mC (.int 10)) (mC (.int 12))) (mC (.int 1000))) (aCons (m1 dNeg (mC (.int 100))) aNil))))))) (mVar 3)) (mIf (mT (m2 dEq (mVar 3) (mC (.int 2)))) (mCal 2 f_law_take (kBox 0 (kCons (mC (.int 6)) kNil))) (mC (.int 0)))) (sSeq (sSet .nw 9 (mLst aNil)) (sSeq (sFor (iR1 (mVar 2)) (gN 10) (sX (xMt oApp 9 (aCons (mTup (aCons (m2 dAdd (m2 dAdd (mVar 7) (m2 dMul (mVar 4) (mVar 10))) (mCal 2 f_law_take (kBox 0 (kCons (mVar 5) kNil)))) (aCons (m2 dAdd (mVar 8) (mCal 2 f_law_take (kBox 0 (kCons (mVar 6) kNil)))) aNil))) aNil)))) (sRet (m1 dTuple (mVarO 9))))))))
theorem sc_law_row : FnScope ["_law_box", "_law_most", "_law_many", "_law_way", "_law_rise", "_law_high", "_law_dear", "_law_base", "_law_toll", "_law_found", "_law_spot"] ["_law_box", "_law_most"] (defScope (top 15)) := ⟨rfl, rfl, rfl, by decide +kernel, rfl, by decide +kernel, by decide +kernel⟩
theorem raw_law_row {k : Nat} {fa : Addr} {fd : FuncData} {f_law_take f_law_of : FM} (F : FunD K "_law_row" "_law_row" (defArgs (top 15)) (defBody (top 15)) (defScope (top 15)) [] [] fa fd) (hm : mg "_law_row" = some (.ref fa)) (Z : Fz mg) (C_law_take : Cal P w K mg base "_law_take" (defArgs (top 11)) ["_law_box", "_law_many"] k .fz f_law_take) (C_law_of : Cal P w K mg base "_law_of" (defArgs (top 14)) ["_law_box", "_law_pool"] k .fz f_law_of) :
    Cal P w K mg base "_law_row" (defArgs (top 15)) ["_law_box", "_law_most"] (k + 1) .fz (bodyM 11 fun _ => b_law_row f_law_take f_law_of) :=
  have nd : (["_law_box", "_law_most", "_law_many", "_law_way", "_law_rise", "_law_high", "_law_dear", "_law_base", "_law_toll", "_law_found", "_law_spot"] : List Str).Nodup := sc_law_row.nd
  Cal.mk2 F (fn_ok F sc_law_row rfl (.inl rfl) (fun cdv A outer s H E hr => by
    conv => arg 3; whnf
    exact (s_cons (p_par3 (k1 := .fz) (k2 := .fz) (k3 := .fz) (i := 2) (j := 3) (l := 4) (fun z => nomatch z) (fun z => nomatch z) (fun z => nomatch z) rfl nd rfl rfl rfl (by decide) (by decide) (by decide) rfl rfl rfl (e_add (E2.bw e_int) (E2.bw (e_cal C_law_take hr (by rfl) (a_box (i := 0) (pv 0) (a_cons (e_var (pv 1)) a_nil))))) (e_cal C_law_take hr (by rfl) (a_box (i := 0) (pv 0) (a_cons e_int a_nil))) (e_cal C_law_of hr (by rfl) (a_box (i := 0) (pv 0) (a_cons (E2.fz (e_lst (d_cons e_int (d_cons e_int (d_cons e_int (d_cons e_int d_nil)))))) a_nil)))) (s_cons (p_par (k1 := .fz) (k2 := .fz) (i := 5) (j := 6) (fun z => nomatch z) (fun z => nomatch z) rfl nd rfl rfl (by decide) rfl rfl (e_ix (E2.bw (e_lst (d_cons e_int (d_cons e_int (d_cons e_int (d_cons e_int (d_cons e_int (d_cons e_int d_nil)))))))) (E2.bw (e_var (pv 3)))) (e_ix (E2.bw (e_lst (d_cons e_int (d_cons e_int (d_cons e_int (d_cons e_int (d_cons e_int (d_cons e_int d_nil)))))))) (E2.bw (e_var (pv 3))))) (s_cons (p_par (k1 := .fz) (k2 := .fz) (i := 7) (j := 8) (fun z => nomatch z) (fun z => nomatch z) rfl nd rfl rfl (by decide) rfl rfl (e_ix (E2.bw (e_lst (d_cons e_int (d_cons (e_neg (E2.bw e_int)) (d_cons (e_neg (E2.bw e_int)) (d_cons e_int (d_cons (e_sub (E2.bw (e_pow (E2.bw e_int) (E2.bw e_int))) (E2.bw e_int)) (d_cons (e_neg (E2.bw e_int)) d_nil)))))))) (E2.bw (e_var (pv 3)))) (e_if (t_eq hr (E2.bw (e_var (pv 3))) (E2.bw e_int)) (e_cal C_law_take hr (by rfl) (a_box (i := 0) (pv 0) (a_cons e_int a_nil))) e_int)) (s_cons (p_set (k := .nw) (i := 9) (fun z => nomatch z) nd rfl (by first | exact Or.inl rfl | exact Or.inr rfl) (e_lst d_nil)) (s_cons (p_for PassesOwn.never rfl (i_range1 (by rfl) Z.range (E2.bw (e_var (pv 2)))) (g_name (i := 10) (pg_name (i := 10) nd rfl (by first | exact Or.inl rfl | exact Or.inr rfl))) (s_one (p_exprX (x_app (pv 9) (d_cons (e_tup (d_cons (e_add (E2.bw (e_add (E2.bw (e_var (pv 7))) (E2.bw (e_mul (E2.bw (e_var (pv 4))) (E2.bw (e_var (pv 10))))))) (E2.bw (e_cal C_law_take hr (by rfl) (a_box (i := 0) (pv 0) (a_cons (e_var (pv 5)) a_nil))))) (d_cons (e_add (E2.bw (e_var (pv 8))) (E2.bw (e_cal C_law_take hr (by rfl) (a_box (i := 0) (pv 0) (a_cons (e_var (pv 6)) a_nil))))) d_nil))) d_nil))))) (s_one (p_ret (e_tuple (by rfl) Z.tuple (e_varO (pv 9))))))))))) (fun z => nomatch z)) hm (fun _ _ _ _ _ _ us hl => match us, hl with | [_, _], _ => rfl)

def b_law_lets : SM :=
  (sRet (mAnd (m2 dGt (mVar 1) (mC (.int 0))) (m2 dGt (m2 dSub (m2 dIx (m2 dIx (mVar 0) (mVar 1)) (mC (.int 0))) (m2 dIx (m2 dIx (mVar 0) (m2 dSub (mVar 1) (mC (.int 1)))) (mC (.int 1)))) (m2 dIx (m2 dIx (mVar 0) (m2 dSub (mVar 1) (mC (.int 1)))) (mC (.int 0))))))
theorem sc_law_lets : FnScope ["_law_pen", "_law_spot"] ["_law_pen", "_law_spot"] (defScope (top 16)) := ⟨rfl, rfl, rfl, by decide +kernel, rfl, by decide +kernel, by decide +kernel⟩
theorem raw_law_lets {k : Nat} {fa : Addr} {fd : FuncData} (F : FunD K "_law_lets" "_law_lets" (defArgs (top 16)) (defBody (top 16)) (defScope (top 16)) [] [] fa fd) (hm : mg "_law_lets" = some (.ref fa)) (Z : Fz mg)  :
    Cal P w K mg base "_law_lets" (defArgs (top 16)) ["_law_pen", "_law_spot"] (k + 1) .fz (bodyM 2 fun _ => b_law_lets ) :=
  have nd : (["_law_pen", "_law_spot"] : List Str).Nodup := sc_law_lets.nd
  Cal.mk2 F (fn_ok F sc_law_lets rfl (.inl rfl) (fun cdv A outer s H E hr => by
    conv => arg 3; whnf
    exact (s_one (p_ret (e_and (e_gt (E2.bw (e_var (pv 1))) (E2.bw e_int)) (e_one (e_gt (E2.bw (e_sub (E2.bw (e_ix (E2.bw (e_ix (E2.bw (e_var (pv 0))) (E2.bw (e_var (pv 1))))) (E2.bw e_int))) (E2.bw (e_ix (E2.bw (e_ix (E2.bw (e_var (pv 0))) (E2.bw (e_sub (E2.bw (e_var (pv 1))) (E2.bw e_int))))) (E2.bw e_int))))) (E2.bw (e_ix (E2.bw (e_ix (E2.bw (e_var (pv 0))) (E2.bw (e_sub (E2.bw (e_var (pv 1))) (E2.bw e_int))))) (E2.bw e_int))))))))) (fun z => nomatch z)) hm (fun _ _ _ _ _ _ us hl => match us, hl with | [_, _], _ => rfl)

def b_law_passed : SM :=
  (sSeq (sAsg (mTup (aCons (m2 dIx (mVar 0) (m2 dSub (mVar 1) (mC (.int 1)))) (aCons (m2 dIx (mVar 0) (mVar 1)) aNil))) (gT 2 (gsCons (gN 2) (gsCons (gT 2 (gsCons (gN 3) (gsCons (gN 4) gsNil))) gsNil)))) (sRet (m2 dCatT (m2 dCatT (mSl dSl (mVar 0) oNone (oSome (m2 dSub (mVar 1) (mC (.int 1))))) (mTup (aCons (mTup (aCons (m2 dSub (mVar 3) (m2 dIx (mVar 2) (mC (.int 1)))) (aCons (mVar 4) aNil))) (aCons (mVar 2) aNil)))) (mSl dSl (mVar 0) (oSome (m2 dAdd (mVar 1) (mC (.int 1)))) oNone))))
theorem sc_law_passed : FnScope ["_law_pen", "_law_spot", "_law_ahead", "_law_strength", "_law_toll"] ["_law_pen", "_law_spot"] (defScope (top 17)) := ⟨rfl, rfl, rfl, by decide +kernel, rfl, by decide +kernel, by decide +kernel⟩
theorem raw_law_passed {k : Nat} {fa : Addr} {fd : FuncData} (F : FunD K "_law_passed" "_law_passed" (defArgs (top 17)) (defBody (top 17)) (defScope (top 17)) [] [] fa fd) (hm : mg "_law_passed" = some (.ref fa)) (Z : Fz mg)  :
    Cal P w K mg base "_law_passed" (defArgs (top 17)) ["_law_pen", "_law_spot"] (k + 1) .fz (bodyM 5 fun _ => b_law_passed ) :=
  have nd : (["_law_pen", "_law_spot", "_law_ahead", "_law_strength", "_law_toll"] : List Str).Nodup := sc_law_passed.nd
  Cal.mk2 F (fn_ok F sc_law_passed rfl (.inl rfl) (fun cdv A outer s H E hr => by
    conv => arg 3; whnf
    exact (s_cons (p_asg (e_tup (d_cons (e_ix (E2.bw (e_var (pv 0))) (E2.bw (e_sub (E2.bw (e_var (pv 1))) (E2.bw e_int)))) (d_cons (e_ix (E2.bw (e_var (pv 0))) (E2.bw (e_var (pv 1)))) d_nil))) (g_tup rfl (gs_cons (g_name (i := 2) (pg_name (i := 2) nd rfl (by first | exact Or.inl rfl | exact Or.inr rfl))) (gs_cons (g_tup rfl (gs_cons (g_name (i := 3) (pg_name (i := 3) nd rfl (by first | exact Or.inl rfl | exact Or.inr rfl))) (gs_cons (g_name (i := 4) (pg_name (i := 4) nd rfl (by first | exact Or.inl rfl | exact Or.inr rfl))) gs_nil))) gs_nil)))) (s_one (p_ret (e_catT (E2.bw (e_catT (E2.bw (e_sl (E2.bw (e_var (pv 0))) o_none (o_some (E2.bw (e_sub (E2.bw (e_var (pv 1))) (E2.bw e_int)))))) (E2.bw (e_tup (d_cons (e_tup (d_cons (e_sub (E2.bw (e_var (pv 3))) (E2.bw (e_ix (E2.bw (e_var (pv 2))) (E2.bw e_int)))) (d_cons (e_var (pv 4)) d_nil))) (d_cons (e_var (pv 2)) d_nil)))))) (E2.bw (e_sl (E2.bw (e_var (pv 0))) (o_some (E2.bw (e_add (E2.bw (e_var (pv 1))) (E2.bw e_int)))) o_none))))))) (fun z => nomatch z)) hm (fun _ _ _ _ _ _ us hl => match us, hl with | [_, _], _ => rfl)

def b_law_barred (f_passed : FM) : SM :=
  (sSeq (sSet .fz 2 (mC .none)) (sSeq (sTry exL ["MayNot", "NotLet"] 3 2 (sDropX (xCall 2 f_passed (kCons (mVar 0) (kCons (mVar 1) kNil))))) (sRet (mIf (cAnd (mT (m1 (dIsX exL [(.own "MayNot")]) (mVar 2))) (mT (m1 (dIsX exL [(.ty "RuntimeError")]) (mVar 2)))) (m1 (dAtt exL "place") (mVar 2)) (mC .none)))))
theorem sc_law_barred : FnScope ["_law_pen", "_law_spot", "_law_caught", "error"] ["_law_pen", "_law_spot"] (defScope (top 18)) := ⟨rfl, rfl, rfl, by decide +kernel, rfl, by decide +kernel, by decide +kernel⟩
theorem raw_law_barred {k : Nat} {fa : Addr} {fd : FuncData} {f_passed : FM} (F : FunD K "_law_barred" "_law_barred" (defArgs (top 18)) (defBody (top 18)) (defScope (top 18)) [] [] fa fd) (hm : mg "_law_barred" = some (.ref fa)) (Z : Fz mg) (T : XT K mg exL) (fz_RuntimeError : mg "RuntimeError" = none) (C_passed : CalX P w K mg base "passed" (defArgs (top 8)) ["row", "place"] k .fz f_passed) :
    Cal P w K mg base "_law_barred" (defArgs (top 18)) ["_law_pen", "_law_spot"] (k + 1) .fz (bodyM 4 fun _ => b_law_barred f_passed) :=
  have nd : (["_law_pen", "_law_spot", "_law_caught", "error"] : List Str).Nodup := sc_law_barred.nd
  Cal.mk2 F (fn_ok F sc_law_barred rfl (.inl rfl) (fun cdv A outer s H E hr => by
    conv => arg 3; whnf
    exact (s_cons (p_set (k := .fz) (i := 2) (fun z => nomatch z) nd rfl (by first | exact Or.inl rfl | exact Or.inr rfl) e_non) (s_cons (p_try (i := 3) (j := 2) (cs := ["MayNot", "NotLet"]) T (by decide +kernel) rfl rfl nd rfl rfl (nms_cons T (by decide +kernel) (by rfl) (nms_cons T (by decide +kernel) (by rfl) .nil)) (by decide) (by decide) (fun pn xe po => (s_one (p_exprX2 (e_calX C_passed hr (by rfl) (a_cons (e_var (pv 0)) (a_cons (e_var (pv 1)) a_nil)))))) (fun _ _ => pss_one (ps_set nd rfl (by first | exact Or.inl rfl | exact Or.inr rfl) (pv 3)))) (s_one (p_ret (e_if (W2.t (w_and (t_val (e_isX (cn := (.own "MayNot")) T (by simp [cnsOf, exL]) (by rfl) Z.isinstance (E2.bw (e_var (pv 2))) (pe_own T (by rfl) (by decide +kernel)))) (w_and1 (t_val (e_isX (cn := (.ty "RuntimeError")) T (by simp [cnsOf, exL]) (by rfl) Z.isinstance (E2.bw (e_var (pv 2))) (pe_bltn (v := .ty "RuntimeError") (by rfl) fz_RuntimeError (by decide +kernel) rfl)))))) (e_attX T (e_var (pv 2))) e_non)))))) (fun z => nomatch z)) hm (fun _ _ _ _ _ _ us hl => match us, hl with | [_, _], _ => rfl)

def b_law_one_right (f_may_pass f_law_same f_law_barred f_law_lets f_passed f_law_passed : FM) : SM :=
  (sSeq (sAsg (mTup (aCons (mLc (iR1 (m1 dLen (mVar 1))) (gN 2) (mT (mCal 2 f_law_lets (kCons (mVar 1) (kCons (mVar 2) kNil)))) (mVar 2) [2]) (aCons (m1 dRepr (mVar 1)) aNil))) (gT 2 (gsCons (gN 3) (gsCons (gN 4) gsNil)))) (sNest 5 (mLst (aCons (mCal 1 f_may_pass (kCons (mVar 1) kNil)) (aCons (mCal 1 f_may_pass (kPerm 0 1 [0] kNil (kCons (mVar 1) kNil))) aNil))) (qIf (cNot (mT (mCal 2 f_law_same (kCons (mVar 5) (kCons (mLst (aCons (mVar 3) (aCons (mVar 3) aNil))) kNil))))) (mC (.bool false)) qNil) (mMod [0] (oA (.int 0)) mEnd) (sSeq (sFor (iIt (mVar 3)) (gN 2) (sIf (cNot (mT (mCal 2 f_law_same (kCons (mLst (aCons (mCal 2 f_passed (kCons (mVar 1) (kCons (mVar 2) kNil))) (aCons (mCal 2 f_passed (kPerm 0 2 [1, 0] kNil (kCons (mVar 2) (kCons (mVar 1) kNil)))) aNil))) (kCons (m2 dRepL (mLst (aCons (mCal 2 f_law_passed (kCons (mVar 1) (kCons (mVar 2) kNil))) aNil)) (mC (.int 2))) kNil))))) (sRet (mC (.bool false))) sNext)) (sSeq (sFor (iIt (m2 dCatL (mLc (iR1 (m1 dLen (mVar 1))) (gN 2) (mT (m2 (dMem true) (mVar 2) (mVar 3))) (mVar 2) [2]) (mLst (aCons (m1 dNeg (mC (.int 1))) (aCons (m1 dLen (mVar 1)) (aCons (m2 dPow (mC (.int 10)) (mC (.int 12))) aNil)))))) (gN 2) (sIf (mT (m2 dNe (mCal 2 f_law_barred (kCons (mVar 1) (kCons (mVar 2) kNil))) (mVar 2))) (sRet (mC (.bool false))) sNext)) (sRet (mAnd (mCal 2 f_law_same (kCons (mCal 1 f_may_pass (kCons (mVar 1) kNil)) (kCons (mVar 3) kNil))) (m2 dEq (m1 dRepr (mVar 1)) (mVar 4))))))))
theorem sc_law_one_right : FnScope ["_law_box", "_law_pen", "_law_spot", "_law_due", "_law_kept", "_law_told"] ["_law_box", "_law_pen"] (defScope (top 19)) := ⟨rfl, rfl, rfl, by decide +kernel, rfl, by decide +kernel, by decide +kernel⟩
theorem raw_law_one_right {k : Nat} {fa : Addr} {fd : FuncData} {f_may_pass f_law_same f_law_barred f_law_lets f_passed f_law_passed : FM} (F : FunD K "_law_one_right" "_law_one_right" (defArgs (top 19)) (defBody (top 19)) (defScope (top 19)) [] [] fa fd) (hm : mg "_law_one_right" = some (.ref fa)) (Z : Fz mg) (C_may_pass : Cal P w K mg base "may_pass" (defArgs (top 6)) ["row"] k .nw f_may_pass) (C_law_same : Cal P w K mg base "_law_same" (defArgs (top 13)) ["_law_found", "_law_due"] k .fz f_law_same) (C_law_barred : Cal P w K mg base "_law_barred" (defArgs (top 18)) ["_law_pen", "_law_spot"] k .fz f_law_barred) (C_law_lets : Cal P w K mg base "_law_lets" (defArgs (top 16)) ["_law_pen", "_law_spot"] k .fz f_law_lets) (C_passed : CalX P w K mg base "passed" (defArgs (top 8)) ["row", "place"] k .fz f_passed) (C_law_passed : Cal P w K mg base "_law_passed" (defArgs (top 17)) ["_law_pen", "_law_spot"] k .fz f_law_passed) :
    GCal P w K mg base "_law_one_right" (defArgs (top 19)) ["_law_box", "_law_pen"] (k + 1) .fz (bodyM 6 fun _ => b_law_one_right f_may_pass f_law_same f_law_barred f_law_lets f_passed f_law_passed) :=
  have nd : (["_law_box", "_law_pen", "_law_spot", "_law_due", "_law_kept", "_law_told"] : List Str).Nodup := sc_law_one_right.nd
  GCal.mk2 F (gn_ok F sc_law_one_right rfl rfl (fun cdv A outer s H E hgd hr => by
    conv => arg 3; whnf
    exact (s_cons (p_asg (e_tup (d_cons (E2.fz (e_lc (own := [("_law_spot", 2)]) rfl nd (I2.j (i_range1 (by rfl) Z.range (E2.bw (e_len (by rfl) Z.len (E2.bw (e_var (pv 1))))))) (blkOk_by rfl) (fun _ _ _ _ _ => (g_name (i := 2) (pg_name (i := 2) nd rfl (by first | exact Or.inl rfl | exact Or.inr rfl)))) (fun _ _ _ _ _ => (c_one (t_val (e_cal C_law_lets hr (by rfl) (a_cons (e_var (pv 1)) (a_cons (e_var (pv 2)) a_nil)))))) (fun _ _ _ _ _ => (e_var (pv 2))))) (d_cons (e_repr hgd hr (by rfl) Z.repr (E2.bw (e_var (pv 1)))) d_nil))) (g_tup rfl (gs_cons (g_name (i := 3) (pg_name (i := 3) nd rfl (by first | exact Or.inl rfl | exact Or.inr rfl))) (gs_cons (g_name (i := 4) (pg_name (i := 4) nd rfl (by first | exact Or.inl rfl | exact Or.inr rfl))) gs_nil)))) (s_nest (k := 2) (i := 5) nd rfl (by first | exact Or.inl rfl | exact Or.inr rfl) (e_lstN (dn_cons (E2.n1 (e_cal C_may_pass hr (by rfl) (a_cons (e_var (pv 1)) a_nil))) (dn_cons (E2.n1 (e_calKW (ks := ["row"]) (is := [0]) C_may_pass hr (by rfl) (fun _ _ _ _ _ _ _ _ _ us ws l1 l2 => match us, ws, l1, l2 with | [], [_], _, _ => rfl) (k_cons (e_var (pv 1)) k_nil))) dn_nil))) (fun Wx tk => (q_if (t_not (t_val (e_cal C_law_same hr (by rfl) (a_cons (e_var (pv 5)) (a_cons (E2.fz (e_lst (d_cons (e_var (pv 3)) (d_cons (e_var (pv 3)) d_nil)))) a_nil))))) e_bl (q_nil (m_app (c := .int 0) (pa_ix (pa_name (pv 5))) pe_int (m_end ((s_cons (p_for PassesOwn.never rfl (i_seq (e_var (pv 3))) (g_name (i := 2) (pg_name (i := 2) nd rfl (by first | exact Or.inl rfl | exact Or.inr rfl))) (s_one (p_if (t_not (t_val (e_cal C_law_same hr (by rfl) (a_cons (E2.fz (e_lst (d_cons (e_calN C_passed hr (by rfl) (a_cons (e_var (pv 1)) (a_cons (e_var (pv 2)) a_nil))) (d_cons (e_calKWN (ks := ["place", "row"]) (is := [1, 0]) C_passed hr (by rfl) (fun _ _ _ _ _ _ _ _ _ us ws l1 l2 => match us, ws, l1, l2 with | [], [_, _], _, _ => rfl) (k_cons (e_var (pv 2)) (k_cons (e_var (pv 1)) k_nil))) d_nil)))) (a_cons (E2.fz (e_repL (e_lst (d_cons (e_cal C_law_passed hr (by rfl) (a_cons (e_var (pv 1)) (a_cons (e_var (pv 2)) a_nil))) d_nil)) (E2.bw e_int))) a_nil))))) (s_one (p_ret e_bl)) s_nil))) (s_cons (p_for PassesOwn.never rfl (i_seq (E2.fz (e_catL (E2.bw (e_lc (own := [("_law_spot", 2)]) rfl nd (I2.j (i_range1 (by rfl) Z.range (E2.bw (e_len (by rfl) Z.len (E2.bw (e_var (pv 1))))))) (blkOk_by rfl) (fun _ _ _ _ _ => (g_name (i := 2) (pg_name (i := 2) nd rfl (by first | exact Or.inl rfl | exact Or.inr rfl)))) (fun _ _ _ _ _ => (c_one (t_nin hr (E2.bw (e_var (pv 2))) (E2.bw (e_var (pv 3)))))) (fun _ _ _ _ _ => (e_var (pv 2))))) (E2.bw (e_lst (d_cons (e_neg (E2.bw e_int)) (d_cons (e_len (by rfl) Z.len (E2.bw (e_var (pv 1)))) (d_cons (e_pow (E2.bw e_int) (E2.bw e_int)) d_nil)))))))) (g_name (i := 2) (pg_name (i := 2) nd rfl (by first | exact Or.inl rfl | exact Or.inr rfl))) (s_one (p_if (t_ne hr (E2.bw (e_cal C_law_barred hr (by rfl) (a_cons (e_var (pv 1)) (a_cons (e_var (pv 2)) a_nil)))) (E2.bw (e_var (pv 2)))) (s_one (p_ret e_bl)) s_nil))) (s_one (p_ret (e_and (e_cal C_law_same hr (by rfl) (a_cons (E2.fz (e_cal C_may_pass hr (by rfl) (a_cons (e_var (pv 1)) a_nil))) (a_cons (e_var (pv 3)) a_nil))) (e_one (e_eq hr (E2.bw (e_repr hgd hr (by rfl) Z.repr (E2.bw (e_var (pv 1))))) (E2.bw (e_var (pv 4)))))))))).ps Wx tk)))))))))) hm (fun _ _ _ _ _ _ us hl => match us, hl with | [_, _], _ => rfl)

def b_law_right (f_law_row f_law_take f_law_one_right f_may_pass : FM) : SM :=
  (sSeq (sFor (iR1 (mC (.int 6))) (gN 1) (sSeq (sSet .fz 2 (mCal 2 f_law_row (kBox 0 (kCons (mC (.int 24)) kNil)))) (sSeq (sIf (cNot (mT (mCal 2 f_law_one_right (kBox 0 (kCons (mVar 2) kNil))))) (sRet (mC (.bool false))) sNext) (sSeq (sSet .fz 3 (mCal 2 f_law_take (kBox 0 (kCons (m1 dLen (mVar 2)) kNil)))) (sIf (mT (m2 dGt (mVar 3) (mC (.int 0)))) (sSeq (sSet .fz 4 (m2 dAdd (m2 dIx (m2 dIx (mVar 2) (m2 dSub (mVar 3) (mC (.int 1)))) (mC (.int 0))) (m2 dIx (m2 dIx (mVar 2) (m2 dSub (mVar 3) (mC (.int 1)))) (mC (.int 1))))) (sFor (iIt (mTup (aCons (mC (.int 1)) (aCons (mC (.int 0)) aNil)))) (gN 5) (sSeq (sSet .fz 6 (m2 dCatT (m2 dCatT (mSl dSlT (mVar 2) oNone (oSome (mVar 3))) (mTup (aCons (mTup (aCons (m2 dAdd (mVar 4) (mVar 5)) (aCons (m2 dIx (m2 dIx (mVar 2) (mVar 3)) (mC (.int 1))) aNil))) aNil))) (mSl dSlT (mVar 2) (oSome (m2 dAdd (mVar 3) (mC (.int 1)))) oNone))) (sIf (cOr (mT (m2 dNe (m2 (dMem false) (mVar 3) (mCal 1 f_may_pass (kCons (mVar 6) kNil))) (m2 dEq (mVar 5) (mC (.int 1))))) (cNot (mT (mCal 2 f_law_one_right (kBox 0 (kCons (mVar 6) kNil)))))) (sRet (mC (.bool false))) sNext)))) sNext))))) (sRet (mC (.bool true))))
theorem sc_law_right : FnScope ["_law_box", "_law_turn", "_law_pen", "_law_spot", "_law_bar", "_law_more", "_law_other"] ["_law_box"] (defScope (top 20)) := ⟨rfl, rfl, rfl, by decide +kernel, rfl, by decide +kernel, by decide +kernel⟩
theorem raw_law_right {k : Nat} {fa : Addr} {fd : FuncData} {f_law_row f_law_take f_law_one_right f_may_pass : FM} (F : FunD K "_law_right" "_law_right" (defArgs (top 20)) (defBody (top 20)) (defScope (top 20)) [] [] fa fd) (hm : mg "_law_right" = some (.ref fa)) (Z : Fz mg) (C_law_row : Cal P w K mg base "_law_row" (defArgs (top 15)) ["_law_box", "_law_most"] k .fz f_law_row) (C_law_take : Cal P w K mg base "_law_take" (defArgs (top 11)) ["_law_box", "_law_many"] k .fz f_law_take) (C_law_one_right : GCal P w K mg base "_law_one_right" (defArgs (top 19)) ["_law_box", "_law_pen"] k .fz f_law_one_right) (C_may_pass : Cal P w K mg base "may_pass" (defArgs (top 6)) ["row"] k .nw f_may_pass) :
    GCal P w K mg base "_law_right" (defArgs (top 20)) ["_law_box"] (k + 1) .fz (bodyM 7 fun _ => b_law_right f_law_row f_law_take f_law_one_right f_may_pass) :=
  have nd : (["_law_box", "_law_turn", "_law_pen", "_law_spot", "_law_bar", "_law_more", "_law_other"] : List Str).Nodup := sc_law_right.nd
  GCal.mk2 F (gn_ok F sc_law_right rfl rfl (fun cdv A outer s H E hgd hr => by
    conv => arg 3; whnf
    exact (s_cons (p_for PassesOwn.never rfl (i_range1 (by rfl) Z.range (E2.bw e_int)) (g_name (i := 1) (pg_name (i := 1) nd rfl (by first | exact Or.inl rfl | exact Or.inr rfl))) (s_cons (p_set (k := .fz) (i := 2) (fun z => nomatch z) nd rfl (by first | exact Or.inl rfl | exact Or.inr rfl) (e_cal C_law_row hr (by rfl) (a_box (i := 0) (pv 0) (a_cons e_int a_nil)))) (s_cons (p_if (t_not (t_val (e_calG C_law_one_right hgd hr (by rfl) (a_box (i := 0) (pv 0) (a_cons (e_var (pv 2)) a_nil))))) (s_one (p_ret e_bl)) s_nil) (s_cons (p_set (k := .fz) (i := 3) (fun z => nomatch z) nd rfl (by first | exact Or.inl rfl | exact Or.inr rfl) (e_cal C_law_take hr (by rfl) (a_box (i := 0) (pv 0) (a_cons (e_len (by rfl) Z.len (E2.bw (e_var (pv 2)))) a_nil)))) (s_one (p_if (t_gt (E2.bw (e_var (pv 3))) (E2.bw e_int)) (s_cons (p_set (k := .fz) (i := 4) (fun z => nomatch z) nd rfl (by first | exact Or.inl rfl | exact Or.inr rfl) (e_add (E2.bw (e_ix (E2.bw (e_ix (E2.bw (e_var (pv 2))) (E2.bw (e_sub (E2.bw (e_var (pv 3))) (E2.bw e_int))))) (E2.bw e_int))) (E2.bw (e_ix (E2.bw (e_ix (E2.bw (e_var (pv 2))) (E2.bw (e_sub (E2.bw (e_var (pv 3))) (E2.bw e_int))))) (E2.bw e_int))))) (s_one (p_for PassesOwn.never rfl (i_seq (e_tup (d_cons e_int (d_cons e_int d_nil)))) (g_name (i := 5) (pg_name (i := 5) nd rfl (by first | exact Or.inl rfl | exact Or.inr rfl))) (s_cons (p_set (k := .fz) (i := 6) (fun z => nomatch z) nd rfl (by first | exact Or.inl rfl | exact Or.inr rfl) (e_catT (E2.bw (e_catT (E2.bw (e_slT (E2.bw (e_var (pv 2))) o_none (o_some (E2.bw (e_var (pv 3)))))) (E2.bw (e_tup (d_cons (e_tup (d_cons (e_add (E2.bw (e_var (pv 4))) (E2.bw (e_var (pv 5)))) (d_cons (e_ix (E2.bw (e_ix (E2.bw (e_var (pv 2))) (E2.bw (e_var (pv 3))))) (E2.bw e_int)) d_nil))) d_nil))))) (E2.bw (e_slT (E2.bw (e_var (pv 2))) (o_some (E2.bw (e_add (E2.bw (e_var (pv 3))) (E2.bw e_int)))) o_none)))) (s_one (p_if (W2.t (w_or (t_ne hr (E2.bw (e_in hr (E2.bw (e_var (pv 3))) (E2.bw (e_cal C_may_pass hr (by rfl) (a_cons (e_var (pv 6)) a_nil))))) (E2.bw (e_eq hr (E2.bw (e_var (pv 5))) (E2.bw e_int)))) (w_or1 (t_not (t_val (e_calG C_law_one_right hgd hr (by rfl) (a_box (i := 0) (pv 0) (a_cons (e_var (pv 6)) a_nil)))))))) (s_one (p_ret e_bl)) s_nil)))))) s_nil)))))) (s_one (p_ret e_bl))))) hm (fun _ _ _ _ _ _ us hl => match us, hl with | [_], _ => rfl)

def b_law (f_law_folded f_law_right f_law_dip : FM) : SM :=
  (sSeq (sSet .fz 1 (mCal 2 f_law_folded (kCons (mVar 0) (kCons (mC (.int 2)) kNil)))) (sRet (m1 dAll (mLc (iR1 (m2 dMax2 (mC (.int 1)) (m1 dLen (mVar 1)))) (gN 2) cYes (mCallBx f_law_right (mCal 2 f_law_dip (kCons (mVar 1) (kCons (mVar 2) kNil)))) [2]))))
theorem sc_law : FnScope ["_law_script", "_law_cells", "_law_k"] ["_law_script"] (defScope (top 21)) := ⟨rfl, rfl, rfl, by decide +kernel, rfl, by decide +kernel, by decide +kernel⟩
theorem raw_law {k : Nat} {fa : Addr} {fd : FuncData} {f_law_folded f_law_right f_law_dip : FM} (F : FunD K "law" "law" (defArgs (top 21)) (defBody (top 21)) (defScope (top 21)) [] [] fa fd) (hm : mg "law" = some (.ref fa)) (Z : Fz mg) (C_law_folded : Cal P w K mg base "_law_folded" (defArgs (top 12)) ["_law_script", "_law_many"] k .fz f_law_folded) (C_law_right : GCal P w K mg base "_law_right" (defArgs (top 20)) ["_law_box"] k .fz f_law_right) (C_law_dip : Cal P w K mg base "_law_dip" (defArgs (top 10)) ["_law_script", "_law_k"] k .nw f_law_dip) :
    GCal P w K mg base "law" (defArgs (top 21)) ["_law_script"] (k + 1) .fz (bodyM 3 fun _ => b_law f_law_folded f_law_right f_law_dip) :=
  have nd : (["_law_script", "_law_cells", "_law_k"] : List Str).Nodup := sc_law.nd
  GCal.mk2 F (gn_ok F sc_law rfl rfl (fun cdv A outer s H E hgd hr => by
    conv => arg 3; whnf
    exact (s_cons (p_set (k := .fz) (i := 1) (fun z => nomatch z) nd rfl (by first | exact Or.inl rfl | exact Or.inr rfl) (e_cal C_law_folded hr (by rfl) (a_cons (e_var (pv 0)) (a_cons e_int a_nil)))) (s_one (p_ret (e_all rfl (E2.bw (e_lc (own := [("_law_k", 2)]) rfl nd (I2.j (i_range1 (by rfl) Z.range (E2.bw (e_max2 rfl (E2.bw e_int) (E2.bw (e_len (by rfl) Z.len (E2.bw (e_var (pv 1))))) (by rfl) Z.max)))) (blkOk_by rfl) (fun _ _ _ _ _ => (g_name (i := 2) (pg_name (i := 2) nd rfl (by first | exact Or.inl rfl | exact Or.inr rfl)))) (fun _ _ _ _ _ => c_nil) (fun _ _ _ _ _ => (e_calBxG C_law_right rfl hgd hr (by rfl) (e_cal C_law_dip hr (by rfl) (a_cons (e_var (pv 1)) (a_cons (e_var (pv 2)) a_nil))))))) (by rfl) Z.all)))))) hm (fun _ _ _ _ _ _ us hl => match us, hl with | [_], _ => rfl)

end
end TL
set_option Elab.async false
set_option linter.all false
set_option maxRecDepth 100000
set_option maxHeartbeats 4000000
namespace TL
open PySem PySem.Spec PyProof.Rows L2
/-! ### comprehensions without draws -/
theorem lc_map {α : Type} {g : GM} {c : CM} {me : EM} {τw : Ev} (φ : α → D) (st : α → Ev) (p : α → Bool) (f : α → D) : ∀ (xs : List α), (∀ a ∈ xs, ∀ n R, R (st a) n → g (φ a) τw n R) → (∀ a ∈ xs, ∀ n R, R (p a) n → c (st a) n R) →
    (∀ a ∈ xs, p a = true → ∀ n R, R (f a) n → me (st a) n R) → ∀ (acc : List D) (n : Nat) (Q : D → Nat → Prop), acc.length + xs.length ≤ sizeLine → Q (.list (acc ++ (xs.filter p).map f)) n → lcD g c me τw (xs.map φ) acc n Q
  | [], _, _, _, acc, n, Q, _, q => by simpa [lcD] using q
  | a :: r, hg, hc, hm, acc, n, Q, hl, q => by
    have hl' : acc.length + (r.length + 1) ≤ sizeLine := hl
    refine hg a (by simp) n _ (hc a (by simp) n _ ?_)
    have ih := lc_map φ st p f r (fun b hb => hg b (List.mem_cons_of_mem _ hb)) (fun b hb => hc b (List.mem_cons_of_mem _ hb)) (fun b hb => hm b (List.mem_cons_of_mem _ hb))
    by_cases hp : p a = true
    · rw [if_pos hp]
      refine hm a (by simp) hp n _ ⟨by omega, ih (acc ++ [f a]) n Q (by rw [List.length_append]; simp only [List.length_cons, List.length_nil]; omega) ?_⟩
      rw [List.filter_cons_of_pos hp] at q
      simpa using q
    · rw [if_neg hp]
      refine ih acc n Q (by omega) ?_
      rw [List.filter_cons_of_neg hp] at q
      exact q
theorem rangeD_map (lo : Int) (k : Nat) : rangeD lo k = (List.range k).map fun j => .int (lo + (j : Nat)) := rfl
/-! ### _law_same -/
def Dk : Nat → D → Prop
  | 0, _ => False
  | k + 1, d => match d with
    | .list xs => xs.length ≤ sizeLine ∧ ∀ x ∈ xs, Dk k x
    | .tuple xs => xs.length ≤ sizeLine ∧ ∀ x ∈ xs, Dk k x
    | .dict _ => False
    | .str x => SeqAt.shaped (.str x) = true
    | _ => True
def Fsame : Nat → FM
  | 0 => fun _ _ _ _ => False
  | k + 1 => bodyM 4 fun _ => b_law_same (Fsame k)
theorem zipD_self (xs : List D) : zipD xs xs = xs.map fun x => rawP x x := by
  induction xs with
  | nil => rfl
  | cons x r ih => rw [zipD, ih]; rfl
theorem same_ok : ∀ (k : Nat) (d : D) (n : Nat) (P : D → Nat → Prop) (PX : XE → Nat → Prop), Dk k d → P (.bool true) n → Fsame k [.d d, .d d] n P PX
  | 0, _, _, _, _, h, _ => h.elim
  | k + 1, d, n, P, PX, h, p => by
    have lst : ∀ (xs : List D) (τ : Ev), (xs.length ≤ sizeLine ∧ ∀ x ∈ xs, Dk k x) → ∀ R : D → Nat → Prop, R (.list (List.replicate xs.length (.bool true))) n → lcD (gT 2 (gsCons (gN 2) (gsCons (gN 3) gsNil))) cYes (mCal 2 (Fsame k) (kCons (mVar 2) (kCons (mVar 3) kNil))) [τ.getD 0 none, τ.getD 1 none, none, none] (zipD xs xs) [] n R := fun xs τ hx R q => by
      rw [zipD_self]
      refine lc_map (fun x => rawP x x) (fun x => [τ.getD 0 none, τ.getD 1 none, some (.d x), some (.d x)]) (fun _ => true) (fun _ => .bool true) xs (fun a ha n R r => by simpa using r) (fun a ha n R r => by simpa using r) (fun a ha _ n R r => ?_) [] n R (by simpa using hx.1) ?_
      · simp
        exact same_ok k a n R _ (hx.2 a ha) r
      · rw [show xs.filter (fun _ => true) = xs from List.filter_eq_self.mpr (by simp)]
        simpa [List.map_const'] using q
    have all : ∀ m : Nat, dAll (.list (List.replicate m (.bool true))) (fun d => P d n) := fun m => ⟨List.replicate m true, by simp, by simpa using p⟩
    cases d with
    | dict _ => exact h.elim
    | list xs =>
      show bodyM 4 (fun _ => b_law_same (Fsame k)) _ _ _ _
      simp [b_law_same, isIn, tyD, wipeE]
      refine lst xs [some (.d (.list xs)), some (.d (.list xs))] h _ (all _)
    | tuple xs =>
      show bodyM 4 (fun _ => b_law_same (Fsame k)) _ _ _ _
      simp [b_law_same, isIn, tyD, wipeE]
      refine lst xs [some (.d (.tuple xs)), some (.d (.tuple xs))] h _ (all _)
    | str x =>
      show bodyM 4 (fun _ => b_law_same (Fsame k)) _ _ _ _
      have h' : SeqAt.shaped (.str x) = true := h
      simp [b_law_same, isIn, tyD, isN, h', p]
    | none =>
      show bodyM 4 (fun _ => b_law_same (Fsame k)) _ _ _ _
      simp [b_law_same, isIn, tyD, isN, p]
    | bool x =>
      show bodyM 4 (fun _ => b_law_same (Fsame k)) _ _ _ _
      simp [b_law_same, isIn, tyD, isN, p]
    | int x =>
      show bodyM 4 (fun _ => b_law_same (Fsame k)) _ _ _ _
      simp [b_law_same, isIn, tyD, isN, p]
end TL
set_option Elab.async false
set_option linter.all false
set_option maxRecDepth 100000
set_option maxHeartbeats 4000000
namespace TL
open PySem PySem.Spec PyProof.Rows L2
theorem lk0 {α : Type} {a : α} {xs : List α} : (a :: xs)[0]? = some a := rfl
theorem sz20 : 2 ^ 20 ≤ sizeLine := by decide
/-! ### rows -/
abbrev Row := List (Int × Int)
def pairD (p : Int × Int) : D := .tuple [.int p.1, .int p.2]
def rowD (l : Row) : D := .tuple (l.map pairD)
def gR (l : Row) (j : Nat) : Int × Int := l.getD j (0, 0)
theorem atI_nat {α : Type} (xs : List α) {i : Int} (h : 0 ≤ i) : atI xs i = xs[i.toNat]? := by
  unfold atI ixN
  rw [if_pos h]
  by_cases q : i < xs.length
  · rw [if_pos q]; rfl
  · rw [if_neg q, List.getElem?_eq_none (by omega)]; rfl
@[simp] theorem atI_0 {α : Type} {x : α} {xs : List α} : atI (x :: xs) 0 = some x := by rw [atI_nat _ (Int.le_refl 0)]; rfl
@[simp] theorem atI_1 {α : Type} {x y : α} {xs : List α} : atI (x :: y :: xs) 1 = some y := by rw [atI_nat _ (by decide)]; rfl
@[simp] theorem ix_pair0 {p : Int × Int} {P : D → Prop} : dIx (pairD p) (.int 0) P ↔ P (.int p.1) := by simp [pairD]
@[simp] theorem ix_pair1 {p : Int × Int} {P : D → Prop} : dIx (pairD p) (.int 1) P ↔ P (.int p.2) := by simp [pairD]
theorem ix_row {l : Row} {i : Int} {P : D → Prop} (h0 : 0 ≤ i) (h : i < l.length) : dIx (rowD l) (.int i) P ↔ P (pairD (gR l i.toNat)) := by
  have hl : i.toNat < l.length := by omega
  simp [rowD, atI_nat _ h0, hl, gR]
@[simp] theorem len_row {l : Row} {P : D → Prop} : dLen (rowD l) P ↔ P (.int l.length) := by simp [rowD]
theorem cut_to {α : Type} {xs : List α} {i : Int} (h : 0 ≤ i) : cutG xs none (some i) = xs.take i.toNat := by
  obtain ⟨k, rfl⟩ := Int.eq_ofNat_of_zero_le h
  unfold cutG
  rw [HT.sIx_none, HT.sIx_nat]
  simp [Nat.min_comm, List.take_take]
theorem cut_from {α : Type} {xs : List α} {i : Int} (h : 0 ≤ i) : cutG xs (some i) none = xs.drop i.toNat := by
  obtain ⟨k, rfl⟩ := Int.eq_ofNat_of_zero_le h
  unfold cutG
  rw [HT.sIx_none, HT.sIx_nat]
  simp
  by_cases hk : k ≤ xs.length
  · rw [Nat.min_eq_left hk, List.take_of_length_le (by simp)]
  · rw [Nat.min_eq_right (by omega), List.drop_of_length_le (Nat.le_refl _), List.drop_of_length_le (by omega)]
    simp
theorem sl_to {l : Row} {i : Int} {P : D → Prop} (h : 0 ≤ i) : dSl (rowD l) none (some i) P ↔ P (rowD (l.take i.toNat)) := by
  simp [rowD, cut_to h]
theorem sl_from {l : Row} {i : Int} {P : D → Prop} (h : 0 ≤ i) : dSl (rowD l) (some i) none P ↔ P (rowD (l.drop i.toNat)) := by
  simp [rowD, cut_from h]
@[simp] theorem cat_row {l l' : Row} {P : D → Prop} : dCatT (rowD l) (rowD l') P ↔ l.length + l'.length ≤ sizeLine ∧ P (rowD (l ++ l')) := by simp [rowD]
theorem row1 (a b : Int) : PyData.tuple [.tuple [.int a, .int b]] = rowD [(a, b)] := rfl
theorem row_cons (a b : Int) (p : Int × Int) : PyData.tuple [.tuple [.int a, .int b], pairD p] = rowD [(a, b), p] := rfl
theorem row_cons' (a b : Int) (p : Int × Int) : PyData.tuple [pairD p, .tuple [.int a, .int b]] = rowD [p, (a, b)] := rfl
@[simp] theorem gT_pair {g : GMs} {p : Int × Int} {τ : Ev} {n : Nat} {R : Ev → Nat → Prop} : gT 2 g (pairD p) τ n R ↔ g [.int p.1, .int p.2] τ n R := by simp [pairD]
/-! ### draws -/
def Fof : FM := bodyM 2 fun _ => b_law_of fTake
theorem of_ok {xs : List D} {n : Nat} {P : D → Nat → Prop} {PX : XE → Nat → Prop} (h0 : 0 < xs.length) (h1 : xs.length < 2 ^ 62) (hn : n < cap) (h : ∀ x ∈ xs, P x (n + 1)) : Fof [.box, .d (.list xs)] n P PX := by
  show bodyM 2 (fun _ => b_law_of fTake) _ _ _ _
  simp only [b_law_of, bodyM_ap, sRet_ap, m2_ap, mVar_ap, mCall_ap, kBox_ap, kCons_ap, kNil_ap, m1_ap]
  simp
  refine ⟨⟨h0, by omega⟩, hn, fun r h2 h3 => ?_⟩
  have hr : r.toNat < xs.length := by omega
  exact ⟨_, by rw [atI_nat _ h2]; exact List.getElem?_eq_getElem hr, h _ (List.getElem_mem hr)⟩
/-! ### deeds -/
def lets (l : Row) (j : Nat) : Bool := decide (0 < j) && decide ((gR l (j - 1)).1 < (gR l j).1 - (gR l (j - 1)).2)
def Flets : FM := bodyM 2 fun _ => b_law_lets
theorem lets_ok {l : Row} {j : Nat} {n : Nat} {P : D → Nat → Prop} {PX : XE → Nat → Prop} (hj : j < l.length) (h : P (.bool (lets l j)) n) : Flets [.d (rowD l), .d (.int j)] n P PX := by
  show bodyM 2 (fun _ => b_law_lets) _ _ _ _
  by_cases h0 : 0 < j
  · have e : ((j : Int) - 1).toNat = j - 1 := by omega
    simp (disch := omega) [lk0, b_law_lets, h0, ix_row, e]
    simpa [lets, h0] using h
  · have : j = 0 := by omega
    subst this
    simpa [b_law_lets, lets] using h
def passed (l : Row) (j : Nat) : Row := l.take (j - 1) ++ [((gR l j).1 - (gR l (j - 1)).2, (gR l j).2), gR l (j - 1)] ++ l.drop (j + 1)
def Fpassed : FM := bodyM 5 fun _ => b_law_passed
theorem passed_ok {l : Row} {j : Nat} {n : Nat} {P : D → Nat → Prop} {PX : XE → Nat → Prop} (h0 : 0 < j) (hj : j < l.length) (hl : l.length ≤ 1000) (h : P (rowD (passed l j)) n) : Fpassed [.d (rowD l), .d (.int j)] n P PX := by
  show bodyM 5 (fun _ => b_law_passed) _ _ _ _
  have e : ((j : Int) - 1).toNat = j - 1 := by omega
  have e2 : ((j : Int) + 1).toNat = j + 1 := by omega
  have z := sz20
  simp (disch := omega) [lk0, b_law_passed, ix_row, sl_to, sl_from, e, e2, row_cons]
  refine ⟨by omega, by omega, by omega, ?_⟩
  simpa [passed] using h
def fallen (l : Row) (j : Nat) : Row := l.take j ++ [gR l (j + 1), ((gR l j).1 + (gR l (j + 1)).2, (gR l j).2)] ++ l.drop (j + 2)
end TL
set_option Elab.async false
set_option linter.all false
set_option maxRecDepth 100000
set_option maxHeartbeats 4000000
namespace TL
open PySem PySem.Spec PyProof.Rows L2
theorem for_inv {g : GM} {b : SM} {E : En} (I : Nat → Ev → Nat → Prop) : ∀ (items : List D) (k : Nat) (τ : Ev) (n : Nat), I k τ n →
    (∀ (i : Nat) (x : D), items[i]? = some x → ∀ (τ : Ev) (n : Nat) (N : Ev → Nat → Prop), I (k + i) τ n → (∀ τ n, I (k + i + 1) τ n → N τ n) → g x τ n fun τ1 n1 => b { E with nx := N, ct := N, bk := E.nx } τ1 n1) →
    (∀ τ n, I (k + items.length) τ n → E.nx τ n) → forD items g b E τ n
  | [], k, τ, n, h0, _, hd => hd τ n h0
  | x :: r, k, τ, n, h0, hs, hd => hs 0 x rfl τ n _ h0 fun τ1 n1 h1 => for_inv I r (k + 1) τ1 n1 h1 (fun i y e τ n N h hN => hs (i + 1) y e τ n N (by rw [show k + (i + 1) = k + 1 + i by omega]; exact h) fun τ n z => hN τ n (by rw [show k + 1 + i + 1 = k + (i + 1) + 1 by omega]; exact z)) fun τ n h => hd τ n (by rw [List.length_cons, show k + (r.length + 1) = k + 1 + r.length by omega]; exact h)
theorem ix_ints {xs : List Int} {i : Int} {P : D → Prop} (h0 : 0 ≤ i) (h : i < xs.length) (hP : ∀ v ∈ xs, P (.int v)) : dIx (.list (xs.map .int)) (.int i) P := by
  have hl : i.toNat < xs.length := by omega
  rw [dIx_L]
  refine ⟨.int xs[i.toNat], ?_, hP _ (List.getElem_mem hl)⟩
  rw [atI_nat _ h0]
  simp [hl]
/-- strengths to S either way, tolls to T -/
structure RowOk (S T : Int) (l : Row) : Prop where
  s : ∀ p ∈ l, -S ≤ p.1 ∧ p.1 ≤ S
  t : ∀ p ∈ l, 0 ≤ p.2 ∧ p.2 ≤ T
def Frow : FM := bodyM 11 fun _ => b_law_row fTake Fof
theorem mul64 {i j : Int} (h1 : -(2 ^ 63) < j) (h2 : j < 2 ^ 63) : IntMulOk i j := .of_right (intBits_le_64 (by omega) (by omega))
theorem row_loop {most : Int} {way : D} {rise high dear base toll many : Int} {n : Nat} {P : D → Nat → Prop} {PX : XE → Nat → Prop} (hr : 0 ≤ rise ∧ rise ≤ 3) (hh : 1 ≤ high ∧ high ≤ 200) (hd : 1 ≤ dear ∧ dear ≤ 40) (hb : -100 ≤ base ∧ base ≤ 10 ^ 12) (ht : 0 ≤ toll ∧ toll ≤ 5) (hm : 1 ≤ many ∧ many ≤ 64) (hn : n + 140 < cap)
    (h : ∀ l n', RowOk (2 * 10 ^ 12) 50 l → (l.length : Int) = many → n' ≤ n + 140 → P (rowD l) n') :
    forD (rangeD 0 many.toNat) (gN 10) (sX (xMt oApp 9 (aCons (mTup (aCons (m2 dAdd (m2 dAdd (mVar 7) (m2 dMul (mVar 4) (mVar 10))) (mCal 2 fTake (kBox 0 (kCons (mVar 5) kNil)))) (aCons (m2 dAdd (mVar 8) (mCal 2 fTake (kBox 0 (kCons (mVar 6) kNil)))) aNil))) aNil)))
      { nx := fun τ' n' => ∃ x, τ'[9]? = some (some (Sl.ow x)) ∧ P (PyData.tuple x) n', rt := P }
      [some Sl.box, some (Sl.d (PyData.int most)), some (Sl.d (PyData.int many)), some (Sl.d way), some (Sl.d (.int rise)), some (Sl.d (.int high)), some (Sl.d (.int dear)), some (Sl.d (.int base)), some (Sl.d (PyData.int toll)), some (Sl.ow []), none] n := by
  refine for_inv (fun i τ n' => ∃ (l : Row) (y : Option Sl), τ = [some Sl.box, some (Sl.d (PyData.int most)), some (Sl.d (PyData.int many)), some (Sl.d way), some (Sl.d (.int rise)), some (Sl.d (.int high)), some (Sl.d (.int dear)), some (Sl.d (.int base)), some (Sl.d (PyData.int toll)), some (Sl.ow (l.map pairD)), y] ∧
    RowOk (2 * 10 ^ 12) 50 l ∧ l.length = i ∧ n' ≤ n + 2 * i) _ 0 _ _ ⟨[], none, rfl, ⟨fun _ z => (nomatch z), fun _ z => (nomatch z)⟩, rfl, Nat.le_refl _⟩ ?_ ?_
  · rintro i x hx τ n1 N ⟨l, y, rfl, ok, hl, hn1⟩ hN
    rw [rangeD_get] at hx
    by_cases hi : i < many.toNat
    · rw [if_pos hi] at hx
      cases hx
      have z := sz20
      simp
      refine ⟨mul64 (by omega) (by omega), ⟨by omega, by omega⟩, by omega, fun r r1 r2 => ⟨⟨by omega, by omega⟩, by omega, fun q q1 q2 => ⟨by omega, by omega, hN _ _ ⟨l ++ [(base + rise * i + r, toll + q)], some (Sl.d (.int (i : Nat))), ?_, ⟨fun p hp => ?_, fun p hp => ?_⟩, by simp; omega, by omega⟩⟩⟩⟩
      · simp [pairD]
      · rcases List.mem_append.mp hp with hp | hp
        · exact ok.s p hp
        · have : p = (base + rise * i + r, toll + q) := by simpa using hp
          subst this
          have h0 : 0 ≤ rise * (i : Int) := Int.mul_nonneg hr.1 (by omega)
          have h3 : rise * (i : Int) ≤ 3 * 64 := Int.mul_le_mul hr.2 (by omega) (by omega) (by decide)
          constructor <;> dsimp only <;> omega
      · rcases List.mem_append.mp hp with hp | hp
        · exact ok.t p hp
        · have : p = (base + rise * i + r, toll + q) := by simpa using hp
          subst this
          constructor <;> dsimp only <;> omega
    · rw [if_neg hi] at hx
      cases hx
  · rintro τ n1 ⟨l, y, rfl, ok, hl, hn1⟩
    rw [rangeD_len] at hl hn1
    exact ⟨_, rfl, h l n1 ok (by omega) (by omega)⟩
theorem row_ok {most : Int} {n : Nat} {P : D → Nat → Prop} {PX : XE → Nat → Prop} (h1 : 1 ≤ most) (h2 : most ≤ 64) (hn : n + 200 < cap) (h : ∀ l n', RowOk (2 * 10 ^ 12) 50 l → 1 ≤ l.length → l.length ≤ most → n' ≤ n + 200 → P (rowD l) n') : Frow [.box, .d (.int most)] n P PX := by
  show bodyM 11 (fun _ => b_law_row fTake Fof) _ _ _ _
  have z := sz20
  simp [b_law_row]
  refine ⟨by omega, by omega, fun r r1 r2 => ⟨by omega, fun w w1 w2 => ⟨by omega, of_ok (by simp) (by simp) (by omega) fun x hx => ?_⟩⟩⟩
  obtain ⟨rise, rfl, hr⟩ : ∃ rise : Int, x = .int rise ∧ 0 ≤ rise ∧ rise ≤ 3 := by
    simp at hx
    rcases hx with rfl | rfl | rfl
    · exact ⟨0, rfl, by decide⟩
    · exact ⟨1, rfl, by decide⟩
    · exact ⟨3, rfl, by decide⟩
  refine ⟨by omega, ?_⟩
  have pw : CPowB 10 12 := ⟨by decide, by decide +kernel⟩
  have fin : ∀ (high dear base toll : Int) (n1 : Nat), n1 ≤ n + 4 → (1 ≤ high ∧ high ≤ 200) → (1 ≤ dear ∧ dear ≤ 40) → (-100 ≤ base ∧ base ≤ 10 ^ 12) → (0 ≤ toll ∧ toll ≤ 5) → (-4611686018427387904 ≤ 1 + r ∧ 1 + r < 4611686018427387904) ∧ forD (rangeD 0 (1 + r).toNat) (gN 10) (sX (xMt oApp 9 (aCons (mTup (aCons (m2 dAdd (m2 dAdd (mVar 7) (m2 dMul (mVar 4) (mVar 10))) (mCal 2 fTake (kBox 0 (kCons (mVar 5) kNil)))) (aCons (m2 dAdd (mVar 8) (mCal 2 fTake (kBox 0 (kCons (mVar 6) kNil)))) aNil))) aNil)))
      { nx := fun τ' n' => ∃ x, τ'[9]? = some (some (Sl.ow x)) ∧ P (PyData.tuple x) n', rt := P }
      [some Sl.box, some (Sl.d (PyData.int most)), some (Sl.d (PyData.int (1 + r))), some (Sl.d (.int w)), some (Sl.d (.int rise)), some (Sl.d (.int high)), some (Sl.d (.int dear)), some (Sl.d (.int base)), some (Sl.d (PyData.int toll)), some (Sl.ow []), none] n1 := fun high dear base toll n1 g0 g1 g2 g3 g4 =>
    ⟨by omega, row_loop (PX := PX) hr g1 g2 g3 g4 (by omega) (by omega) fun l n' a b c => h l n' a (by omega) (by omega) (by omega)⟩
  have cs : w = 0 ∨ w = 1 ∨ w = 2 ∨ w = 3 ∨ w = 4 ∨ w = 5 := by omega
  rcases cs with rfl | rfl | rfl | rfl | rfl | rfl
  · exact ⟨_, rfl, by omega, _, rfl, pw, by omega, _, rfl, .inl ⟨by decide, fin _ _ _ _ _ (by omega) (by decide) (by decide) (by decide) (by decide)⟩⟩
  · exact ⟨_, rfl, by omega, _, rfl, pw, by omega, _, rfl, .inl ⟨by decide, fin _ _ _ _ _ (by omega) (by decide) (by decide) (by decide) (by decide)⟩⟩
  · exact ⟨_, rfl, by omega, _, rfl, pw, by omega, _, rfl, .inr ⟨rfl, by omega, fun t t1 t2 => fin _ _ _ _ _ (by omega) (by decide) (by decide) (by decide) (by omega)⟩⟩
  · exact ⟨_, rfl, by omega, _, rfl, pw, by omega, _, rfl, .inl ⟨by decide, fin _ _ _ _ _ (by omega) (by decide) (by decide) (by decide) (by decide)⟩⟩
  · exact ⟨_, rfl, by omega, _, rfl, pw, by omega, _, rfl, .inl ⟨by decide, fin _ _ _ _ _ (by omega) (by decide) (by decide) (by decide) (by decide)⟩⟩
  · exact ⟨_, rfl, by omega, _, rfl, pw, by omega, _, rfl, .inl ⟨by decide, fin _ _ _ _ _ (by omega) (by decide) (by decide) (by decide) (by decide)⟩⟩
end TL
set_option Elab.async false
set_option linter.all false
set_option maxRecDepth 100000
set_option maxHeartbeats 4000000
namespace TL
open PySem PySem.Spec PyProof.Rows L2
/-! ### who passes whom: orders of numbers, tolls -/
section
variable (w t : Nat → Int)
def tolls : List Nat → (Nat → Bool) → Int
  | [], _ => 0
  | c :: A, f => (if f c = true then t c else 0) + tolls A f
def btwf (y x : Nat) : Nat → Bool := fun c => decide (y < c) && decide (c < x)
variable {t}
theorem tolls_append (A B : List Nat) (f : Nat → Bool) : tolls t (A ++ B) f = tolls t A f + tolls t B f := by
  induction A with
  | nil => simp [tolls]
  | cons c A ih => simp [tolls, ih]; omega
theorem tolls_swap (A B : List Nat) (a b : Nat) (f : Nat → Bool) : tolls t (A ++ a :: b :: B) f = tolls t (A ++ b :: a :: B) f := by
  simp [tolls_append, tolls]; omega
theorem tolls_nonneg (ht : ∀ c, 0 ≤ t c) (A : List Nat) (f : Nat → Bool) : 0 ≤ tolls t A f := by
  induction A with
  | nil => simp [tolls]
  | cons c A ih =>
    have := ht c
    simp only [tolls]
    split <;> omega
theorem tolls_split (A : List Nat) (a b : Nat) (hab : a < b) (ha : a ∉ A) : tolls t A (fun c => decide (c < b)) = tolls t A (fun c => decide (c < a)) + tolls t A (btwf a b) := by
  induction A with
  | nil => rfl
  | cons c A ih =>
    have h1 : a ≠ c := fun e => ha (by simp [e])
    have := ih (fun e => ha (List.mem_cons_of_mem _ e))
    simp only [tolls, this, btwf]
    by_cases c1 : c < a
    · have c2 : c < b := by omega
      have c3 : ¬ a < c := by omega
      simp [c1, c2, c3]; omega
    · by_cases c2 : c < b
      · have c3 : a < c := by omega
        simp [c1, c2, c3]; omega
      · simp [c1, c2]
theorem tolls_split' (A : List Nat) (a b : Nat) (hab : a < b) (hb : b ∉ A) : tolls t A (fun c => decide (a < c)) = tolls t A (fun c => decide (b < c)) + tolls t A (btwf a b) := by
  induction A with
  | nil => rfl
  | cons c A ih =>
    have h2 : b ≠ c := fun e => hb (by simp [e])
    simp only [tolls, ih (fun e => hb (List.mem_cons_of_mem _ e)), btwf]
    by_cases c1 : a < c
    · by_cases c2 : b < c
      · have c3 : ¬ c < b := by omega
        simp [c1, c2, c3]; omega
      · have c3 : c < b := by omega
        simp [c1, c2, c3]; omega
    · have c2 : ¬ b < c := by omega
      simp [c1, c2]
/-- whoever stands turned about has won -/
def Inv (t : Nat → Int) (o : List Nat) : Prop := ∀ (A : List Nat) (y : Nat) (B : List Nat), o = A ++ y :: B → ∀ x ∈ A, y < x → 0 < w x - w y + tolls t A (btwf y x)
variable {w}
theorem Inv.swap {A0 B0 : List Nat} {a b : Nat} (ht : ∀ c, 0 ≤ t c) (h : Inv w t (A0 ++ a :: b :: B0)) (hab : a < b) (hD : 0 < w b - w a + tolls t A0 (btwf a b)) : Inv w t (A0 ++ b :: a :: B0) := by
  intro A y B e x hx hxy
  have yb : A = A0 → y = b → 0 < w x - w y + tolls t A (btwf y x) := by
    rintro rfl rfl
    have := h (A ++ [a]) y B0 (by simp) x (by simp [hx]) hxy
    rw [tolls_append] at this
    have z : ¬ y < a := by omega
    simpa [tolls, btwf, z] using this
  rcases List.append_eq_append_iff.mp e with ⟨a', e1, e2⟩ | ⟨c', e1, e2⟩
  · cases a' with
    | nil =>
      simp at e1 e2
      exact yb e1 e2.1.symm
    | cons b' a' =>
      simp at e2
      obtain ⟨rfl, e2⟩ := e2
      cases a' with
      | nil =>
        simp at e2
        obtain ⟨rfl, rfl⟩ := e2
        subst e1
        rw [tolls_append]
        have tb := ht b
        rcases List.mem_append.mp hx with hx | hx
        · have := h A0 a (b :: B0) rfl x hx hxy
          simp only [tolls]
          split <;> omega
        · have : x = b := by simpa using hx
          subst this
          simp only [tolls]
          split <;> omega
      | cons a1 A1 =>
        simp at e2
        obtain ⟨rfl, rfl⟩ := e2
        subst e1
        rw [tolls_swap]
        exact h (A0 ++ a :: b :: A1) y B (by simp) x (by
          simp at hx ⊢
          rcases hx with hx | hx | hx | hx <;> simp [hx]) hxy
  · cases c' with
    | nil =>
      simp at e1 e2
      exact yb e1.symm e2.1
    | cons y' c' =>
      simp at e2
      obtain ⟨rfl, rfl⟩ := e2
      subst e1
      exact h A y (c' ++ a :: b :: B0) (by simp) x hx hxy
/-- turned pairs -/
def inv : List Nat → Nat
  | [] => 0
  | y :: B => (B.filter fun c => decide (c < y)).length + inv B
theorem inv_swap (A B : List Nat) {a b : Nat} (h : a < b) : inv (A ++ b :: a :: B) = inv (A ++ a :: b :: B) + 1 := by
  induction A with
  | nil =>
    have h2 : ¬ b < a := by omega
    simp [inv, h, h2]; omega
  | cons c A ih =>
    have : ((A ++ b :: a :: B).filter fun d => decide (d < c)).length = ((A ++ a :: b :: B).filter fun d => decide (d < c)).length := ((List.Perm.append_left A (List.Perm.swap a b B)).filter _).length_eq
    simp only [List.cons_append, inv, this, ih]
    omega
theorem inv_le : ∀ o : List Nat, inv o ≤ o.length * o.length
  | [] => Nat.le_refl _
  | y :: B => by
    have h1 := inv_le B
    have h2 : (B.filter fun c => decide (c < y)).length ≤ B.length := List.length_filter_le _ _
    simp only [inv, List.length_cons]
    have : (B.length + 1) * (B.length + 1) = B.length * B.length + B.length + B.length + 1 := by
      rw [Nat.add_mul, Nat.mul_add]; omega
    omega
/-- the row of an order -/
def rowG (w t : Nat → Int) (g : Nat → Nat → Bool) : List Nat → List Nat → Row
  | _, [] => []
  | A, y :: B => (w y + tolls t A (fun c => g c y), t y) :: rowG w t g (A ++ [y]) B
variable {g : Nat → Nat → Bool}
theorem rowG_length : ∀ (A X : List Nat), (rowG w t g A X).length = X.length
  | _, [] => rfl
  | A, y :: X => congrArg Nat.succ (rowG_length (A ++ [y]) X)
theorem rowG_append : ∀ (A X Y : List Nat), rowG w t g A (X ++ Y) = rowG w t g A X ++ rowG w t g (A ++ X) Y
  | A, [], Y => by simp [rowG]
  | A, y :: X, Y => by simp [rowG, rowG_append (A ++ [y]) X Y]
theorem rowG_same : ∀ (A A' X : List Nat), (∀ f, tolls t A f = tolls t A' f) → rowG w t g A X = rowG w t g A' X
  | _, _, [], _ => rfl
  | A, A', y :: X, h => by
    simp only [rowG, h]
    rw [rowG_same (A ++ [y]) (A' ++ [y]) X fun f => by rw [tolls_append, tolls_append, h f]]
end
end TL
set_option Elab.async false
set_option linter.all false
set_option maxRecDepth 100000
set_option maxHeartbeats 4000000
namespace TL
open PySem PySem.Spec PyProof.Rows L2
section
theorem gR_mid (LA LB : Row) (p : Int × Int) : gR (LA ++ p :: LB) LA.length = p := by simp [gR]
theorem gR_mid1 (LA LB : Row) (p q : Int × Int) : gR (LA ++ p :: q :: LB) (LA.length + 1) = q := by
  have := gR_mid (LA ++ [p]) LB q
  simpa using this
theorem lets_at (LA LB : Row) (p q : Int × Int) : lets (LA ++ p :: q :: LB) (LA.length + 1) = decide (p.1 < q.1 - p.2) := by
  unfold lets
  rw [gR_mid1, show LA.length + 1 - 1 = LA.length from rfl, gR_mid]
  simp
theorem passed_at (LA LB : Row) (p q : Int × Int) : passed (LA ++ p :: q :: LB) (LA.length + 1) = LA ++ (q.1 - p.2, q.2) :: p :: LB := by
  unfold passed
  rw [gR_mid1, show LA.length + 1 - 1 = LA.length from rfl, gR_mid]
  have e : LA.length + 1 + 1 - LA.length = 2 := by omega
  simp [List.drop_append, e, List.drop_of_length_le (show LA.length ≤ LA.length + 1 + 1 by omega)]
def falls (l : Row) (j : Nat) : Bool := decide ((gR l (j + 1)).1 < (gR l j).1)
theorem falls_at (LA LB : Row) (p q : Int × Int) : falls (LA ++ p :: q :: LB) LA.length = decide (q.1 < p.1) := by
  unfold falls
  rw [gR_mid1, gR_mid]
theorem fallen_at (LA LB : Row) (p q : Int × Int) : fallen (LA ++ p :: q :: LB) LA.length = LA ++ q :: (p.1 + q.2, p.2) :: LB := by
  unfold fallen
  rw [gR_mid1, gR_mid]
  simp [List.drop_append]
def gP (c y : Nat) : Bool := decide (c < y)
def gF (c y : Nat) : Bool := decide (y < c)
variable {w t : Nat → Int}
theorem rowG_two (g : Nat → Nat → Bool) (A B : List Nat) (a b : Nat) : rowG w t g [] (A ++ a :: b :: B) = rowG w t g [] A ++ (w a + tolls t A (fun c => g c a), t a) :: (w b + tolls t (A ++ [a]) (fun c => g c b), t b) :: rowG w t g (A ++ [a] ++ [b]) B := by
  rw [rowG_append]
  rfl
theorem rowG_tail (g : Nat → Nat → Bool) (A B : List Nat) (a b : Nat) : rowG w t g (A ++ [a] ++ [b]) B = rowG w t g (A ++ [b] ++ [a]) B := rowG_same _ _ _ fun f => by
  simp [tolls_append, tolls]; omega
theorem nodup_mid {A B : List Nat} {a b : Nat} (h : (A ++ a :: b :: B).Nodup) : a ∉ A ∧ b ∉ A ∧ a ≠ b := by
  rw [List.nodup_append] at h
  obtain ⟨_, h2, h3⟩ := h
  refine ⟨fun z => h3 a z a (by simp) rfl, fun z => h3 b z b (by simp) rfl, fun z => ?_⟩
  subst z
  simp at h2
theorem pass_step {A B : List Nat} {a b : Nat} (ht : ∀ c, 0 ≤ t c) (hn : (A ++ a :: b :: B).Nodup) (hI : Inv w t (A ++ a :: b :: B)) (hl : lets (rowG w t gP [] (A ++ a :: b :: B)) (A.length + 1) = true) :
    a < b ∧ Inv w t (A ++ b :: a :: B) ∧ passed (rowG w t gP [] (A ++ a :: b :: B)) (A.length + 1) = rowG w t gP [] (A ++ b :: a :: B) := by
  obtain ⟨na, nb, nab⟩ := nodup_mid hn
  have la : A.length = (rowG w t gP [] A).length := (rowG_length [] A).symm
  rw [rowG_two] at hl ⊢
  rw [la, lets_at] at hl
  rw [la, passed_at]
  have hl : w a + tolls t A (fun c => gP c a) < w b + tolls t (A ++ [a]) (fun c => gP c b) - t a := of_decide_eq_true hl
  rw [tolls_append] at hl
  rcases Nat.lt_or_gt_of_ne nab with h | h
  · have e1 : tolls t [a] (fun c => gP c b) = t a := by simp [tolls, gP, h]
    have e2 : tolls t [b] (fun c => gP c a) = 0 := by
      have : ¬ b < a := by omega
      simp [tolls, gP, this]
    have sp := tolls_split (t := t) A a b h na
    have sp : tolls t A (fun c => gP c b) = tolls t A (fun c => gP c a) + tolls t A (btwf a b) := sp
    refine ⟨h, hI.swap ht h (by omega), ?_⟩
    rw [rowG_two, rowG_tail]
    rw [tolls_append, tolls_append, e1, e2]
    have q1 : w b + (tolls t A (fun c => gP c b) + t a) - t a = w b + tolls t A (fun c => gP c b) := by omega
    have q2 : tolls t A (fun c => gP c a) + 0 = tolls t A (fun c => gP c a) := by omega
    rw [q1, q2]
  · exfalso
    have e1 : tolls t [a] (fun c => gP c b) = 0 := by
      have : ¬ a < b := by omega
      simp [tolls, gP, this]
    have sp : tolls t A (fun c => gP c a) = tolls t A (fun c => gP c b) + tolls t A (btwf b a) := tolls_split (t := t) A b a h nb
    have := hI (A ++ [a]) b B (by simp) a (by simp) h
    rw [tolls_append] at this
    have e2 : tolls t [a] (btwf b a) = 0 := by simp [tolls, btwf]
    have ta := ht a
    omega
theorem fall_step {s : Nat → Int} {A B : List Nat} {a b : Nat} (ht : ∀ c, 0 ≤ t c) (hn : (A ++ a :: b :: B).Nodup) (hI : Inv (fun c => - s c) t (A ++ a :: b :: B)) (hl : falls (rowG s t gF [] (A ++ a :: b :: B)) A.length = true) :
    a < b ∧ Inv (fun c => - s c) t (A ++ b :: a :: B) ∧ fallen (rowG s t gF [] (A ++ a :: b :: B)) A.length = rowG s t gF [] (A ++ b :: a :: B) := by
  obtain ⟨na, nb, nab⟩ := nodup_mid hn
  have la : A.length = (rowG s t gF [] A).length := (rowG_length [] A).symm
  rw [rowG_two] at hl ⊢
  rw [la, falls_at] at hl
  rw [la, fallen_at]
  have hl : s b + tolls t (A ++ [a]) (fun c => gF c b) < s a + tolls t A (fun c => gF c a) := of_decide_eq_true hl
  rw [tolls_append] at hl
  rcases Nat.lt_or_gt_of_ne nab with h | h
  · have e1 : tolls t [a] (fun c => gF c b) = 0 := by
      have : ¬ b < a := by omega
      simp [tolls, gF, this]
    have e2 : tolls t [b] (fun c => gF c a) = t b := by simp [tolls, gF, h]
    have sp : tolls t A (fun c => gF c a) = tolls t A (fun c => gF c b) + tolls t A (btwf a b) := tolls_split' (t := t) A a b h nb
    refine ⟨h, hI.swap ht h (by omega), ?_⟩
    rw [rowG_two, rowG_tail]
    rw [tolls_append, tolls_append, e1, e2]
    have q1 : tolls t A (fun c => gF c b) + 0 = tolls t A (fun c => gF c b) := by omega
    have q2 : s a + tolls t A (fun c => gF c a) + t b = s a + (tolls t A (fun c => gF c a) + t b) := by omega
    rw [q1, q2]
  · exfalso
    have e1 : tolls t [a] (fun c => gF c b) = t a := by simp [tolls, gF, h]
    have sp : tolls t A (fun c => gF c b) = tolls t A (fun c => gF c a) + tolls t A (btwf b a) := tolls_split' (t := t) A b a h na
    have := hI (A ++ [a]) b B (by simp) a (by simp) h
    rw [tolls_append] at this
    have e2 : tolls t [a] (btwf b a) = 0 := by simp [tolls, btwf]
    have ta := ht a
    dsimp only at this
    omega
theorem Inv.range (n : Nat) : Inv w t (List.range n) := by
  intro A y B e x hx hxy
  have := @List.pairwise_lt_range n
  rw [e, List.pairwise_append] at this
  have := this.2.2 x hx y (by simp)
  omega
theorem rowG_range {g : Nat → Nat → Bool} {l : Row} (hw : ∀ y, w y + tolls t (List.range y) (fun c => g c y) = (gR l y).1) (ht : ∀ y, t y = (gR l y).2) : rowG w t g [] (List.range l.length) = l := by
  have key : ∀ m i, i + m = l.length → rowG w t g (List.range i) (List.range' i m) = l.drop i := by
    intro m
    induction m with
    | zero => intro i e; rw [List.drop_of_length_le (by omega)]; rfl
    | succ m ih =>
      intro i e
      have hi : i < l.length := by omega
      rw [List.range'_succ]
      show (w i + _, t i) :: rowG w t g (List.range i ++ [i]) (List.range' (i + 1) m) = _
      rw [← List.range_succ, ih (i + 1) (by omega), hw i, ht i, show gR l i = l[i] by simp [gR, hi]]
      exact (List.drop_eq_getElem_cons hi).symm
  have := key l.length 0 (by omega)
  rw [List.range_eq_range']
  simpa using this
/-- a row by passings' labels -/
theorem lab_pass {S T : Int} {l : Row} (h : RowOk S T l) : ∃ w t : Nat → Int, (∀ c, 0 ≤ t c) ∧ rowG w t gP [] (List.range l.length) = l := by
  refine ⟨fun y => (gR l y).1 - tolls (fun c => (gR l c).2) (List.range y) (fun c => gP c y), fun c => (gR l c).2, fun c => ?_, rowG_range (fun y => by omega) fun _ => rfl⟩
  unfold gR
  by_cases hc : c < l.length
  · have := (h.t l[c] (List.getElem_mem hc)).1
    simpa [hc] using this
  · have : l[c]? = none := List.getElem?_eq_none (by omega)
    simp [this]
theorem lab_fall {S T : Int} {l : Row} (h : RowOk S T l) : ∃ s t : Nat → Int, (∀ c, 0 ≤ t c) ∧ rowG s t gF [] (List.range l.length) = l := by
  refine ⟨fun y => (gR l y).1 - tolls (fun c => (gR l c).2) (List.range y) (fun c => gF c y), fun c => (gR l c).2, fun c => ?_, rowG_range (fun y => by omega) fun _ => rfl⟩
  unfold gR
  by_cases hc : c < l.length
  · have := (h.t l[c] (List.getElem_mem hc)).1
    simpa [hc] using this
  · have : l[c]? = none := List.getElem?_eq_none (by omega)
    simp [this]
theorem split2 {α : Type} (o : List α) {j : Nat} (h0 : 0 < j) (hj : j < o.length) : ∃ A a b B, o = A ++ a :: b :: B ∧ j = A.length + 1 := by
  refine ⟨o.take (j - 1), o[j - 1], o[j], o.drop (j + 1), ?_, by rw [List.length_take]; omega⟩
  rw [← List.drop_eq_getElem_cons hj]
  have : o.drop j = o.drop (j - 1 + 1) := by rw [show j - 1 + 1 = j by omega]
  rw [this, ← List.drop_eq_getElem_cons (by omega), List.take_append_drop]
end
end TL
set_option Elab.async false
set_option linter.all false
set_option maxRecDepth 100000
set_option maxHeartbeats 4000000
namespace TL
open PySem PySem.Spec PyProof.Rows L2
section
variable {w t : Nat → Int}
/-- nobody may pass any more -/
def Term (w t : Nat → Int) (o : List Nat) : Prop := ∀ (A : List Nat) (a b : Nat) (B : List Nat), o = A ++ a :: b :: B → a < b → w b - w a + tolls t A (btwf a b) ≤ 0
theorem tolls_out (A B : List Nat) (m : Nat) (f : Nat → Bool) (h : f m = false) : tolls t (A ++ m :: B) f = tolls t (A ++ B) f := by
  rw [tolls_append, tolls_append]
  simp [tolls, h]
theorem tolls_btw (A : List Nat) {a b m : Nat} (hab : a < b) (hbm : b < m) (hb : b ∉ A) : tolls t A (btwf a m) = tolls t A (btwf a b) + tolls t A (btwf b m) := by
  induction A with
  | nil => rfl
  | cons c A ih =>
    have h2 : b ≠ c := fun e => hb (by simp [e])
    simp only [tolls, ih (fun e => hb (List.mem_cons_of_mem _ e)), btwf]
    by_cases c1 : c < b
    · have c2 : ¬ b < c := by omega
      have c3 : c < m := by omega
      simp [c1, c2, c3]; omega
    · have c2 : b < c := by omega
      have c3 : a < c := by omega
      simp [c1, c2, c3]; omega
theorem btw_hi {y x m : Nat} (h : x ≤ m) : btwf y x m = false := by
  have : ¬ m < x := by omega
  simp [btwf, this]
theorem Inv.drop {q1 q2 : List Nat} {m : Nat} (h : Inv w t (q1 ++ m :: q2)) (h1 : ∀ x ∈ q1 ++ q2, x < m) : Inv w t (q1 ++ q2) := by
  intro A y B e x hx hxy
  have hxm : x < m := h1 x (by rw [e]; exact List.mem_append_left _ hx)
  rcases List.append_eq_append_iff.mp e with ⟨a', e1, e2⟩ | ⟨c', e1, e2⟩
  · subst e1 e2
    have := h (q1 ++ m :: a') y B (by simp) x (by
      simp at hx ⊢
      rcases hx with hx | hx <;> simp [hx]) hxy
    rwa [tolls_out _ _ _ _ (btw_hi (by omega))] at this
  · cases c' with
    | nil =>
      simp at e1 e2
      subst e1
      have := h (q1 ++ [m]) y B (by simp [← e2]) x (by simp [hx]) hxy
      rw [tolls_out _ _ _ _ (btw_hi (by omega))] at this
      simpa using this
    | cons y' c' =>
      simp at e2
      obtain ⟨rfl, e2⟩ := e2
      subst e1
      exact h A y (c' ++ m :: q2) (by simp) x hx hxy
theorem Term.drop {q1 q2 : List Nat} {m : Nat} (hI : Inv w t (q1 ++ m :: q2)) (hT : Term w t (q1 ++ m :: q2)) (hn : (q1 ++ q2).Nodup) (h1 : ∀ x ∈ q1 ++ q2, x < m) : Term w t (q1 ++ q2) := by
  intro A a b B e hab
  have hbm : b < m := h1 b (by rw [e]; simp)
  have hbA : b ∉ A := by
    rw [e] at hn
    exact (nodup_mid hn).2.1
  rcases List.append_eq_append_iff.mp e with ⟨a', e1, e2⟩ | ⟨c', e1, e2⟩
  · subst e1 e2
    have := hT (q1 ++ m :: a') a b B (by simp) hab
    rwa [tolls_out _ _ _ _ (btw_hi (by omega))] at this
  · cases c' with
    | nil =>
      simp at e1 e2
      subst e1
      have := hT (q1 ++ [m]) a b B (by simp [← e2]) hab
      rw [tolls_out _ _ _ _ (btw_hi (by omega))] at this
      simpa using this
    | cons a1 c' =>
      simp at e2
      obtain ⟨rfl, e2⟩ := e2
      cases c' with
      | nil =>
        simp at e2
        subst e1
        rw [← e2] at hI hT
        have g1 := hT A a m (b :: B) (by simp) (by omega)
        have g2 := hI (A ++ [a, m]) b B (by simp) m (by simp) hbm
        rw [tolls_append] at g2
        have z : tolls t [a, m] (btwf b m) = 0 := by
          have : ¬ b < a := by omega
          simp [tolls, btwf, this]
        have sp := tolls_btw (t := t) A hab hbm hbA
        omega
      | cons b1 c'' =>
        simp at e2
        obtain ⟨rfl, rfl⟩ := e2
        subst e1
        exact hT A a b (c'' ++ m :: q2) (by simp) hab
theorem uniq_aux {q1 q2' a' : List Nat} {m : Nat} (hI : Inv w t (q1 ++ m :: (a' ++ q2'))) (hT : Term w t (q1 ++ a' ++ m :: q2')) (h1 : ∀ x ∈ a', x < m) : a' = [] := by
  rcases List.eq_nil_or_concat a' with rfl | ⟨a'', a, rfl⟩
  · rfl
  · exfalso
    simp only [List.concat_eq_append] at hI hT h1
    have ham : a < m := h1 a (by simp)
    have g1 := hT (q1 ++ a'') a m q2' (by simp) ham
    have g2 := hI (q1 ++ m :: a'') a q2' (by simp) m (by simp) ham
    rw [tolls_out _ _ _ _ (btw_hi (Nat.le_refl _))] at g2
    omega
theorem perm_split {n : Nat} {o : List Nat} (h : o.Perm (List.range (n + 1))) : ∃ q1 q2, o = q1 ++ n :: q2 ∧ (q1 ++ q2).Perm (List.range n) := by
  have hm : n ∈ o := h.mem_iff.mpr (by simp)
  obtain ⟨q1, q2, rfl⟩ := List.append_of_mem hm
  refine ⟨q1, q2, rfl, ?_⟩
  have h1 : (n :: (q1 ++ q2)).Perm (n :: List.range n) := (List.perm_middle.symm.trans h).trans (by
    rw [List.range_succ]
    exact List.perm_append_comm)
  exact h1.cons_inv
theorem uniq : ∀ (n : Nat) (o o' : List Nat), o.Perm (List.range n) → o'.Perm (List.range n) → Inv w t o → Inv w t o' → Term w t o → Term w t o' → o = o'
  | 0, o, o', h, h', _, _, _, _ => by
    rw [List.perm_nil.mp h, List.perm_nil.mp h']
  | n + 1, o, o', h, h', hI, hI', hT, hT' => by
    obtain ⟨q1, q2, rfl, hq⟩ := perm_split h
    obtain ⟨q1', q2', rfl, hq'⟩ := perm_split h'
    have lt : ∀ x ∈ q1 ++ q2, x < n := fun x hx => by simpa using hq.mem_iff.mp hx
    have lt' : ∀ x ∈ q1' ++ q2', x < n := fun x hx => by simpa using hq'.mem_iff.mp hx
    have e := uniq n _ _ hq hq' (hI.drop lt) (hI'.drop lt') (Term.drop hI hT (hq.nodup_iff.mpr List.nodup_range) lt) (Term.drop hI' hT' (hq'.nodup_iff.mpr List.nodup_range) lt')
    rcases List.append_eq_append_iff.mp e with ⟨a', e1, e2⟩ | ⟨a', e1, e2⟩
    · subst e1 e2
      have := uniq_aux hI hT' fun x hx => lt x (by simp [hx])
      subst this
      simp
    · subst e1 e2
      have := uniq_aux hI' hT fun x hx => lt' x (by simp [hx])
      subst this
      simp
end
end TL
set_option Elab.async false
set_option linter.all false
set_option maxRecDepth 100000
set_option maxHeartbeats 4000000
namespace TL
open PySem PySem.Spec PyProof.Rows L2
/-- the pairs turned about: the one that was ahead, the one that has passed it -/
def invP : List Nat → List (Nat × Nat)
  | [] => []
  | y :: B => ((B.filter fun c => decide (c < y)).map fun c => (c, y)) ++ invP B
theorem invP_swap (A B : List Nat) {a b : Nat} (h : a < b) : (invP (A ++ b :: a :: B)).Perm (invP (A ++ a :: b :: B) ++ [(a, b)]) := by
  induction A with
  | nil =>
    have h2 : ¬ b < a := by omega
    simp only [List.nil_append, invP]
    rw [List.filter_cons_of_pos (by simpa using h), List.filter_cons_of_neg (by simpa using h2), List.map_cons, List.cons_append]
    refine ((List.perm_append_comm_assoc _ _ _).cons _).trans ?_
    exact (List.perm_append_singleton _ _).symm
  | cons c A ih =>
    have hp : ((A ++ b :: a :: B).filter fun d => decide (d < c)).Perm ((A ++ a :: b :: B).filter fun d => decide (d < c)) := (List.Perm.append_left A (List.Perm.swap a b B)).filter _
    simp only [List.cons_append, invP]
    rw [List.append_assoc]
    exact (hp.map _).append ih
theorem invP_range (n : Nat) : invP (List.range n) = [] := by
  have key : ∀ (m i : Nat), invP (List.range' i m) = [] := by
    intro m
    induction m with
    | zero => intro i; rfl
    | succ m ih =>
      intro i
      rw [List.range'_succ]
      simp only [invP, ih, List.append_nil]
      have : (List.range' (i + 1) m).filter (fun c => decide (c < i)) = [] := by
        rw [List.filter_eq_nil_iff]
        intro c hc
        rw [List.mem_range'_1] at hc
        simp
        omega
      rw [this]
      rfl
  rw [List.range_eq_range']
  exact key n 0
theorem invP_mem {o : List Nat} {p : Nat × Nat} : p ∈ invP o ↔ ∃ A B C, o = A ++ p.2 :: (B ++ p.1 :: C) ∧ p.1 < p.2 := by
  induction o with
  | nil => simp [invP]
  | cons y o ih =>
    simp only [invP, List.mem_append, List.mem_map, List.mem_filter, decide_eq_true_eq]
    constructor
    · rintro (⟨c, ⟨hc, hlt⟩, rfl⟩ | h)
      · obtain ⟨B, C, rfl⟩ := List.append_of_mem hc
        exact ⟨[], B, C, rfl, hlt⟩
      · obtain ⟨A, B, C, e, hlt⟩ := ih.mp h
        exact ⟨y :: A, B, C, by rw [e]; rfl, hlt⟩
    · rintro ⟨A, B, C, e, hlt⟩
      cases A with
      | nil =>
        simp at e
        obtain ⟨rfl, rfl⟩ := e
        exact Or.inl ⟨p.1, ⟨by simp, hlt⟩, rfl⟩
      | cons z A =>
        simp at e
        obtain ⟨rfl, e⟩ := e
        exact Or.inr (ih.mpr ⟨A, B, C, e, hlt⟩)
end TL
set_option Elab.async false
set_option linter.all false
set_option maxRecDepth 100000
set_option maxHeartbeats 4000000
namespace TL
open PySem PySem.Spec PyProof.Rows L2
/-! ### what == may look at -/
def Lay (n : Nat) (d : D) : Prop := d.canLay0 = true ∧ d.depth ≤ n
theorem Lay.shaped {n : Nat} {d : D} (h : Lay n d) (hn : n ≤ 64 := by decide) : SeqAt.shaped d = true := by
  unfold SeqAt.shaped
  rw [h.1]
  simp
  exact Nat.le_trans h.2 hn
theorem lay_int {n : Nat} {i : Int} : Lay n (.int i) := ⟨by simp [PyData.canLay0], by simp [PyData.depth]⟩
theorem lay_all {n : Nat} : ∀ {xs : List D}, (∀ x ∈ xs, Lay n x) → PyData.canLayAll0 xs = true ∧ PyData.depthAll xs ≤ n
  | [], _ => ⟨rfl, by simp [PyData.depthAll]⟩
  | x :: r, h => by
    have h1 := h x (by simp)
    have h2 := lay_all (xs := r) fun y hy => h y (List.mem_cons_of_mem _ hy)
    refine ⟨by simp [PyData.canLayAll0, h1.1, h2.1], ?_⟩
    simp only [PyData.depthAll]
    exact Nat.max_le.mpr ⟨h1.2, h2.2⟩
theorem lay_list {n : Nat} {xs : List D} (h : ∀ x ∈ xs, Lay n x) : Lay (n + 1) (.list xs) := ⟨by simp [PyData.canLay0, (lay_all h).1], by simp only [PyData.depth]; exact Nat.succ_le_succ (lay_all h).2⟩
theorem lay_tup {n : Nat} {xs : List D} (h : ∀ x ∈ xs, Lay n x) : Lay (n + 1) (.tuple xs) := ⟨by simp [PyData.canLay0, (lay_all h).1], by simp only [PyData.depth]; exact Nat.succ_le_succ (lay_all h).2⟩
@[simp] theorem eqv_nil {xs : List D} : PyData.eqv (.list xs) (.list []) = xs.isEmpty := by cases xs <;> simp [PyData.eqv, PyData.eqvAll]
@[simp] theorem shaped_nil : SeqAt.shaped (.list []) = true := (lay_list (n := 0) (xs := []) (fun _ z => nomatch z)).shaped
def natD (j : Nat) : D := .int (j : Int)
theorem shaped_nats (xs : List Nat) : SeqAt.shaped (.list (xs.map natD)) = true := (lay_list (n := 0) fun x hx => by
  obtain ⟨j, _, rfl⟩ := List.mem_map.mp hx
  exact lay_int).shaped
theorem rangeD_nat (k : Nat) : rangeD 0 k = (List.range k).map natD := by
  unfold rangeD
  exact List.map_congr_left fun j _ => by simp [natD]
@[simp] theorem ix_mid {α : Type} {f : α → D} {A : List α} {x : D} {Y : List D} {P : D → Prop} : dIx (.list (A.map f ++ x :: Y)) (.int A.length) P ↔ P x := by
  rw [dIx_L, atI_nat _ (Int.natCast_nonneg _)]
  simp
@[simp] theorem ix_mid1 {α : Type} {f : α → D} {A : List α} {x y : D} {Y : List D} {P : D → Prop} : dIx (.list (A.map f ++ x :: y :: Y)) (.int (A.length + 1)) P ↔ P y := by
  rw [dIx_L, atI_nat _ (by omega), show ((A.length : Int) + 1).toNat = A.length + 1 by omega]
  simp
@[simp] theorem atI_mid {α : Type} {f : α → D} {A : List α} {x : D} {Y : List D} : atI (A.map f ++ x :: Y) (A.length : Int) = some x := by
  rw [atI_nat _ (Int.natCast_nonneg _)]
  simp
@[simp] theorem atI_mid1 {α : Type} {f : α → D} {A : List α} {x y : D} {Y : List D} : atI (A.map f ++ x :: y :: Y) ((A.length : Int) + 1) = some y := by
  rw [atI_nat _ (by omega), show ((A.length : Int) + 1).toNat = A.length + 1 by omega]
  simp
theorem drop_mid {α : Type} {f : α → D} {A : List α} {x y : D} {Y : List D} : (A.map f ++ x :: y :: Y).drop ((A.length : Int) + 1 + 1).toNat = Y := by
  have e : ((A.length : Int) + 1 + 1).toNat = (A.map f).length + 2 := by simp; omega
  rw [e, List.drop_append]
  have e : (A.map f).length + 2 - (A.map f).length = 2 := by omega
  rw [e, List.drop_of_length_le (by omega)]
  simp
/-! ### led to the end -/
def someP (l : Row) : List Nat := (List.range l.length).filter (lets l)
structure Ended (l l' : Row) (o : List Nat) : Prop where
  ex : ∃ w t : Nat → Int, (∀ c, 0 ≤ t c) ∧ rowG w t gP [] (List.range l.length) = l ∧ o.Perm (List.range l.length) ∧ Inv w t o ∧ l' = rowG w t gP [] o
  no : someP l' = []
theorem Ended.len {l l' : Row} {o : List Nat} (h : Ended l l' o) : l'.length = l.length := by
  obtain ⟨w, t, _, _, h3, _, h5⟩ := h.ex
  rw [h5, rowG_length, h3.length_eq, List.length_range]
theorem lc_some {l : Row} {s0 s2 s3 y z : Option Sl} {n : Nat} {R : D → Nat → Prop} (hl : l.length ≤ 1000) (h : R (.list ((someP l).map natD)) n) :
    lcD (gN 4) (mT (mCal 2 Flets (kCons (mVar 1) (kCons (mVar 4) kNil)))) (mVar 4) [s0, some (.d (rowD l)), s2, s3, y, z] (rangeD 0 l.length) [] n R := by
  have z20 := sz20
  rw [rangeD_nat]
  refine lc_map natD (fun j => [s0, some (.d (rowD l)), s2, s3, some (.d (natD j)), z]) (lets l) natD (List.range l.length) (fun a ha n R r => by simpa using r) (fun a ha n R r => ?_) (fun a ha _ n R r => by simpa using r) [] n R (by simp; omega) (by simpa [someP] using h)
  have ha' : a < l.length := by simpa using ha
  simp
  refine lets_ok ha' ?_
  cases e : lets l a <;> simpa [e] using r
end TL
set_option Elab.async false
set_option linter.all false
set_option maxRecDepth 100000
set_option maxHeartbeats 4000000
namespace TL
open PySem PySem.Spec PyProof.Rows L2
/-! ### led to the begin -/
def someF (l : Row) : List Nat := (List.range (l.length - 1)).filter (falls l)
structure Begun (l l' : Row) (o : List Nat) : Prop where
  ex : ∃ s t : Nat → Int, (∀ c, 0 ≤ t c) ∧ rowG s t gF [] (List.range l.length) = l ∧ o.Perm (List.range l.length) ∧ Inv (fun c => - s c) t o ∧ l' = rowG s t gF [] o
  no : someF l' = []
theorem Begun.len {l l' : Row} {o : List Nat} (h : Begun l l' o) : l'.length = l.length := by
  obtain ⟨w, t, _, _, h3, _, h5⟩ := h.ex
  rw [h5, rowG_length, h3.length_eq, List.length_range]
theorem lc_someF {l : Row} {s0 s2 s3 y z : Option Sl} {n : Nat} {R : D → Nat → Prop} (h1 : 1 ≤ l.length) (hl : l.length ≤ 1000) (h : R (.list ((someF l).map natD)) n) :
    lcD (gN 4) (mT (m2 dGt (m2 dIx (m2 dIx (mVar 1) (mVar 4)) (mC (.int 0))) (m2 dIx (m2 dIx (mVar 1) (m2 dAdd (mVar 4) (mC (.int 1)))) (mC (.int 0))))) (mVar 4) [s0, some (.d (rowD l)), s2, s3, y, z] (rangeD 0 (l.length - 1)) [] n R := by
  have z20 := sz20
  rw [rangeD_nat]
  refine lc_map natD (fun j => [s0, some (.d (rowD l)), s2, s3, some (.d (natD j)), z]) (falls l) natD (List.range (l.length - 1)) (fun a ha n R r => by simpa using r) (fun a ha n R r => ?_) (fun a ha _ n R r => by simpa using r) [] n R (by simp; omega) (by simpa [someF] using h)
  have ha' : a < l.length - 1 := by simpa using ha
  simp (disch := omega) [natD, lk0, ix_row, show ((a : Int) + 1).toNat = a + 1 by omega]
  unfold falls at r
  by_cases e : (gR l (a + 1)).1 < (gR l a).1
  · rw [decide_eq_true e] at r
    exact .inr ⟨e, r⟩
  · rw [decide_eq_false e] at r
    exact .inl ⟨by omega, r⟩
end TL
set_option Elab.async false
set_option linter.all false
set_option maxRecDepth 100000
set_option maxHeartbeats 4000000
namespace TL
open PySem PySem.Spec PyProof.Rows L2
section
variable {w t : Nat → Int}
theorem pass_iff {A : List Nat} {a b : Nat} (hab : a < b) (na : a ∉ A) : (w a + tolls t A (fun c => gP c a) < w b + tolls t (A ++ [a]) (fun c => gP c b) - t a) ↔ 0 < w b - w a + tolls t A (btwf a b) := by
  have e1 : tolls t [a] (fun c => gP c b) = t a := by simp [tolls, gP, hab]
  have sp : tolls t A (fun c => gP c b) = tolls t A (fun c => gP c a) + tolls t A (btwf a b) := tolls_split A a b hab na
  rw [tolls_append, e1, sp]
  omega
theorem fall_iff {s : Nat → Int} {A : List Nat} {a b : Nat} (hab : a < b) (nb : b ∉ A) : (s b + tolls t (A ++ [a]) (fun c => gF c b) < s a + tolls t A (fun c => gF c a)) ↔ 0 < - s b - - s a + tolls t A (btwf a b) := by
  have e1 : tolls t [a] (fun c => gF c b) = 0 := by
    have : ¬ b < a := by omega
    simp [tolls, gF, this]
  have sp : tolls t A (fun c => gF c a) = tolls t A (fun c => gF c b) + tolls t A (btwf a b) := tolls_split' A a b hab nb
  rw [tolls_append, e1, sp]
  omega
theorem lets_mid {A B : List Nat} {a b : Nat} : lets (rowG w t gP [] (A ++ a :: b :: B)) (A.length + 1) = decide (w a + tolls t A (fun c => gP c a) < w b + tolls t (A ++ [a]) (fun c => gP c b) - t a) := by
  have la : A.length = (rowG w t gP [] A).length := (rowG_length [] A).symm
  rw [rowG_two, la, lets_at]
theorem falls_mid {s : Nat → Int} {A B : List Nat} {a b : Nat} : falls (rowG s t gF [] (A ++ a :: b :: B)) A.length = decide (s b + tolls t (A ++ [a]) (fun c => gF c b) < s a + tolls t A (fun c => gF c a)) := by
  have la : A.length = (rowG s t gF [] A).length := (rowG_length [] A).symm
  rw [rowG_two, la, falls_at]
theorem term_pass {o : List Nat} (hn : o.Nodup) (h : someP (rowG w t gP [] o) = []) : Term w t o := by
  rintro A a b B rfl hab
  have hj : lets (rowG w t gP [] (A ++ a :: b :: B)) (A.length + 1) = false := by
    cases e : lets (rowG w t gP [] (A ++ a :: b :: B)) (A.length + 1) with
    | false => rfl
    | true =>
      have : A.length + 1 ∈ someP (rowG w t gP [] (A ++ a :: b :: B)) := List.mem_filter.mpr ⟨by simp [rowG_length], e⟩
      rw [h] at this
      cases this
  rw [lets_mid, decide_eq_false_iff_not, pass_iff hab (nodup_mid hn).1] at hj
  omega
theorem term_fall {s : Nat → Int} {o : List Nat} (hn : o.Nodup) (h : someF (rowG s t gF [] o) = []) : Term (fun c => - s c) t o := by
  rintro A a b B rfl hab
  have hj : falls (rowG s t gF [] (A ++ a :: b :: B)) A.length = false := by
    cases e : falls (rowG s t gF [] (A ++ a :: b :: B)) A.length with
    | false => rfl
    | true =>
      have : A.length ∈ someF (rowG s t gF [] (A ++ a :: b :: B)) := List.mem_filter.mpr ⟨by simp [rowG_length], e⟩
      rw [h] at this
      cases this
  rw [falls_mid, decide_eq_false_iff_not, fall_iff hab (nodup_mid hn).2.1] at hj
  show - s b - - s a + _ ≤ 0
  omega
theorem ended_uniq {l l1 : Row} {o1 o2 : List Nat} (hl : l.length ≤ 1000) (h1 : Ended l l1 o1) (h2 : ∀ w t : Nat → Int, (∀ c, 0 ≤ t c) → rowG w t gP [] (List.range l.length) = l → o2.Perm (List.range l.length) ∧ Inv w t o2 ∧ Term w t o2) : o1 = o2 := by
  obtain ⟨w, t, ht, hr, hp, hI, e⟩ := h1.ex
  obtain ⟨p2, I2, T2⟩ := h2 w t ht hr
  refine uniq _ _ _ hp p2 hI I2 (term_pass (hp.nodup_iff.mpr List.nodup_range) ?_) T2
  rw [← e]
  exact h1.no
end
end TL
set_option Elab.async false
set_option linter.all false
set_option maxRecDepth 100000
set_option maxHeartbeats 4000000
namespace TL
open PySem PySem.Spec PyProof.Rows L2
section
variable {w t : Nat → Int}
/-! ### one more ahead of all -/
theorem Inv.front {p : Nat} {q : List Nat} (h : Inv w t q) (hp : ∀ y ∈ q, p < y) : Inv w t (p :: q) := by
  intro A y B e x hx hxy
  cases A with
  | nil => cases hx
  | cons a A =>
    simp at e
    obtain ⟨rfl, e⟩ := e
    have hy : p < y := hp y (by rw [e]; simp)
    have hx' : x ∈ A := by
      rcases List.mem_cons.mp hx with rfl | h
      · omega
      · exact h
    have := h A y B e x hx' hxy
    have z : btwf y x p = false := by
      have : ¬ y < p := by omega
      simp [btwf, this]
    simpa [tolls, z] using this
theorem Inv.back {m : Nat} {q : List Nat} (h : Inv w t q) (hm : ∀ y ∈ q, y < m) : Inv w t (q ++ [m]) := by
  intro A y B e x hx hxy
  rcases List.append_eq_append_iff.mp e with ⟨a', e1, e2⟩ | ⟨c', e1, e2⟩
  · cases a' with
    | nil =>
      simp at e1 e2
      obtain ⟨rfl, _⟩ := e2
      subst e1
      have := hm x hx
      omega
    | cons a a' => simp at e2
  · cases c' with
    | nil =>
      simp at e1 e2
      obtain ⟨rfl, _⟩ := e2
      subst e1
      have := hm x hx
      omega
    | cons a c' =>
      simp at e2
      obtain ⟨rfl, e2⟩ := e2
      exact h A y c' e1 x hx hxy
theorem Term.front {p : Nat} {A B : List Nat} (h : Term w t (A ++ B)) (hp : ∀ y ∈ A ++ B, p < y) (hx : ∀ b B', B = b :: B' → w b - w p + tolls t A (btwf p b) ≤ 0) : Term w t (A ++ p :: B) := by
  intro A1 a b B1 e hab
  have at_ : A = A1 → p = a → b :: B1 = B → w b - w a + tolls t A1 (btwf a b) ≤ 0 := by
    rintro rfl rfl rfl
    exact hx b B1 rfl
  rcases List.append_eq_append_iff.mp e with ⟨a', e1, e2⟩ | ⟨c', e1, e2⟩
  · cases a' with
    | nil =>
      simp at e1 e2
      exact at_ e1.symm e2.1 e2.2.symm
    | cons p' a'' =>
      simp at e2
      obtain ⟨rfl, rfl⟩ := e2
      subst e1
      have := h (A ++ a'') a b B1 (by simp) hab
      rw [tolls_out]
      · exact this
      · have hpa : p < a := hp a (by simp)
        have : ¬ a < p := by omega
        simp [btwf, this]
  · cases c' with
    | nil =>
      simp at e1 e2
      exact at_ e1 e2.1.symm e2.2
    | cons a1 c' =>
      simp at e2
      obtain ⟨rfl, e2⟩ := e2
      cases c' with
      | nil =>
        simp at e2
        obtain ⟨rfl, rfl⟩ := e2
        have := hp a (by rw [e1]; simp)
        omega
      | cons b1 c'' =>
        simp at e2
        obtain ⟨rfl, rfl⟩ := e2
        subst e1
        exact h A1 a b (c'' ++ B) (by simp) hab
theorem Term.back {m : Nat} {A B : List Nat} (h : Term w t (A ++ B)) (hm : ∀ y ∈ A ++ B, y < m) (hx : ∀ A' a, A = A' ++ [a] → w m - w a + tolls t A' (btwf a m) ≤ 0) : Term w t (A ++ m :: B) := by
  intro A1 a b B1 e hab
  rcases List.append_eq_append_iff.mp e with ⟨a', e1, e2⟩ | ⟨c', e1, e2⟩
  · cases a' with
    | nil =>
      simp at e2
      obtain ⟨rfl, rfl⟩ := e2
      have := hm b (by simp)
      omega
    | cons p' a'' =>
      simp at e2
      obtain ⟨rfl, rfl⟩ := e2
      subst e1
      have := h (A ++ a'') a b B1 (by simp) hab
      rw [tolls_out]
      · exact this
      · have hb : b < m := hm b (by simp)
        exact btw_hi (by omega)
  · cases c' with
    | nil =>
      simp at e2
      obtain ⟨rfl, rfl⟩ := e2
      have := hm b (by simp)
      omega
    | cons a1 c' =>
      simp at e2
      obtain ⟨rfl, e2⟩ := e2
      cases c' with
      | nil =>
        simp at e2
        obtain ⟨rfl, rfl⟩ := e2
        exact hx A1 a e1
      | cons b1 c'' =>
        simp at e2
        obtain ⟨rfl, rfl⟩ := e2
        subst e1
        exact h A1 a b (c'' ++ B) (by simp) hab
theorem rowG_skip {g : Nat → Nat → Bool} {p : Nat} : ∀ (A C B : List Nat), (∀ y ∈ B, g p y = false) → rowG w t g (A ++ p :: C) B = rowG w t g (A ++ C) B
  | _, _, [], _ => rfl
  | A, C, y :: B, h => by
    have hy := h y (by simp)
    have ih := rowG_skip A (C ++ [y]) B fun z hz => h z (List.mem_cons_of_mem _ hz)
    simp only [rowG]
    rw [tolls_out A C p (fun c => g c y) hy, show A ++ p :: C ++ [y] = A ++ p :: (C ++ [y]) by simp, ih]
    simp
theorem rowG_ins {g : Nat → Nat → Bool} {p : Nat} {A B : List Nat} (h : ∀ y ∈ B, g p y = false) : rowG w t g [] (A ++ p :: B) = (rowG w t g [] (A ++ B)).take A.length ++ (w p + tolls t A (fun c => g c p), t p) :: (rowG w t g [] (A ++ B)).drop A.length := by
  rw [rowG_append, rowG_append]
  have hl : (rowG w t g [] A).length = A.length := rowG_length [] A
  rw [List.take_left' hl, List.drop_left' hl]
  show _ ++ (_, _) :: rowG w t g (A ++ [p]) B = _
  have := rowG_skip (w := w) (t := t) A [] B h
  rw [this]
  simp
theorem tolls_none {A : List Nat} {f : Nat → Bool} (h : ∀ c ∈ A, f c = false) : tolls t A f = 0 := by
  induction A with
  | nil => rfl
  | cons c A ih => simp [tolls, h c (by simp), ih fun d hd => h d (List.mem_cons_of_mem _ hd)]
theorem gR_range {g : Nat → Nat → Bool} {n p : Nat} (hp : p < n) : gR (rowG w t g [] (List.range n)) p = (w p + tolls t (List.range p) (fun c => g c p), t p) := by
  have e : List.range n = List.range p ++ p :: List.range' (p + 1) (n - p - 1) := by
    rw [List.range_eq_range', List.range_eq_range', show n = p + (n - p - 1 + 1) by omega, ← List.range'_append_1, List.range'_succ]
    simp
  rw [e, rowG_append]
  have hl : p = (rowG w t g [] (List.range p)).length := by rw [rowG_length, List.length_range]
  show gR (_ ++ (_, _) :: _) p = _
  conv => lhs; arg 2; rw [hl]
  rw [gR_mid]
  rfl
end
end TL
set_option Elab.async false
set_option linter.all false
set_option maxRecDepth 100000
set_option maxHeartbeats 4000000
namespace TL
section
variable {w t : Nat → Int}
theorem min_over (j : Nat) : ∀ B : List Nat, (∃ c ∈ B, j < c) → ∃ c ∈ B, j < c ∧ ∀ x ∈ B, j < x → c ≤ x
  | [], h => by obtain ⟨c, hc, _⟩ := h; cases hc
  | b :: B, h => by
    by_cases hB : ∃ c ∈ B, j < c
    · obtain ⟨c, hc, h1, h2⟩ := min_over j B hB
      by_cases hb : j < b ∧ b < c
      · refine ⟨b, by simp, hb.1, fun x hx hj => ?_⟩
        rcases List.mem_cons.mp hx with rfl | hx
        · omega
        · have := h2 x hx hj; omega
      · refine ⟨c, by simp [hc], h1, fun x hx hj => ?_⟩
        rcases List.mem_cons.mp hx with rfl | hx
        · omega
        · exact h2 x hx hj
    · obtain ⟨c, hc, hj⟩ := h
      rcases List.mem_cons.mp hc with rfl | hc
      · refine ⟨c, by simp, hj, fun x hx hjx => ?_⟩
        rcases List.mem_cons.mp hx with rfl | hx
        · omega
        · exact absurd ⟨x, hx, hjx⟩ hB
      · exact absurd ⟨c, hc, hj⟩ hB
theorem tolls_zero {A : List Nat} {f : Nat → Bool} (h : ∀ c ∈ A, f c = false) : tolls t A f = 0 := by
  induction A with
  | nil => rfl
  | cons c A ih => simp [tolls, h c (by simp), ih fun d hd => h d (List.mem_cons_of_mem _ hd)]
theorem btw_lo {y x m : Nat} (h : m ≤ y) : btwf y x m = false := by
  have : ¬ y < m := by omega
  simp [btwf, this]
theorem btw_in {y x m : Nat} (h : y < m) (h' : m < x) : btwf y x m = true := by simp [btwf, h, h']
/-- whoever was ahead and stayed so isn't passed: any two -/
theorem full_of (ht : ∀ c, 0 ≤ t c) : ∀ (m : Nat) {o : List Nat}, o.Nodup → Inv w t o → Term w t o → ∀ (A : List Nat) (i : Nat) (B : List Nat) (j : Nat) (C : List Nat), B.length ≤ m → o = A ++ i :: (B ++ j :: C) → i < j → w j - w i + tolls t A (btwf i j) ≤ 0
  | m, o, hn, hI, hT, A, i, [], j, C, hm, e, hij => hT A i j C (by simpa using e) hij
  | 0, o, hn, hI, hT, A, i, b :: B', j, C, hm, e, hij => by simp at hm
  | m + 1, o, hn, hI, hT, A, i, b :: B', j, C, hm, e, hij => by
    have nd := hn
    rw [e] at nd
    have jA : j ∉ A := by
      rw [List.nodup_append] at nd
      exact fun z => nd.2.2 j z j (by simp) rfl
    have iA : i ∉ A := by
      rw [List.nodup_append] at nd
      exact fun z => nd.2.2 i z i (by simp) rfl
    have bA : b ∉ A := by
      rw [List.nodup_append] at nd
      exact fun z => nd.2.2 b z b (by simp) rfl
    have nj : j ∉ b :: B' := fun z => by
      rw [List.nodup_append, List.nodup_cons, List.nodup_append] at nd
      exact nd.2.1.2.2.2 j z j (by simp) rfl
    have ni : i ∉ b :: B' := fun z => by
      rw [List.nodup_append, List.nodup_cons] at nd
      exact nd.2.1.1 (List.mem_append_left _ z)
    by_cases hc : ∃ c ∈ b :: B', j < c
    · obtain ⟨c, hcB, hjc, hmin⟩ := min_over j _ hc
      obtain ⟨B1, B2, eB⟩ := List.append_of_mem hcB
      have hB1 : B1.length ≤ m := by
        have := congrArg List.length eB
        simp at this hm
        omega
      have g1 := full_of ht m hn hI hT A i B1 c (B2 ++ j :: C) hB1 (by rw [e, eB]; simp) (by omega)
      have g2 := hI (A ++ i :: (b :: B')) j C (by rw [e]; simp) c (by simp; right; right; simpa using hcB) hjc
      have z : tolls t (i :: (b :: B')) (btwf j c) = 0 := tolls_zero fun x hx => by
        rcases List.mem_cons.mp hx with rfl | hx
        · exact btw_lo (by omega)
        · by_cases hjx : j < x
          · exact btw_hi (hmin x hx hjx)
          · exact btw_lo (by omega)
      rw [tolls_append, z] at g2
      have sp := tolls_btw (t := t) A hij hjc jA
      omega
    · have hbj : b < j := by
        rcases Nat.lt_trichotomy b j with h | h | h
        · exact h
        · exact absurd (by simp [h]) nj
        · exact absurd ⟨b, by simp, h⟩ hc
      have hB' : B'.length ≤ m := by simp at hm; omega
      have g1 := full_of ht m hn hI hT (A ++ [i]) b B' j C hB' (by rw [e]; simp) hbj
      rw [tolls_append] at g1
      have hib : i ≠ b := fun z => ni (by simp [z])
      rcases Nat.lt_or_gt_of_ne hib with h | h
      · have g2 := hT A i b (B' ++ j :: C) (by rw [e]; simp) h
        have z : tolls t [i] (btwf b j) = 0 := tolls_zero fun x hx => by
          have : x = i := by simpa using hx
          exact btw_lo (by omega)
        have sp := tolls_btw (t := t) A h hbj bA
        omega
      · have g2 := hI (A ++ [i]) b (B' ++ j :: C) (by rw [e]; simp) i (by simp) h
        rw [tolls_append] at g2
        have z : tolls t [i] (btwf b i) = 0 := tolls_zero fun x hx => by
          have : x = i := by simpa using hx
          exact btw_hi (by omega)
        have z2 : tolls t [i] (btwf b j) = t i := by
          simp [tolls, btw_in h hij]
        have sp := tolls_btw (t := t) A h hij iA
        have := ht i
        omega
/-- x stands ahead of y -/
def ah (o : List Nat) (x y : Nat) : Bool := decide (o.idxOf x < o.idxOf y)
theorem idx_mid {A : List Nat} {x : Nat} {B : List Nat} (h : x ∉ A) : (A ++ x :: B).idxOf x = A.length := by
  rw [List.idxOf_append, if_neg h]
  simp
theorem ah_iff {o : List Nat} (hn : o.Nodup) {A : List Nat} {y : Nat} {B : List Nat} (e : o = A ++ y :: B) {x : Nat} : ah o x y = true ↔ x ∈ A := by
  subst e
  have hy : y ∉ A := by
    rw [List.nodup_append] at hn
    exact fun z => hn.2.2 y z y (by simp) rfl
  unfold ah
  rw [idx_mid hy, decide_eq_true_eq]
  constructor
  · intro h
    by_cases hx : x ∈ A
    · exact hx
    · rw [List.idxOf_append, if_neg hx] at h
      omega
  · intro h
    rw [List.idxOf_append, if_pos h]
    exact List.idxOf_lt_length_iff.mpr h
theorem tolls_congr {A : List Nat} {f g : Nat → Bool} (h : ∀ c ∈ A, f c = g c) : tolls t A f = tolls t A g := by
  induction A with
  | nil => rfl
  | cons c A ih => simp only [tolls, h c (by simp), ih fun d hd => h d (List.mem_cons_of_mem _ hd)]
theorem tolls_permL {A B : List Nat} (h : A.Perm B) (f : Nat → Bool) : tolls t A f = tolls t B f := by
  induction h with
  | nil => rfl
  | cons x _ ih => simp only [tolls, ih]
  | swap x y l => simp only [tolls]; omega
  | trans _ _ h1 h2 => rw [h1, h2]
theorem tolls_ahead {n : Nat} {o : List Nat} (hp : o.Perm (List.range n)) {A : List Nat} {y : Nat} {B : List Nat} (e : o = A ++ y :: B) (f : Nat → Bool) : tolls t A f = tolls t (List.range n) (fun c => f c && ah o c y) := by
  have hn : o.Nodup := hp.nodup_iff.mpr List.nodup_range
  rw [← tolls_permL hp]
  have hA : ∀ c ∈ A, (f c && ah o c y) = f c := fun c hc => by rw [(ah_iff hn e).mpr hc]; simp
  have hB : ∀ c ∈ y :: B, (f c && ah o c y) = false := fun c hc => by
    cases q : ah o c y with
    | false => simp
    | true =>
      have h1 := (ah_iff hn e).mp q
      rw [e, List.nodup_append] at hn
      exact absurd rfl (hn.2.2 c h1 c hc)
  have e2 : tolls t o (fun c => f c && ah o c y) = tolls t (A ++ y :: B) (fun c => f c && ah o c y) := by rw [← e]
  rw [e2, tolls_append, tolls_congr hA, tolls_zero hB]
  omega
theorem ah_anti {o : List Nat} {x y : Nat} (h : ah o x y = true) : ah o y x = false := by
  unfold ah at h ⊢
  simp at h ⊢
  omega
theorem ah_trans {o : List Nat} {x y z : Nat} (h : ah o x y = true) (h' : ah o y z = true) : ah o x z = true := by
  unfold ah at h h' ⊢
  simp at h h' ⊢
  omega
theorem ah_total {o : List Nat} {x y : Nat} (hx : x ∈ o) (hne : x ≠ y) (h : ah o x y = false) : ah o y x = true := by
  unfold ah at h ⊢
  simp at h ⊢
  rcases Nat.lt_or_eq_of_le h with h | h
  · exact h
  · have hl : o.idxOf x < o.length := List.idxOf_lt_length_iff.mpr hx
    have hl2 : o.idxOf y < o.length := by omega
    have e1 := List.getElem_idxOf hl
    have e2 := List.getElem_idxOf hl2
    have : o[o.idxOf y] = o[o.idxOf x] := by simp [h]
    exact absurd (by rw [← e1, ← e2, this]) hne
/-- who passes whom, by sums -/
theorem sum_law (ht : ∀ c, 0 ≤ t c) {n : Nat} {o : List Nat} (hp : o.Perm (List.range n)) (hI : Inv w t o) (hT : Term w t o) {i j : Nat} (hij : i < j) (hj : j < n) :
    ah o j i = true ↔ 0 < w j - w i + tolls t (List.range n) (fun c => btwf i j c && ah o c i) := by
  have hn : o.Nodup := hp.nodup_iff.mpr List.nodup_range
  have mi : i ∈ o := hp.mem_iff.mpr (by simp; omega)
  have mj : j ∈ o := hp.mem_iff.mpr (by simp; omega)
  obtain ⟨A, B, e⟩ := List.append_of_mem mi
  rw [← tolls_ahead hp e]
  constructor
  · intro h
    exact hI A i B e j ((ah_iff hn e).mp h) hij
  · intro h
    have hjB : j ∈ A ∨ j ∈ B := by
      rw [e] at mj
      rcases List.mem_append.mp mj with h | h
      · exact .inl h
      · rcases List.mem_cons.mp h with h | h
        · omega
        · exact .inr h
    rcases hjB with hA | hB
    · exact (ah_iff hn e).mpr hA
    · obtain ⟨B1, C, eB⟩ := List.append_of_mem hB
      have := full_of ht B1.length hn hI hT A i B1 j C (Nat.le_refl _) (by rw [e, eB]) hij
      omega
/-- there is an end -/
theorem end_ex (ht : ∀ c, 0 ≤ t c) (n : Nat) : ∀ (m : Nat) (o : List Nat), o.Perm (List.range n) → Inv w t o → n * n - inv o ≤ m → ∃ o', o'.Perm (List.range n) ∧ Inv w t o' ∧ Term w t o'
  | m, o, hp, hI, hm => by
    by_cases hT : Term w t o
    · exact ⟨o, hp, hI, hT⟩
    · have hlo : o.length = n := by rw [hp.length_eq, List.length_range]
      obtain ⟨A, a, b, B, e, hab, h⟩ : ∃ A a b B, o = A ++ a :: b :: B ∧ a < b ∧ 0 < w b - w a + tolls t A (btwf a b) := by
        apply Classical.byContradiction
        intro z
        refine hT fun A a b B e hab => ?_
        apply Classical.byContradiction
        intro h
        exact z ⟨A, a, b, B, e, hab, by omega⟩
      have hI2 : Inv w t (A ++ b :: a :: B) := (e ▸ hI).swap ht hab h
      have hp2 : (A ++ b :: a :: B).Perm (List.range n) := (List.Perm.append_left A (List.Perm.swap a b B)).trans (e ▸ hp)
      have hiv := inv_swap A B hab
      have hle := inv_le (A ++ b :: a :: B)
      have hl2 : (A ++ b :: a :: B).length = n := by rw [hp2.length_eq, List.length_range]
      rw [hl2] at hle
      rw [e] at hm
      cases m with
      | zero => omega
      | succ m => exact end_ex ht n m _ hp2 hI2 (by omega)
end
end TL
set_option Elab.async false
set_option linter.all false
set_option maxRecDepth 100000
set_option maxHeartbeats 4000000
namespace TL
section
/-! ### a row's own labels, its ends -/
def tP (l : Row) (c : Nat) : Int := (gR l c).2
def sP (l : Row) (c : Nat) : Int := (gR l c).1
def wP (l : Row) (y : Nat) : Int := sP l y - tolls (tP l) (List.range y) (fun c => gP c y)
def T0 (l : Row) : Prop := ∀ p ∈ l, 0 ≤ p.2
theorem RowOk.t0 {S T : Int} {l : Row} (h : RowOk S T l) : T0 l := fun p hp => (h.t p hp).1
theorem tP_nn {l : Row} (h : T0 l) (c : Nat) : 0 ≤ tP l c := by
  unfold tP gR
  by_cases hc : c < l.length
  · have := h l[c] (List.getElem_mem hc)
    simpa [hc] using this
  · have : l[c]? = none := List.getElem?_eq_none (by omega)
    simp [this]
theorem rowG_P (l : Row) : rowG (wP l) (tP l) gP [] (List.range l.length) = l := rowG_range (fun y => by show wP l y + _ = sP l y; unfold wP; omega) fun _ => rfl
theorem tolls_gF (t : Nat → Int) (y : Nat) : tolls t (List.range y) (fun c => gF c y) = 0 := tolls_zero fun c hc => by
  have : c < y := by simpa using hc
  have : ¬ y < c := by omega
  simp [gF, this]
theorem rowG_F (l : Row) : rowG (sP l) (tP l) gF [] (List.range l.length) = l := rowG_range (fun y => by rw [tolls_gF]; show sP l y + 0 = sP l y; omega) fun _ => rfl
theorem lab_get {w t : Nat → Int} {g : Nat → Nat → Bool} {l : Row} (h : rowG w t g [] (List.range l.length) = l) {y : Nat} (hy : y < l.length) : t y = tP l y ∧ w y + tolls t (List.range y) (fun c => g c y) = sP l y := by
  have := gR_range (w := w) (t := t) (g := g) (n := l.length) hy
  rw [h] at this
  exact ⟨by unfold tP; rw [this], by unfold sP; rw [this]⟩
theorem tolls_t {t t' : Nat → Int} {A : List Nat} {f : Nat → Bool} (h : ∀ c ∈ A, t c = t' c) : tolls t A f = tolls t' A f := by
  induction A with
  | nil => rfl
  | cons c A ih => simp only [tolls, h c (by simp), ih fun d hd => h d (List.mem_cons_of_mem _ hd)]
theorem Inv.congr {w w' t t' : Nat → Int} {o : List Nat} (h : ∀ c ∈ o, w c = w' c ∧ t c = t' c) (hI : Inv w t o) : Inv w' t' o := by
  rintro A y B rfl x hx hxy
  have := hI A y B rfl x hx hxy
  rw [(h x (by simp [hx])).1, (h y (by simp)).1, tolls_t (t' := t') fun c hc => (h c (by simp [hc])).2] at this
  exact this
theorem Term.congr {w w' t t' : Nat → Int} {o : List Nat} (h : ∀ c ∈ o, w c = w' c ∧ t c = t' c) (hI : Term w t o) : Term w' t' o := by
  rintro A a b B rfl hab
  have := hI A a b B rfl hab
  rw [(h b (by simp)).1, (h a (by simp)).1, tolls_t (t' := t') fun c hc => (h c (by simp [hc])).2] at this
  exact this
theorem rowG_congr {w w' t t' : Nat → Int} {g : Nat → Nat → Bool} : ∀ (A o : List Nat), (∀ c ∈ A ++ o, w c = w' c ∧ t c = t' c) → rowG w t g A o = rowG w' t' g A o
  | _, [], _ => rfl
  | A, y :: o, h => by
    simp only [rowG]
    rw [(h y (by simp)).1, (h y (by simp)).2, tolls_t (t' := t') fun c hc => (h c (by simp [hc])).2, rowG_congr (A ++ [y]) o fun c hc => h c (by simpa using hc)]
theorem lab_P {w t : Nat → Int} {l : Row} (h : rowG w t gP [] (List.range l.length) = l) {y : Nat} (hy : y < l.length) : w y = wP l y ∧ t y = tP l y := by
  obtain ⟨h1, h2⟩ := lab_get h hy
  refine ⟨?_, h1⟩
  unfold wP
  rw [← h2, tolls_t (t := tP l) (t' := t) fun c hc => ?_]
  · omega
  · have : c < y := by simpa using hc
    exact (lab_get h (y := c) (by omega)).1.symm
theorem lab_F {s t : Nat → Int} {l : Row} (h : rowG s t gF [] (List.range l.length) = l) {y : Nat} (hy : y < l.length) : s y = sP l y ∧ t y = tP l y := by
  obtain ⟨h1, h2⟩ := lab_get h hy
  rw [tolls_gF] at h2
  exact ⟨by omega, h1⟩
theorem lastO_ex {l : Row} (h : T0 l) : ∃ o, o.Perm (List.range l.length) ∧ Inv (wP l) (tP l) o ∧ Term (wP l) (tP l) o := end_ex (tP_nn h) l.length _ _ (List.Perm.refl _) (Inv.range _) (Nat.le_refl _)
theorem firstO_ex {l : Row} (h : T0 l) : ∃ o, o.Perm (List.range l.length) ∧ Inv (fun c => - sP l c) (tP l) o ∧ Term (fun c => - sP l c) (tP l) o := end_ex (tP_nn h) l.length _ _ (List.Perm.refl _) (Inv.range _) (Nat.le_refl _)
open Classical in
noncomputable def lastO (l : Row) : List Nat := if h : T0 l then Classical.choose (lastO_ex h) else List.range l.length
open Classical in
noncomputable def firstO (l : Row) : List Nat := if h : T0 l then Classical.choose (firstO_ex h) else List.range l.length
noncomputable def lastR (l : Row) : Row := rowG (wP l) (tP l) gP [] (lastO l)
noncomputable def firstR (l : Row) : Row := rowG (sP l) (tP l) gF [] (firstO l)
theorem lastO_spec {l : Row} (h : T0 l) : (lastO l).Perm (List.range l.length) ∧ Inv (wP l) (tP l) (lastO l) ∧ Term (wP l) (tP l) (lastO l) := by
  unfold lastO
  rw [dif_pos h]
  exact Classical.choose_spec (lastO_ex h)
theorem firstO_spec {l : Row} (h : T0 l) : (firstO l).Perm (List.range l.length) ∧ Inv (fun c => - sP l c) (tP l) (firstO l) ∧ Term (fun c => - sP l c) (tP l) (firstO l) := by
  unfold firstO
  rw [dif_pos h]
  exact Classical.choose_spec (firstO_ex h)
theorem lastO_len {l : Row} (h : T0 l) : (lastO l).length = l.length := by rw [(lastO_spec h).1.length_eq, List.length_range]
theorem firstO_len {l : Row} (h : T0 l) : (firstO l).length = l.length := by rw [(firstO_spec h).1.length_eq, List.length_range]
theorem lastR_len {l : Row} (h : T0 l) : (lastR l).length = l.length := by unfold lastR; rw [rowG_length, lastO_len h]
theorem firstR_len {l : Row} (h : T0 l) : (firstR l).length = l.length := by unfold firstR; rw [rowG_length, firstO_len h]
theorem last_uniq {l : Row} (h : T0 l) {w t : Nat → Int} {o : List Nat} (hr : rowG w t gP [] (List.range l.length) = l) (hp : o.Perm (List.range l.length)) (hI : Inv w t o) (hT : Term w t o) : o = lastO l ∧ rowG w t gP [] o = lastR l := by
  have hc : ∀ c ∈ o, w c = wP l c ∧ t c = tP l c := fun c hc => lab_P hr (by simpa using hp.mem_iff.mp hc)
  obtain ⟨p2, I2, T2⟩ := lastO_spec h
  have e := uniq _ _ _ hp p2 (hI.congr hc) I2 (hT.congr hc) T2
  refine ⟨e, ?_⟩
  unfold lastR
  rw [← e]
  exact rowG_congr [] o (by simpa using hc)
theorem first_uniq {l : Row} (h : T0 l) {s t : Nat → Int} {o : List Nat} (hr : rowG s t gF [] (List.range l.length) = l) (hp : o.Perm (List.range l.length)) (hI : Inv (fun c => - s c) t o) (hT : Term (fun c => - s c) t o) : o = firstO l ∧ rowG s t gF [] o = firstR l := by
  have hc : ∀ c ∈ o, s c = sP l c ∧ t c = tP l c := fun c hc => lab_F hr (by simpa using hp.mem_iff.mp hc)
  have hc' : ∀ c ∈ o, - s c = - sP l c ∧ t c = tP l c := fun c h => ⟨by rw [(hc c h).1], (hc c h).2⟩
  obtain ⟨p2, I2, T2⟩ := firstO_spec h
  have e := uniq _ _ _ hp p2 (hI.congr hc') I2 (hT.congr hc') T2
  refine ⟨e, ?_⟩
  unfold firstR
  rw [← e]
  exact rowG_congr [] o (by simpa using hc)
/-! ### who never passes whom: the sums of never -/
def barN (l : Row) (i : Nat) : Nat → Int
  | 0 => (gR l i).1 + (gR l i).2
  | k + 1 => if (gR l (i + 1 + k)).1 ≤ barN l i k then barN l i k + (gR l (i + 1 + k)).2 else barN l i k
/-- j passes i -/
def Pv (l : Row) (i j : Nat) : Bool := decide (barN l i (j - (i + 1)) < (gR l j).1)
theorem tolls_not (t : Nat → Int) (A : List Nat) (f : Nat → Bool) : tolls t A (fun _ => true) = tolls t A f + tolls t A (fun c => !f c) := by
  induction A with
  | nil => rfl
  | cons c A ih =>
    simp only [tolls, ih]
    by_cases h : f c = true
    · simp [h]; omega
    · have h : f c = false := by simpa using h
      simp [h]; omega
theorem barN_eq (l : Row) (i : Nat) : ∀ k, barN l i k = sP l i + tP l i + tolls (tP l) (List.range' (i + 1) k) (fun c => !Pv l i c)
  | 0 => by simp [barN, tolls, sP, tP]
  | k + 1 => by
    rw [List.range'_1_concat, tolls_append, barN, barN_eq l i k]
    have e : Pv l i (i + 1 + k) = decide (barN l i k < (gR l (i + 1 + k)).1) := by
      unfold Pv
      rw [show i + 1 + k - (i + 1) = k by omega]
    rw [barN_eq l i k] at e
    simp only [tolls, e]
    by_cases h : (gR l (i + 1 + k)).1 ≤ sP l i + tP l i + tolls (tP l) (List.range' (i + 1) k) (fun c => !Pv l i c)
    · have h2 : ¬ sP l i + tP l i + tolls (tP l) (List.range' (i + 1) k) (fun c => !Pv l i c) < (gR l (i + 1 + k)).1 := by omega
      rw [if_pos h, decide_eq_false h2]
      simp [tP]
      omega
    · have h2 : sP l i + tP l i + tolls (tP l) (List.range' (i + 1) k) (fun c => !Pv l i c) < (gR l (i + 1 + k)).1 := by omega
      simp [h, h2]
theorem tolls_mid (t : Nat → Int) {n i j : Nat} (hij : i < j) (hj : j < n) (f : Nat → Bool) : tolls t (List.range n) (fun c => btwf i j c && f c) = tolls t (List.range' (i + 1) (j - (i + 1))) f := by
  have e : List.range n = List.range' 0 (i + 1) ++ (List.range' (i + 1) (j - (i + 1)) ++ List.range' j (n - j)) := by
    have e1 : List.range' (i + 1) (j - (i + 1)) ++ List.range' j (n - j) = List.range' (i + 1) (n - (i + 1)) := by
      have := @List.range'_append_1 (i + 1) (j - (i + 1)) (n - j)
      rw [show i + 1 + (j - (i + 1)) = j by omega] at this
      rw [this]
      congr 1
      omega
    have e2 := @List.range'_append_1 0 (i + 1) (n - (i + 1))
    rw [Nat.zero_add] at e2
    rw [e1, e2, List.range_eq_range']
    congr 1
    omega
  have z1 : tolls t (List.range' 0 (i + 1)) (fun c => btwf i j c && f c) = 0 := tolls_zero fun c hc => by
    rw [List.mem_range'_1] at hc
    rw [btw_lo (by omega)]; rfl
  have z2 : tolls t (List.range' j (n - j)) (fun c => btwf i j c && f c) = 0 := tolls_zero fun c hc => by
    rw [List.mem_range'_1] at hc
    rw [btw_hi (by omega)]; rfl
  have z3 : tolls t (List.range' (i + 1) (j - (i + 1))) (fun c => btwf i j c && f c) = tolls t (List.range' (i + 1) (j - (i + 1))) f := tolls_congr fun c hc => by
    rw [List.mem_range'_1] at hc
    rw [btw_in (by omega) (by omega)]; rfl
  rw [e, tolls_append, tolls_append, z1, z2, z3]
  omega
theorem tolls_all (t : Nat → Int) (y : Nat) : tolls t (List.range y) (fun c => gP c y) = tolls t (List.range y) (fun _ => true) := tolls_congr fun c hc => by
  have : c < y := by simpa using hc
  simp [gP, this]
theorem tolls_range (t : Nat → Int) {i j : Nat} (hij : i < j) : tolls t (List.range j) (fun _ => true) = tolls t (List.range i) (fun _ => true) + t i + tolls t (List.range' (i + 1) (j - (i + 1))) (fun _ => true) := by
  have e : List.range j = List.range i ++ (i :: List.range' (i + 1) (j - (i + 1))) := by
    rw [← List.range'_succ, List.range_eq_range', List.range_eq_range', show List.range' i (j - (i + 1) + 1) = List.range' (0 + i) (j - (i + 1) + 1) by rw [Nat.zero_add], List.range'_append_1]
    congr 1
    omega
  rw [e, tolls_append]
  simp only [tolls]
  simp
  omega
theorem wP_diff (l : Row) {i j : Nat} (hij : i < j) : wP l j - wP l i = sP l j - sP l i - tP l i - tolls (tP l) (List.range' (i + 1) (j - (i + 1))) (fun _ => true) := by
  unfold wP
  rw [tolls_all, tolls_all, tolls_range (tP l) hij]
  omega
theorem ah_Pv {l : Row} (h : T0 l) {i : Nat} : ∀ (j : Nat), i < j → j < l.length → ah (lastO l) j i = Pv l i j := by
  intro j
  induction j using Nat.strongRecOn with
  | ind j ih =>
    intro hij hj
    obtain ⟨hp, hI, hT⟩ := lastO_spec h
    have key := sum_law (tP_nn h) hp hI hT hij hj
    rw [tolls_mid _ hij hj, wP_diff l hij] at key
    have e : tolls (tP l) (List.range' (i + 1) (j - (i + 1))) (fun c => ah (lastO l) c i) = tolls (tP l) (List.range' (i + 1) (j - (i + 1))) (fun c => Pv l i c) := tolls_congr fun c hc => by
      rw [List.mem_range'_1] at hc
      exact ih c (by omega) (by omega) (by omega)
    rw [e, tolls_not (tP l) _ (fun c => Pv l i c)] at key
    unfold Pv
    rw [barN_eq]
    rw [Bool.eq_iff_iff, key, decide_eq_true_eq]
    show _ ↔ _ < sP l j
    constructor <;> intro h <;> omega
end
end TL
set_option Elab.async false
set_option linter.all false
set_option maxRecDepth 100000
set_option maxHeartbeats 4000000
namespace TL
section
/-! ### lists of pairs, rising -/
def pairsU (n : Nat) (f : Nat → Nat → Bool) : List (Nat × Nat) := (List.range n).flatMap fun i => ((List.range (n - (i + 1))).filter fun j => f i (i + 1 + j)).map fun j => (i, i + 1 + j)
theorem mem_pairsU {n : Nat} {f : Nat → Nat → Bool} {p : Nat × Nat} : p ∈ pairsU n f ↔ p.1 < p.2 ∧ p.2 < n ∧ f p.1 p.2 = true := by
  unfold pairsU
  simp only [List.mem_flatMap, List.mem_range, List.mem_map, List.mem_filter]
  constructor
  · rintro ⟨i, hi, j, ⟨hj, hf⟩, rfl⟩
    exact ⟨by dsimp only; omega, by dsimp only; omega, hf⟩
  · rintro ⟨h1, h2, h3⟩
    refine ⟨p.1, by omega, p.2 - (p.1 + 1), ⟨by omega, ?_⟩, ?_⟩
    · rw [show p.1 + 1 + (p.2 - (p.1 + 1)) = p.2 by omega]; exact h3
    · rw [show p.1 + 1 + (p.2 - (p.1 + 1)) = p.2 by omega]
def ltN (p q : Nat × Nat) : Prop := p.1 < q.1 ∨ (p.1 = q.1 ∧ p.2 < q.2)
theorem ltN_irr {p : Nat × Nat} : ¬ ltN p p := by unfold ltN; omega
theorem pairsU_sorted (n : Nat) (f : Nat → Nat → Bool) : (pairsU n f).Pairwise ltN := by
  unfold pairsU
  rw [List.pairwise_flatMap]
  refine ⟨fun i _ => ?_, ?_⟩
  · rw [List.pairwise_map]
    refine List.Pairwise.imp ?_ (List.Pairwise.filter _ (List.pairwise_lt_range))
    intro a b h
    exact .inr ⟨rfl, by dsimp only; omega⟩
  · refine List.Pairwise.imp ?_ (List.pairwise_lt_range)
    intro a b h x hx y hy
    simp only [List.mem_map, List.mem_filter] at hx hy
    obtain ⟨_, _, rfl⟩ := hx
    obtain ⟨_, _, rfl⟩ := hy
    exact .inl h
theorem nodup_of_lt {α : Type} {R : α → α → Prop} (hi : ∀ x, ¬ R x x) {l : List α} (h : l.Pairwise R) : l.Nodup := List.Pairwise.imp (fun {a b} hab e => by subst e; exact hi _ hab) h
theorem pairsU_nodup (n : Nat) (f : Nat → Nat → Bool) : (pairsU n f).Nodup := nodup_of_lt (fun _ => ltN_irr) (pairsU_sorted n f)
theorem flatMap_cong {α β : Type} {l : List α} {f g : α → List β} (h : ∀ a ∈ l, f a = g a) : l.flatMap f = l.flatMap g := by
  induction l with
  | nil => rfl
  | cons a l ih => rw [List.flatMap_cons, List.flatMap_cons, h a (by simp), ih fun b hb => h b (List.mem_cons_of_mem _ hb)]
theorem pairsU_congr {n : Nat} {f g : Nat → Nat → Bool} (h : ∀ i j, i < j → j < n → f i j = g i j) : pairsU n f = pairsU n g := by
  unfold pairsU
  have : ∀ i ∈ List.range n, ((List.range (n - (i + 1))).filter fun j => f i (i + 1 + j)).map (fun j => (i, i + 1 + j)) = ((List.range (n - (i + 1))).filter fun j => g i (i + 1 + j)).map fun j => (i, i + 1 + j) := fun i hi => by
    congr 1
    refine List.filter_congr fun j hj => ?_
    have h1 : i < n := by simpa using hi
    have h2 : j < n - (i + 1) := by simpa using hj
    rw [h i (i + 1 + j) (by omega) (by omega)]
  exact flatMap_cong this
/-- sorted lists of the same things are one -/
theorem sorted_uniq {α : Type} {R : α → α → Prop} (as : ∀ x y, R x y → R y x → x = y) : ∀ {l m : List α}, l.Perm m → l.Pairwise R → m.Pairwise R → l = m
  | [], m, h, _, _ => (List.nil_perm.mp h).symm
  | x :: l, [], h, _, _ => absurd h.length_eq (by simp)
  | x :: l, y :: m, h, hl, hm => by
    rw [List.pairwise_cons] at hl hm
    have e : x = y := by
      have h1 : x ∈ y :: m := h.mem_iff.mp (by simp)
      have h2 : y ∈ x :: l := h.mem_iff.mpr (by simp)
      rcases List.mem_cons.mp h1 with e | h1
      · exact e
      · rcases List.mem_cons.mp h2 with e | h2
        · exact e.symm
        · exact as _ _ (hl.1 y h2) (hm.1 x h1)
    subst e
    rw [sorted_uniq as h.cons_inv hl.2 hm.2]
theorem perm_of_mem {α : Type} {l m : List α} (hl : l.Nodup) (hm : m.Nodup) (h : ∀ x, x ∈ l ↔ x ∈ m) : l.Perm m := (List.perm_ext_iff_of_nodup hl hm).mpr h
theorem invP_nodup : ∀ {o : List Nat}, o.Nodup → (invP o).Nodup
  | [], _ => List.nodup_nil
  | y :: B, h => by
    rw [List.nodup_cons] at h
    rw [invP, List.nodup_append]
    refine ⟨?_, invP_nodup h.2, ?_⟩
    · unfold List.Nodup
      rw [List.pairwise_map]
      refine List.Pairwise.imp ?_ (List.Pairwise.filter _ h.2)
      intro a b hab e
      exact hab (congrArg Prod.fst e)
    · intro a ha b hb e
      subst e
      simp only [List.mem_map, List.mem_filter] at ha
      obtain ⟨c, _, rfl⟩ := ha
      obtain ⟨A, B', C, e, _⟩ := invP_mem.mp hb
      exact h.1 (by rw [e]; simp)
theorem invP_ah {n : Nat} {o : List Nat} (hp : o.Perm (List.range n)) {p : Nat × Nat} : p ∈ invP o ↔ p.1 < p.2 ∧ p.2 < n ∧ ah o p.2 p.1 = true := by
  have hn : o.Nodup := hp.nodup_iff.mpr List.nodup_range
  rw [invP_mem]
  constructor
  · rintro ⟨A, B, C, e, h⟩
    have m2 : p.2 ∈ o := by rw [e]; simp
    refine ⟨h, by simpa using hp.mem_iff.mp m2, ?_⟩
    refine (ah_iff hn (A := A ++ p.2 :: B) (B := C) (by rw [e]; simp)).mpr (by simp)
  · rintro ⟨h1, h2, h3⟩
    have m1 : p.1 ∈ o := hp.mem_iff.mpr (by simp; omega)
    obtain ⟨A, C, e⟩ := List.append_of_mem m1
    have := (ah_iff hn e).mp h3
    obtain ⟨A1, B, eA⟩ := List.append_of_mem this
    exact ⟨A1, B, C, by rw [e, eA]; simp, h1⟩
theorem invP_pairsU {n : Nat} {o : List Nat} (hp : o.Perm (List.range n)) : (invP o).Perm (pairsU n fun i j => ah o j i) :=
  perm_of_mem (invP_nodup (hp.nodup_iff.mpr List.nodup_range)) (pairsU_nodup _ _) fun p => by rw [invP_ah hp, mem_pairsU]
/-- who passes whom till the last -/
def passL (l : Row) : List (Nat × Nat) := pairsU l.length (Pv l)
theorem passL_eq {l : Row} (h : T0 l) : (pairsU l.length fun i j => ah (lastO l) j i) = passL l := pairsU_congr fun i j hij hj => ah_Pv h j hij hj
theorem invP_last {l : Row} (h : T0 l) : (invP (lastO l)).Perm (passL l) := by
  rw [← passL_eq h]
  exact invP_pairsU (lastO_spec h).1
end
end TL
set_option Elab.async false
set_option linter.all false
set_option maxRecDepth 100000
set_option maxHeartbeats 4000000
namespace TL
section
/-! ### stronger ones, dearer ones -/
theorem barN_mono {l l' : Row} {i : Nat} (h0 : (gR l i).1 + (gR l i).2 ≤ (gR l' i).1 + (gR l' i).2) : ∀ (k : Nat), (∀ j, i < j → j < i + 1 + k → (gR l' j).1 ≤ (gR l j).1 ∧ (gR l j).2 ≤ (gR l' j).2 ∧ 0 ≤ (gR l j).2) → barN l i k ≤ barN l' i k
  | 0, _ => h0
  | k + 1, h => by
    have ih := barN_mono h0 k fun j h1 h2 => h j h1 (by omega)
    obtain ⟨g1, g2, g3⟩ := h (i + 1 + k) (by omega) (by omega)
    simp only [barN]
    split <;> split <;> omega
theorem Pv_mono {l l' : Row} {i j : Nat} (hij : i < j) (h0 : (gR l i).1 + (gR l i).2 ≤ (gR l' i).1 + (gR l' i).2) (h : ∀ k, i < k → k < j → (gR l' k).1 ≤ (gR l k).1 ∧ (gR l k).2 ≤ (gR l' k).2 ∧ 0 ≤ (gR l k).2) (hj : (gR l' j).1 ≤ (gR l j).1) (hp : Pv l' i j = true) : Pv l i j = true := by
  have := barN_mono h0 (j - (i + 1)) fun k h1 h2 => h k h1 (by omega)
  unfold Pv at hp ⊢
  rw [decide_eq_true_eq] at hp ⊢
  omega
theorem barN_same {l l' : Row} {i : Nat} (h0 : gR l' i = gR l i) : ∀ (k : Nat), (∀ j, i < j → j < i + 1 + k → gR l' j = gR l j) → barN l' i k = barN l i k
  | 0, _ => by simp [barN, h0]
  | k + 1, h => by
    have ih := barN_same h0 k fun j h1 h2 => h j h1 (by omega)
    simp only [barN, ih, h (i + 1 + k) (by omega) (by omega)]
theorem Pv_same {l l' : Row} {i j : Nat} (hij : i < j) (h0 : gR l' i = gR l i) (h : ∀ k, i < k → k < j → gR l' k = gR l k) (hj : (gR l' j).1 = (gR l j).1) : Pv l' i j = Pv l i j := by
  have := barN_same h0 (j - (i + 1)) fun k h1 h2 => h k h1 (by omega)
  unfold Pv
  rw [this, hj]
/-- one of a row otherwise -/
def chR (l : Row) (j : Nat) (m a : Int) : Row := l.take j ++ [((gR l j).1 + m, (gR l j).2 + a)] ++ l.drop (j + 1)
theorem chR_len {l : Row} {j : Nat} {m a : Int} (h : j < l.length) : (chR l j m a).length = l.length := by simp [chR]; omega
theorem chR_get {l : Row} {j : Nat} {m a : Int} (h : j < l.length) (k : Nat) : gR (chR l j m a) k = if k = j then ((gR l j).1 + m, (gR l j).2 + a) else gR l k := by
  by_cases e : k = j
  · subst e
    rw [if_pos rfl]
    unfold chR
    rw [List.append_assoc, List.singleton_append]
    have : k = (l.take k).length := by simp; omega
    conv => lhs; arg 2; rw [this]
    exact gR_mid _ _ _
  · rw [if_neg e]
    simp only [gR, chR, List.getD_eq_getElem?_getD]
    congr 1
    rw [List.append_assoc]
    by_cases hk : k < j
    · rw [List.getElem?_append_left (by simp; omega), List.getElem?_take, if_pos hk]
    · rw [List.getElem?_append_right (by simp; omega)]
      have e2 : (l.take j).length = j := by simp; omega
      rw [e2, List.singleton_append, show k - j = (k - j - 1) + 1 by omega, List.getElem?_cons_succ, List.getElem?_drop]
      congr 1
      omega
theorem chR_t0 {l : Row} {j : Nat} {m a : Int} (h : T0 l) (hj : j < l.length) (ha : 0 ≤ (gR l j).2 + a) : T0 (chR l j m a) := fun p hp => by
  unfold chR at hp
  simp at hp
  rcases hp with hp | hp | hp
  · exact h p (List.mem_of_mem_take hp)
  · subst hp; exact ha
  · exact h p (List.mem_of_mem_drop hp)
theorem gR_t0 {l : Row} (h : T0 l) (j : Nat) : 0 ≤ (gR l j).2 := tP_nn h j
/-- a toll raised: no new passing -/
theorem dear_sub {l : Row} {j : Nat} {a b : Int} (h : T0 l) (hj : j < l.length) (ha : 0 ≤ a) (hab : a ≤ b) {x y : Nat} (hxy : x < y) (hp : Pv (chR l j 0 b) x y = true) : Pv (chR l j 0 a) x y = true := by
  have hg := gR_t0 h
  have key : ∀ k, (gR (chR l j 0 b) k).1 = (gR (chR l j 0 a) k).1 ∧ (gR (chR l j 0 a) k).2 ≤ (gR (chR l j 0 b) k).2 ∧ 0 ≤ (gR (chR l j 0 a) k).2 := fun k => by
    rw [chR_get hj, chR_get hj]
    have := hg k
    split
    · rename_i e
      subst e
      exact ⟨rfl, by dsimp only; omega, by dsimp only; omega⟩
    · exact ⟨rfl, Int.le_refl _, this⟩
  refine Pv_mono hxy ?_ (fun k _ _ => ?_) ?_ hp
  · have := key x; omega
  · have := key k; exact ⟨by omega, this.2.1, this.2.2⟩
  · have := key y; omega
theorem dear_same {l : Row} {j : Nat} {a : Int} (hj : j < l.length) {x y : Nat} (hxy : x < y) (hy : y ≤ j) : Pv (chR l j 0 a) x y = Pv l x y := by
  refine Pv_same hxy ?_ (fun k _ h2 => ?_) ?_
  · rw [chR_get hj, if_neg (by omega)]
  · rw [chR_get hj, if_neg (by omega)]
  · rw [chR_get hj]
    split
    · rename_i e; subst e; simp
    · rfl
theorem chR_zero {l : Row} {j : Nat} (hj : j < l.length) : chR l j 0 0 = l := by
  have : ((gR l j).1 + 0, (gR l j).2 + 0) = l[j] := by simp [gR, hj]
  unfold chR
  rw [this, List.append_assoc, List.singleton_append, ← List.drop_eq_getElem_cons hj, List.take_append_drop]
theorem passL_mem {l : Row} {p : Nat × Nat} : p ∈ passL l ↔ p.1 < p.2 ∧ p.2 < l.length ∧ Pv l p.1 p.2 = true := mem_pairsU
end
end TL
set_option Elab.async false
set_option linter.all false
set_option maxRecDepth 100000
set_option maxHeartbeats 4000000
namespace TL
open PySem PySem.Spec PyProof.Rows L2
/-! ### led on by deeds -/
def swapO (o : List Nat) (j : Nat) : List Nat := o.take j ++ [o.getD (j + 1) 0, o.getD j 0] ++ o.drop (j + 2)
inductive Led (l : Row) : Row → List Nat → List (Bool × Nat) → Prop
  | nil : Led l l (List.range l.length) []
  | pass {l' : Row} {o : List Nat} {ds : List (Bool × Nat)} {j : Nat} : Led l l' o ds → 0 < j → j < l'.length → lets l' j = true → Led l (passed l' j) (swapO o (j - 1)) (ds ++ [(true, j)])
  | fall {l' : Row} {o : List Nat} {ds : List (Bool × Nat)} {j : Nat} : Led l l' o ds → j + 1 < l'.length → falls l' j = true → Led l (fallen l' j) (swapO o j) (ds ++ [(false, j)])
theorem passed_len {l : Row} {j : Nat} (h0 : 0 < j) (hj : j < l.length) : (passed l j).length = l.length := by simp [passed]; omega
theorem fallen_len {l : Row} {j : Nat} (hj : j + 1 < l.length) : (fallen l j).length = l.length := by simp [fallen]; omega
theorem swapO_len {o : List Nat} {j : Nat} (hj : j + 1 < o.length) : (swapO o j).length = o.length := by simp [swapO]; omega
theorem Led.len {l l' : Row} {o : List Nat} {ds : List (Bool × Nat)} (h : Led l l' o ds) : l'.length = l.length ∧ o.length = l.length := by
  induction h with
  | nil => simp
  | pass _ h0 hj _ ih => exact ⟨by rw [passed_len h0 hj]; exact ih.1, by rw [swapO_len (by omega)]; exact ih.2⟩
  | fall _ hj _ ih => exact ⟨by rw [fallen_len hj]; exact ih.1, by rw [swapO_len (by omega)]; exact ih.2⟩
theorem gR_mem {l : Row} {j : Nat} (h : j < l.length) : gR l j ∈ l := by simp [gR, h]
theorem RowOk.passed {S T : Int} {l : Row} {j : Nat} (ok : RowOk S T l) (h0 : 0 < j) (hj : j < l.length) (hl : lets l j = true) : RowOk S T (passed l j) := by
  have m1 := gR_mem hj
  have m2 := gR_mem (l := l) (j := j - 1) (by omega)
  have s1 := ok.s _ m1
  have s2 := ok.s _ m2
  have t1 := ok.t _ m1
  have t2 := ok.t _ m2
  have hl' : (gR l (j - 1)).1 < (gR l j).1 - (gR l (j - 1)).2 := by
    unfold lets at hl
    simp at hl
    exact hl.2
  have key : ∀ p ∈ TL.passed l j, p ∈ l ∨ p = ((gR l j).1 - (gR l (j - 1)).2, (gR l j).2) := fun p hp => by
    unfold TL.passed at hp
    simp at hp
    rcases hp with hp | hp | hp | hp
    · exact .inl (List.mem_of_mem_take hp)
    · exact .inr hp
    · exact .inl (hp ▸ m2)
    · exact .inl (List.mem_of_mem_drop hp)
  constructor
  · intro p hp
    rcases key p hp with hp | rfl
    · exact ok.s p hp
    · dsimp only; omega
  · intro p hp
    rcases key p hp with hp | rfl
    · exact ok.t p hp
    · exact t1
theorem RowOk.fallen {S T : Int} {l : Row} {j : Nat} (ok : RowOk S T l) (hj : j + 1 < l.length) : RowOk (S + T) T (fallen l j) := by
  have m1 := gR_mem (l := l) (j := j) (by omega)
  have m2 := gR_mem hj
  have s1 := ok.s _ m1
  have s2 := ok.s _ m2
  have t1 := ok.t _ m1
  have t2 := ok.t _ m2
  have key : ∀ p ∈ TL.fallen l j, p ∈ l ∨ p = ((gR l j).1 + (gR l (j + 1)).2, (gR l j).2) := fun p hp => by
    unfold TL.fallen at hp
    simp at hp
    rcases hp with hp | hp | hp | hp
    · exact .inl (List.mem_of_mem_take hp)
    · exact .inl (hp ▸ m2)
    · exact .inr hp
    · exact .inl (List.mem_of_mem_drop hp)
  constructor
  · intro p hp
    rcases key p hp with hp | rfl
    · have := ok.s p hp; omega
    · dsimp only; omega
  · intro p hp
    rcases key p hp with hp | rfl
    · exact ok.t p hp
    · exact t1
theorem RowOk.mono {S S' T T' : Int} {l : Row} (ok : RowOk S T l) (h : S ≤ S') (h' : T ≤ T') : RowOk S' T' l := ⟨fun p hp => by have := ok.s p hp; omega, fun p hp => by have := ok.t p hp; omega⟩
theorem Led.ok {S T : Int} {l l' : Row} {o : List Nat} {ds : List (Bool × Nat)} (hT : 0 ≤ T) (ok : RowOk S T l) (h : Led l l' o ds) : RowOk (S + T * ds.length) T l' := by
  induction h with
  | nil => simpa using ok
  | pass h h0 hj hl ih =>
    refine (ih.passed h0 hj hl).mono ?_ (Int.le_refl _)
    simp [Int.mul_add]; omega
  | fall h hj hl ih =>
    refine (ih.fallen hj).mono ?_ (Int.le_refl _)
    simp [Int.mul_add]; omega
def deedD (p : Bool × Nat) : D := .tuple [.str (if p.1 = true then "pass" else "fall"), natD p.2]
theorem str_pf : ((Str.ofString "fall" : Str) == Str.ofString "pass") = false := by decide +kernel
theorem lay_str {n : Nat} {x : Str} (h : PyData.canLay0 (.str x) = true) : Lay n (.str x) := ⟨h, by simp [PyData.depth]⟩
theorem shaped_str {x : Str} (h : PyData.canLay0 (.str x) = true) : SeqAt.shaped (.str x) = true := (lay_str (n := 0) h).shaped
theorem cl_pass : PyData.canLay0 (.str "pass") = true := by decide +kernel
theorem cl_fall : PyData.canLay0 (.str "fall") = true := by decide +kernel
theorem lay_deed (p : Bool × Nat) : Lay 1 (deedD p) := lay_tup (n := 0) fun x hx => by
  simp at hx
  rcases hx with rfl | rfl
  · cases p.1
    · exact lay_str cl_fall
    · exact lay_str cl_pass
  · exact lay_int
theorem shaped_deeds (xs : List (Bool × Nat)) : SeqAt.shaped (.list (xs.map deedD)) = true := (lay_list (n := 1) fun x hx => by
  obtain ⟨j, _, rfl⟩ := List.mem_map.mp hx
  exact lay_deed j).shaped
def someD (l : Row) : List (Bool × Nat) := (someP l).map (fun j => (true, j)) ++ (someF l).map fun j => (false, j)
theorem lc_somePD {l : Row} {s0 s2 s3 s4 s5 s6 s7 s8 s9 : Option Sl} {n : Nat} {R : D → Nat → Prop} (hl : l.length ≤ 1000) (h : R (.list ((someP l).map fun j => deedD (true, j))) n) :
    lcD (gN 6) (mT (mCal 2 Flets (kCons (mVar 1) (kCons (mVar 6) kNil)))) (mTup (aCons (mC (.str "pass")) (aCons (mVar 6) aNil))) [s0, some (.d (rowD l)), s2, s3, s4, s5, s6, s7, s8, s9] (rangeD 0 l.length) [] n R := by
  have z20 := sz20
  rw [rangeD_nat]
  refine lc_map natD (fun j => [s0, some (.d (rowD l)), s2, s3, s4, s5, some (.d (natD j)), s7, s8, s9]) (lets l) (fun j => deedD (true, j)) (List.range l.length) (fun a ha n R r => by simpa using r) (fun a ha n R r => ?_) (fun a ha _ n R r => ?_) [] n R (by simp; omega) (by simpa [someP] using h)
  · have ha' : a < l.length := by simpa using ha
    simp
    refine lets_ok ha' ?_
    cases e : lets l a <;> simpa [e] using r
  · simp
    exact ⟨by omega, r⟩
theorem lc_someFD {l : Row} {s0 s2 s3 s4 s5 s6 s7 s8 s9 : Option Sl} {n : Nat} {R : D → Nat → Prop} (h1 : 1 ≤ l.length) (hl : l.length ≤ 1000) (h : R (.list ((someF l).map fun j => deedD (false, j))) n) :
    lcD (gN 6) (mT (m2 dGt (m2 dIx (m2 dIx (mVar 1) (mVar 6)) (mC (.int 0))) (m2 dIx (m2 dIx (mVar 1) (m2 dAdd (mVar 6) (mC (.int 1)))) (mC (.int 0))))) (mTup (aCons (mC (.str "fall")) (aCons (mVar 6) aNil))) [s0, some (.d (rowD l)), s2, s3, s4, s5, s6, s7, s8, s9] (rangeD 0 (l.length - 1)) [] n R := by
  have z20 := sz20
  rw [rangeD_nat]
  refine lc_map natD (fun j => [s0, some (.d (rowD l)), s2, s3, s4, s5, some (.d (natD j)), s7, s8, s9]) (falls l) (fun j => deedD (false, j)) (List.range (l.length - 1)) (fun a ha n R r => by simpa using r) (fun a ha n R r => ?_) (fun a ha _ n R r => ?_) [] n R (by simp; omega) (by simpa [someF] using h)
  · have ha' : a < l.length - 1 := by simpa using ha
    simp (disch := omega) [natD, lk0, ix_row, show ((a : Int) + 1).toNat = a + 1 by omega]
    unfold falls at r
    by_cases e : (gR l (a + 1)).1 < (gR l a).1
    · rw [decide_eq_true e] at r
      exact .inr ⟨e, r⟩
    · rw [decide_eq_false e] at r
      exact .inl ⟨by omega, r⟩
  · simp
    exact ⟨by omega, r⟩
end TL
set_option Elab.async false
set_option linter.all false
set_option maxRecDepth 100000
set_option maxHeartbeats 4000000
namespace TL
section
/-! ### rows of one class: orders over a first row -/
variable {w t : Nat → Int}
def gO (o : List Nat) (k : Nat) : Nat := o.getD k 0
theorem map_gO (o : List Nat) : (List.range o.length).map (gO o) = o := by
  apply List.ext_getElem?
  intro i
  by_cases h : i < o.length
  · simp [gO, h]
  · rw [List.getElem?_eq_none (by simp; omega), List.getElem?_eq_none (by omega)]
theorem swapO_mid (A B : List Nat) (a b : Nat) : swapO (A ++ a :: b :: B) A.length = A ++ b :: a :: B := by
  simp [swapO, List.drop_append, show A.length + 2 - A.length = 2 by omega, List.drop_of_length_le (show A.length ≤ A.length + 2 by omega)]
theorem swapO_map {o : List Nat} {k : Nat} (g : Nat → Nat) (hk : k + 1 < o.length) : (swapO o k).map g = swapO (o.map g) k := by
  have h1 : k < o.length := by omega
  simp [swapO, List.map_take, List.map_drop, h1, hk]
theorem swapO_perm {o : List Nat} {k : Nat} (hk : k + 1 < o.length) : (swapO o k).Perm o := by
  obtain ⟨A, a, b, B, rfl, e⟩ := split2 o (j := k + 1) (by omega) hk
  have e : k = A.length := by omega
  subst e
  rw [swapO_mid]
  exact List.Perm.append_left A (List.Perm.swap a b B)
theorem Led.perm {l l' : Row} {o : List Nat} {ds : List (Bool × Nat)} (h : Led l l' o ds) : o.Perm (List.range l.length) := by
  induction h with
  | nil => exact List.Perm.refl _
  | pass h h0 hj _ ih =>
    have := h.len
    exact (swapO_perm (by omega)).trans ih
  | fall h hj _ ih =>
    have := h.len
    exact (swapO_perm (by omega)).trans ih
/-- no falls -/
def Fst (w t : Nat → Int) (n : Nat) : Prop := ∀ a b, a < b → b < n → 0 ≤ w b - w a + t a + tolls t (List.range n) (btwf a b)
theorem claim (ht : ∀ c, 0 ≤ t c) {n : Nat} (hF : Fst w t n) {o : List Nat} (hp : o.Perm (List.range n)) (hI : Inv w t o) {A : List Nat} {a : Nat} : ∀ (m k : Nat) (X C : List Nat), k - a ≤ m → o = A ++ a :: (X ++ k :: C) → a < k → (∀ x ∈ X, ¬ (a < x ∧ x < k)) → 0 ≤ w k - w a + t a + tolls t A (btwf a k)
  | m, k, X, C, hm, e, hak, hX => by
    have hn : o.Nodup := hp.nodup_iff.mpr List.nodup_range
    have hkn : k < n := by
      have : k ∈ o := by rw [e]; simp
      simpa using hp.mem_iff.mp this
    by_cases hc : ∃ c ∈ C, a < c ∧ c < k
    · obtain ⟨C1, c, C2, eC, hca, hC1⟩ : ∃ C1 c C2, C = C1 ++ c :: C2 ∧ (a < c ∧ c < k) ∧ ∀ x ∈ C1, ¬ (a < x ∧ x < k) := by
        clear e
        induction C with
        | nil => obtain ⟨c, hc, _⟩ := hc; cases hc
        | cons d C ih =>
          by_cases hd : a < d ∧ d < k
          · exact ⟨[], d, C, rfl, hd, fun _ z => nomatch z⟩
          · obtain ⟨c, hcm, hc2⟩ := hc
            have hcC : c ∈ C := by
              rcases List.mem_cons.mp hcm with rfl | h
              · exact absurd hc2 hd
              · exact h
            obtain ⟨C1, c', C2, e1, e2, e3⟩ := ih ⟨c, hcC, hc2⟩
            refine ⟨d :: C1, c', C2, by rw [e1]; rfl, e2, fun x hx => ?_⟩
            rcases List.mem_cons.mp hx with rfl | hx
            · exact hd
            · exact e3 x hx
      have hcA : c ∉ A := by
        rw [e, eC, List.nodup_append] at hn
        exact fun z => hn.2.2 c z c (by simp) rfl
      have g1 := hI (A ++ a :: (X ++ k :: C1)) c C2 (by rw [e, eC]; simp) k (by simp) hca.2
      have z : tolls t (a :: (X ++ k :: C1)) (btwf c k) = 0 := tolls_zero fun x hx => by
        rcases List.mem_cons.mp hx with rfl | hx
        · exact btw_lo (by omega)
        · rcases List.mem_append.mp hx with hx | hx
          · have := hX x hx
            by_cases q : x < k
            · exact btw_lo (by omega)
            · exact btw_hi (by omega)
          · rcases List.mem_cons.mp hx with rfl | hx
            · exact btw_hi (Nat.le_refl _)
            · have := hC1 x hx
              by_cases q : x < k
              · exact btw_lo (by omega)
              · exact btw_hi (by omega)
      rw [tolls_append, z] at g1
      have sp := tolls_btw (t := t) A hca.1 hca.2 hcA
      cases m with
      | zero => omega
      | succ m =>
        have g2 := claim (A := A) ht hF hp hI m c (X ++ k :: C1) C2 (by omega) (by rw [e, eC]; simp) hca.1 (fun x hx => by
          rcases List.mem_append.mp hx with hx | hx
          · have := hX x hx; omega
          · rcases List.mem_cons.mp hx with rfl | hx
            · omega
            · have := hC1 x hx; omega)
        omega
    · have := hF a k hak hkn
      have e2 : tolls t A (btwf a k) = tolls t (List.range n) (btwf a k) := by
        rw [← tolls_permL hp, e, tolls_append]
        have z : tolls t (a :: (X ++ k :: C)) (btwf a k) = 0 := tolls_zero fun x hx => by
          rcases List.mem_cons.mp hx with rfl | hx
          · exact btw_lo (Nat.le_refl _)
          · rcases List.mem_append.mp hx with hx | hx
            · have := hX x hx
              by_cases q : x < k
              · exact btw_lo (by omega)
              · exact btw_hi (by omega)
            · rcases List.mem_cons.mp hx with rfl | hx
              · exact btw_hi (Nat.le_refl _)
              · by_cases q : x < k
                · exact btw_lo (Nat.le_of_not_lt fun q2 => hc ⟨x, hx, q2, q⟩)
                · exact btw_hi (by omega)
        rw [z]
        omega
      omega
theorem Inv.unswap {A B : List Nat} {a b : Nat} (hn : (A ++ a :: b :: B).Nodup) (h : Inv w t (A ++ a :: b :: B)) (hba : b < a) : Inv w t (A ++ b :: a :: B) := by
  obtain ⟨na, nb, nab⟩ := nodup_mid hn
  intro A1 y B1 e x hx hxy
  have atb : A = A1 → b = y → 0 < w x - w y + tolls t A1 (btwf y x) := by
    rintro rfl rfl
    have g1 := h (A ++ [a]) b B (by simp) x (by simp [hx]) hxy
    rw [tolls_append] at g1
    by_cases q : a < x
    · have g2 := h A a (b :: B) rfl x hx q
      have g3 := h (A ++ [a]) b B (by simp) a (by simp) hba
      rw [tolls_append] at g3
      have z : tolls t [a] (btwf b a) = 0 := by simp [tolls, btwf]
      have sp := tolls_btw (t := t) A hba q na
      omega
    · have z : tolls t [a] (btwf b x) = 0 := tolls_zero fun c hc => by
        have : c = a := by simpa using hc
        exact btw_hi (by omega)
      omega
  rcases List.append_eq_append_iff.mp e with ⟨a', e1, e2⟩ | ⟨c', e1, e2⟩
  · cases a' with
    | nil =>
      simp at e1 e2
      exact atb e1.symm e2.1
    | cons b' a' =>
      simp at e2
      obtain ⟨rfl, e2⟩ := e2
      cases a' with
      | nil =>
        simp at e2
        obtain ⟨rfl, rfl⟩ := e2
        subst e1
        have hx' : x ∈ A := by
          rcases List.mem_append.mp hx with h | h
          · exact h
          · have : x = b := by simpa using h
            omega
        have := h A a (b :: B) rfl x hx' hxy
        rw [tolls_append]
        have z : tolls t [b] (btwf a x) = 0 := tolls_zero fun c hc => by
          have : c = b := by simpa using hc
          exact btw_lo (by omega)
        omega
      | cons a1 A2 =>
        simp at e2
        obtain ⟨rfl, rfl⟩ := e2
        subst e1
        rw [tolls_swap]
        exact h (A ++ a :: b :: A2) y B1 (by simp) x (by
          simp at hx ⊢
          rcases hx with hx | hx | hx | hx <;> simp [hx]) hxy
  · cases c' with
    | nil =>
      simp at e1 e2
      exact atb e1 e2.1.symm
    | cons y' c' =>
      simp at e2
      obtain ⟨rfl, rfl⟩ := e2
      subst e1
      exact h A1 y (c' ++ a :: b :: B) (by simp) x hx hxy
/-- falls in a class over a first row -/
theorem unpass_step {n : Nat} {A B : List Nat} {a b : Nat} (ht : ∀ c, 0 ≤ t c) (hF : Fst w t n) (hp : (A ++ a :: b :: B).Perm (List.range n)) (hI : Inv w t (A ++ a :: b :: B)) (hl : falls (rowG w t gP [] (A ++ a :: b :: B)) A.length = true) :
    b < a ∧ Inv w t (A ++ b :: a :: B) ∧ fallen (rowG w t gP [] (A ++ a :: b :: B)) A.length = rowG w t gP [] (A ++ b :: a :: B) := by
  have hn := hp.nodup_iff.mpr List.nodup_range
  obtain ⟨na, nb, nab⟩ := nodup_mid hn
  have la : A.length = (rowG w t gP [] A).length := (rowG_length [] A).symm
  rw [rowG_two] at hl ⊢
  rw [la, falls_at] at hl
  rw [la, fallen_at]
  have hl : w b + tolls t (A ++ [a]) (fun c => gP c b) < w a + tolls t A (fun c => gP c a) := of_decide_eq_true hl
  rw [tolls_append] at hl
  rcases Nat.lt_or_gt_of_ne nab with h | h
  · exfalso
    have c := claim (A := A) ht hF hp hI (b - a) b [] B (Nat.le_refl _) (by simp) h (fun _ z => nomatch z)
    have e1 : tolls t [a] (fun c => gP c b) = t a := by simp [tolls, gP, h]
    have sp : tolls t A (fun c => gP c b) = tolls t A (fun c => gP c a) + tolls t A (btwf a b) := tolls_split (t := t) A a b h na
    omega
  · refine ⟨h, hI.unswap hn h, ?_⟩
    have e1 : tolls t [a] (fun c => gP c b) = 0 := by
      have : ¬ a < b := by omega
      simp [tolls, gP, this]
    have e2 : tolls t [b] (fun c => gP c a) = t b := by simp [tolls, gP, h]
    rw [rowG_two, rowG_tail]
    rw [tolls_append, tolls_append, e1, e2]
    have q1 : w b + (tolls t A (fun c => gP c b) + 0) = w b + tolls t A (fun c => gP c b) := by omega
    have q2 : w a + tolls t A (fun c => gP c a) + t b = w a + (tolls t A (fun c => gP c a) + t b) := by omega
    rw [q1, q2]
/-- deeds in a class -/
theorem led_tr (ht : ∀ c, 0 ≤ t c) {n : Nat} {o0 : List Nat} (h0 : o0.Perm (List.range n)) (I0 : Inv w t o0) {l l' : Row} {o : List Nat} {ds : List (Bool × Nat)} (hl : l = rowG w t gP [] o0) (h : Led l l' o ds) (hF : (∀ d ∈ ds, d.1 = true) ∨ Fst w t n) :
    (o.map (gO o0)).Perm (List.range n) ∧ Inv w t (o.map (gO o0)) ∧ l' = rowG w t gP [] (o.map (gO o0)) ∧ ((∀ d ∈ ds, d.1 = true) → ∀ x y, y < x → ah o0 x y = true → ah (o.map (gO o0)) x y = true) := by
  have hlo : o0.length = n := by rw [h0.length_eq, List.length_range]
  have hll : l.length = n := by rw [hl, rowG_length, hlo]
  induction h with
  | nil =>
    rw [hll, ← hlo, map_gO]
    exact ⟨h0 |>.trans (by rw [hlo]), I0, hl, fun _ _ _ _ h => h⟩
  | @pass l' o ds j h hj0 hj hlt ih =>
    obtain ⟨hp, hI, e, hm⟩ := ih (hF.imp (fun z d hd => z d (by simp [hd])) id)
    have hlen := h.len
    obtain ⟨A, a, b, B, eo, rfl⟩ := split2 (o.map (gO o0)) hj0 (by rw [List.length_map]; omega)
    rw [show A.length + 1 - 1 = A.length by omega]
    rw [swapO_map _ (by have := congrArg List.length eo; simp at this; omega), eo, swapO_mid]
    rw [eo] at hp hI e hm
    rw [e] at hlt
    obtain ⟨hab, hI2, hpa⟩ := pass_step ht (hp.nodup_iff.mpr List.nodup_range) hI hlt
    have hp2 : (A ++ b :: a :: B).Perm (List.range n) := (List.Perm.append_left A (List.Perm.swap a b B)).trans hp
    refine ⟨hp2, hI2, by rw [e, hpa], fun hd x y hyx hxy => ?_⟩
    have hxy := hm (fun d hd' => hd d (by simp [hd'])) x y hyx hxy
    have n1 := hp.nodup_iff.mpr List.nodup_range
    have n2 := hp2.nodup_iff.mpr List.nodup_range
    obtain ⟨na, nb, nab⟩ := nodup_mid n1
    have ia : (A ++ a :: b :: B).idxOf a = A.length := idx_mid na
    have ib : (A ++ a :: b :: B).idxOf b = A.length + 1 := by
      have := idx_mid (A := A ++ [a]) (x := b) (B := B) (by simp [nb]; exact fun e => nab e.symm)
      simpa using this
    have ja : (A ++ b :: a :: B).idxOf a = A.length + 1 := by
      have := idx_mid (A := A ++ [b]) (x := a) (B := B) (by simp [na]; exact nab)
      simpa using this
    have jb : (A ++ b :: a :: B).idxOf b = A.length := idx_mid nb
    have oth : ∀ z, z ≠ a → z ≠ b → (A ++ b :: a :: B).idxOf z = (A ++ a :: b :: B).idxOf z := fun z h1 h2 => by
      rw [List.idxOf_append, List.idxOf_append]
      split
      · rfl
      · rw [List.idxOf_cons, List.idxOf_cons, List.idxOf_cons, List.idxOf_cons]
        have q1 : (b == z) = false := by simp; exact fun e => h2 e.symm
        have q2 : (a == z) = false := by simp; exact fun e => h1 e.symm
        simp [q1, q2]
    have out : ∀ z, z ≠ a → z ≠ b → (A ++ a :: b :: B).idxOf z ≠ A.length ∧ (A ++ a :: b :: B).idxOf z ≠ A.length + 1 := fun z h1 h2 => by
      rw [List.idxOf_append]
      split
      · rename_i hz
        have := List.idxOf_lt_length_iff.mpr hz
        omega
      · rw [List.idxOf_cons, List.idxOf_cons]
        have q1 : (b == z) = false := by simp; exact fun e => h2 e.symm
        have q2 : (a == z) = false := by simp; exact fun e => h1 e.symm
        simp [q1, q2]
        omega
    unfold ah at hxy ⊢
    rw [decide_eq_true_eq] at hxy ⊢
    by_cases xa : x = a
    · subst xa
      by_cases yb : y = b
      · subst yb; omega
      · have := oth y (by omega) yb
        have := out y (by omega) yb
        omega
    · by_cases xb : x = b
      · subst xb
        by_cases ya : y = a
        · subst ya; omega
        · have := oth y ya (by omega)
          have := out y ya (by omega)
          omega
      · have h1 := oth x xa xb
        have h2 := out x xa xb
        by_cases ya : y = a
        · subst ya; omega
        · by_cases yb : y = b
          · subst yb; omega
          · have := oth y ya yb
            omega
  | @fall l' o ds j h hj hlt ih =>
    obtain ⟨hp, hI, e, hm⟩ := ih (hF.imp (fun z d hd => z d (by simp [hd])) id)
    have hlen := h.len
    have hFst : Fst w t n := by
      rcases hF with z | z
      · have := z (false, j) (by simp)
        simp at this
      · exact z
    obtain ⟨A, a, b, B, eo, e2⟩ := split2 (o.map (gO o0)) (j := j + 1) (by omega) (by rw [List.length_map]; omega)
    have e2 : j = A.length := by omega
    subst e2
    rw [swapO_map _ (by omega), eo, swapO_mid]
    rw [eo] at hp hI e hm
    rw [e] at hlt
    obtain ⟨hab, hI2, hpa⟩ := unpass_step ht hFst hp hI hlt
    refine ⟨(List.Perm.append_left A (List.Perm.swap a b B)).trans hp, hI2, by rw [e, hpa], fun hd => ?_⟩
    have := hd (false, A.length) (by simp)
    simp at this
end
end TL
set_option Elab.async false
set_option linter.all false
set_option maxRecDepth 100000
set_option maxHeartbeats 4000000
namespace TL
section
theorem someF_le {f : Row} (h : someF f = []) {j : Nat} (hj : j + 1 < f.length) : (gR f j).1 ≤ (gR f (j + 1)).1 := by
  apply Classical.byContradiction
  intro z
  have : j ∈ someF f := List.mem_filter.mpr ⟨by simp; omega, decide_eq_true (by omega)⟩
  rw [h] at this
  cases this
theorem someF_mono {f : Row} (h : someF f = []) {a : Nat} : ∀ (k : Nat), a + k < f.length → (gR f a).1 ≤ (gR f (a + k)).1
  | 0, _ => Int.le_refl _
  | k + 1, hk => Int.le_trans (someF_mono h k (by omega)) (someF_le h hk)
theorem someF_nil {f : Row} (h : ∀ j, j + 1 < f.length → (gR f j).1 ≤ (gR f (j + 1)).1) : someF f = [] := by
  unfold someF
  rw [List.filter_eq_nil_iff]
  intro j hj
  have : j < f.length - 1 := by simpa using hj
  have := h j (by omega)
  simp [falls]
  exact this
theorem fst_of {f : Row} (h : someF f = []) : Fst (wP f) (tP f) f.length := by
  intro a b hab hb
  rw [wP_diff f hab]
  have e : tolls (tP f) (List.range f.length) (btwf a b) = tolls (tP f) (List.range' (a + 1) (b - (a + 1))) (fun _ => true) := by
    rw [← tolls_mid (tP f) hab hb]
    exact tolls_congr fun c _ => by simp
  rw [e]
  have := someF_mono h (a := a) (b - a) (by omega)
  rw [show a + (b - a) = b by omega] at this
  show 0 ≤ (gR f b).1 - (gR f a).1 - _ - _ + _ + _
  omega
theorem Led.t0 {l l' : Row} {o : List Nat} {ds : List (Bool × Nat)} (h : Led l l' o ds) (h0 : T0 l) : T0 l' := by
  induction h with
  | nil => exact h0
  | pass h hj0 hj _ ih =>
    intro p hp
    unfold passed at hp
    simp at hp
    rcases hp with hp | hp | hp | hp
    · exact ih p (List.mem_of_mem_take hp)
    · subst hp; exact gR_t0 ih _
    · subst hp; exact gR_t0 ih _
    · exact ih p (List.mem_of_mem_drop hp)
  | fall h hj _ ih =>
    intro p hp
    unfold fallen at hp
    simp at hp
    rcases hp with hp | hp | hp | hp
    · exact ih p (List.mem_of_mem_take hp)
    · subst hp; exact gR_t0 ih _
    · subst hp; exact gR_t0 ih _
    · exact ih p (List.mem_of_mem_drop hp)
theorem led_last {l : Row} (h0 : T0 l) : ∃ ds, Led l (lastR l) (lastO l) ds ∧ (∀ d ∈ ds, d.1 = true) ∧ someP (lastR l) = [] := by
  have ht := tP_nn h0
  have run : ∀ (m : Nat) (o : List Nat) (ds : List (Bool × Nat)), Led l (rowG (wP l) (tP l) gP [] o) o ds → (∀ d ∈ ds, d.1 = true) → o.Perm (List.range l.length) → Inv (wP l) (tP l) o → l.length * l.length - inv o ≤ m → ∃ ds, Led l (lastR l) (lastO l) ds ∧ (∀ d ∈ ds, d.1 = true) ∧ someP (lastR l) = [] := by
    intro m
    induction m with
    | zero =>
      intro o ds h hd hp hI hm
      by_cases hS : someP (rowG (wP l) (tP l) gP [] o) = []
      · obtain ⟨e1, e2⟩ := last_uniq h0 (rowG_P l) hp hI (term_pass (hp.nodup_iff.mpr List.nodup_range) hS)
        rw [e1] at h hS
        exact ⟨ds, h, hd, hS⟩
      · exfalso
        obtain ⟨j, r, hj⟩ := List.exists_cons_of_ne_nil hS
        obtain ⟨hj1, hj2⟩ := List.mem_filter.mp (show j ∈ someP (rowG (wP l) (tP l) gP [] o) by rw [hj]; simp)
        have hlo : o.length = l.length := by rw [hp.length_eq, List.length_range]
        have hj3 : j < o.length := by simpa [rowG_length] using hj1
        have hj0 : 0 < j := by
          unfold lets at hj2
          simp at hj2
          exact hj2.1
        obtain ⟨A, a, b, B, rfl, rfl⟩ := split2 o hj0 hj3
        obtain ⟨hab, _, _⟩ := pass_step ht (hp.nodup_iff.mpr List.nodup_range) hI hj2
        have hiv := inv_swap A B hab
        have hle := inv_le (A ++ b :: a :: B)
        rw [show (A ++ b :: a :: B).length = l.length by rw [← hlo]; simp] at hle
        omega
    | succ m ih =>
      intro o ds h hd hp hI hm
      by_cases hS : someP (rowG (wP l) (tP l) gP [] o) = []
      · obtain ⟨e1, e2⟩ := last_uniq h0 (rowG_P l) hp hI (term_pass (hp.nodup_iff.mpr List.nodup_range) hS)
        rw [e1] at h hS
        exact ⟨ds, h, hd, hS⟩
      · obtain ⟨j, r, hj⟩ := List.exists_cons_of_ne_nil hS
        obtain ⟨hj1, hj2⟩ := List.mem_filter.mp (show j ∈ someP (rowG (wP l) (tP l) gP [] o) by rw [hj]; simp)
        have hlo : o.length = l.length := by rw [hp.length_eq, List.length_range]
        have hj3 : j < o.length := by simpa [rowG_length] using hj1
        have hj0 : 0 < j := by
          unfold lets at hj2
          simp at hj2
          exact hj2.1
        have h' := h.pass hj0 (by rw [rowG_length]; exact hj3) hj2
        obtain ⟨A, a, b, B, rfl, rfl⟩ := split2 o hj0 hj3
        obtain ⟨hab, hI2, hpa⟩ := pass_step ht (hp.nodup_iff.mpr List.nodup_range) hI hj2
        have hiv := inv_swap A B hab
        rw [hpa, show A.length + 1 - 1 = A.length by omega, swapO_mid] at h'
        exact ih _ _ h' (fun d hd' => by
          rcases List.mem_append.mp hd' with h | h
          · exact hd d h
          · have : d = (true, A.length + 1) := by simpa using h
            rw [this]) ((List.Perm.append_left A (List.Perm.swap a b B)).trans hp) hI2 (by omega)
  exact run _ (List.range l.length) [] (by rw [rowG_P]; exact .nil) (fun _ z => nomatch z) (List.Perm.refl _) (Inv.range _) (Nat.le_refl _)
/-- l stands in the class of the first row f, its beasts in the order o -/
structure Rea (f l : Row) (o : List Nat) : Prop where
  t0 : T0 f
  no : someF f = []
  perm : o.Perm (List.range f.length)
  inv : Inv (wP f) (tP f) o
  row : l = rowG (wP f) (tP f) gP [] o
theorem Rea.len {f l : Row} {o : List Nat} (h : Rea f l o) : l.length = f.length ∧ o.length = f.length := by
  have : o.length = f.length := by rw [h.perm.length_eq, List.length_range]
  exact ⟨by rw [h.row, rowG_length, this], this⟩
theorem fallen_back (LA LB : Row) (p q : Int × Int) (h : q.1 < p.1) : lets (fallen (LA ++ p :: q :: LB) LA.length) (LA.length + 1) = true ∧ passed (fallen (LA ++ p :: q :: LB) LA.length) (LA.length + 1) = LA ++ p :: q :: LB := by
  rw [fallen_at, lets_at, passed_at]
  refine ⟨decide_eq_true (by dsimp only; omega), ?_⟩
  have : p.1 + q.2 - q.2 = p.1 := by omega
  simp [this]
theorem rea_first {l : Row} (h0 : T0 l) : ∃ o0, Rea (firstR l) l o0 ∧ o0.map (gO (firstO l)) = List.range l.length ∧ ∃ ds, Led l (firstR l) (firstO l) ds := by
  have ht := tP_nn h0
  obtain ⟨fp, fI, fT⟩ := firstO_spec h0
  have hfl : (firstR l).length = l.length := firstR_len h0
  have run : ∀ (m : Nat) (q : List Nat) (ds : List (Bool × Nat)), Led l (rowG (sP l) (tP l) gF [] q) q ds → q.Perm (List.range l.length) → Inv (fun c => - sP l c) (tP l) q → l.length * l.length - inv q ≤ m → (∃ o', Rea (firstR l) (rowG (sP l) (tP l) gF [] q) o' ∧ o'.map (gO (firstO l)) = q) ∧ ∃ ds, Led l (firstR l) (firstO l) ds := by
    intro m
    induction m with
    | zero =>
      intro q ds h hp hI hm
      by_cases hS : someF (rowG (sP l) (tP l) gF [] q) = []
      · obtain ⟨e1, e2⟩ := first_uniq h0 (rowG_F l) hp hI (term_fall (hp.nodup_iff.mpr List.nodup_range) hS)
        refine ⟨⟨List.range l.length, ⟨?_, by rw [← e2]; exact hS, by rw [hfl], Inv.range _, ?_⟩, ?_⟩, ds, by rw [← e2, ← e1]; exact h⟩
        · rw [← e2]; exact h.t0 h0
        · rw [← hfl, rowG_P, e2]
        · rw [e1, ← firstO_len h0, map_gO]
      · exfalso
        obtain ⟨j, r, hj⟩ := List.exists_cons_of_ne_nil hS
        obtain ⟨hj1, hj2⟩ := List.mem_filter.mp (show j ∈ someF (rowG (sP l) (tP l) gF [] q) by rw [hj]; simp)
        have hlo : q.length = l.length := by rw [hp.length_eq, List.length_range]
        have hj3 : j < q.length - 1 := by simpa [rowG_length] using hj1
        obtain ⟨A, a, b, B, rfl, e⟩ := split2 q (j := j + 1) (by omega) (by omega)
        have e : j = A.length := by omega
        subst e
        obtain ⟨hab, _, _⟩ := fall_step ht (hp.nodup_iff.mpr List.nodup_range) hI hj2
        have hiv := inv_swap A B hab
        have hle := inv_le (A ++ b :: a :: B)
        rw [show (A ++ b :: a :: B).length = l.length by rw [← hlo]; simp] at hle
        omega
    | succ m ih =>
      intro q ds h hp hI hm
      by_cases hS : someF (rowG (sP l) (tP l) gF [] q) = []
      · obtain ⟨e1, e2⟩ := first_uniq h0 (rowG_F l) hp hI (term_fall (hp.nodup_iff.mpr List.nodup_range) hS)
        refine ⟨⟨List.range l.length, ⟨?_, by rw [← e2]; exact hS, by rw [hfl], Inv.range _, ?_⟩, ?_⟩, ds, by rw [← e2, ← e1]; exact h⟩
        · rw [← e2]; exact h.t0 h0
        · rw [← hfl, rowG_P, e2]
        · rw [e1, ← firstO_len h0, map_gO]
      · obtain ⟨j, r, hj⟩ := List.exists_cons_of_ne_nil hS
        obtain ⟨hj1, hj2⟩ := List.mem_filter.mp (show j ∈ someF (rowG (sP l) (tP l) gF [] q) by rw [hj]; simp)
        have hlo : q.length = l.length := by rw [hp.length_eq, List.length_range]
        have hj3 : j < q.length - 1 := by simpa [rowG_length] using hj1
        have h' := h.fall (by rw [rowG_length]; omega) hj2
        obtain ⟨A, a, b, B, rfl, e⟩ := split2 q (j := j + 1) (by omega) (by omega)
        have e : j = A.length := by omega
        subst e
        obtain ⟨hab, hI2, hpa⟩ := fall_step ht (hp.nodup_iff.mpr List.nodup_range) hI hj2
        have hiv := inv_swap A B hab
        have hp2 : (A ++ b :: a :: B).Perm (List.range l.length) := (List.Perm.append_left A (List.Perm.swap a b B)).trans hp
        rw [hpa, swapO_mid] at h'
        obtain ⟨⟨o', R, em⟩, hds⟩ := ih _ _ h' hp2 hI2 (by omega)
        refine ⟨?_, hds⟩
        have la : A.length = (rowG (sP l) (tP l) gF [] A).length := (rowG_length [] A).symm
        have hb := rowG_two (w := sP l) (t := tP l) gF A B a b
        obtain ⟨g1, g2⟩ := fallen_back (rowG (sP l) (tP l) gF [] A) (rowG (sP l) (tP l) gF (A ++ [a] ++ [b]) B) (sP l a + tolls (tP l) A (fun c => gF c a), tP l a) (sP l b + tolls (tP l) (A ++ [a]) (fun c => gF c b), tP l b) (by
          rw [hb, la, falls_at] at hj2
          exact of_decide_eq_true hj2)
        rw [← hb, ← la, hpa] at g1 g2
        obtain ⟨Rl, Ro⟩ := R.len
        have hlo' : o'.length = A.length + (B.length + 1 + 1) := by
          have := congrArg List.length em
          simpa using this
        obtain ⟨A', a', b', B', rfl, e'⟩ := split2 o' (j := A.length + 1) (by omega) (by omega)
        have e' : A.length = A'.length := by omega
        rw [R.row, e'] at g1 g2
        obtain ⟨hab', hI', hpa'⟩ := pass_step (tP_nn R.t0) (R.perm.nodup_iff.mpr List.nodup_range) R.inv g1
        refine ⟨A' ++ b' :: a' :: B', ⟨R.t0, R.no, (List.Perm.append_left A' (List.Perm.swap a' b' B')).trans R.perm, hI', ?_⟩, ?_⟩
        · rw [← hpa', g2]
        · have := congrArg (fun z => swapO z A.length) em
          rw [swapO_mid, ← swapO_map _ (by simp; omega), e', swapO_mid] at this
          exact this
  obtain ⟨⟨o', R, em⟩, hds⟩ := run _ (List.range l.length) [] (by rw [rowG_F]; exact .nil) (List.Perm.refl _) (Inv.range _) (Nat.le_refl _)
  rw [rowG_F] at R
  exact ⟨o', R, em, hds⟩
/-- sorted orders -/
theorem sorted_range {n : Nat} {o : List Nat} (hp : o.Perm (List.range n)) (h : ∀ A a b B, o = A ++ a :: b :: B → a < b) : o = List.range n := by
  refine sorted_uniq (R := fun x y => x < y) (fun x y h1 h2 => by omega) hp ?_ List.pairwise_lt_range
  have key : ∀ (o : List Nat), (∀ A a b B, o = A ++ a :: b :: B → a < b) → o.Pairwise (· < ·) := by
    intro o
    induction o with
    | nil => intro _; exact List.Pairwise.nil
    | cons x r ih =>
      intro h
      have hr := ih fun A a b B e => h (x :: A) a b B (by rw [e]; rfl)
      rw [List.pairwise_cons]
      refine ⟨fun y hy => ?_, hr⟩
      cases r with
      | nil => cases hy
      | cons z r =>
        have hz := h [] x z r rfl
        rcases List.mem_cons.mp hy with rfl | hy
        · exact hz
        · rw [List.pairwise_cons] at hr
          have := hr.1 y hy
          omega
  exact key o h
theorem Rea.first {f l : Row} {o : List Nat} (h : Rea f l o) (h0 : T0 l) : firstR l = f ∧ (firstO l).map (gO o) = List.range f.length := by
  obtain ⟨_, R', _, ds, hL⟩ := rea_first h0
  obtain ⟨hp, hI, e, _⟩ := led_tr (tP_nn h.t0) h.perm h.inv h.row hL (.inr (fst_of h.no))
  have hn := hp.nodup_iff.mpr List.nodup_range
  have hs : (firstO l).map (gO o) = List.range f.length := by
    refine sorted_range hp fun A a b B eq => ?_
    apply Classical.byContradiction
    intro hab
    rw [eq] at hp hI e hn
    obtain ⟨na, nb, nab⟩ := nodup_mid hn
    have hba : b < a := by omega
    have hf : falls (firstR l) A.length = true := by
      have la : A.length = (rowG (wP f) (tP f) gP [] A).length := (rowG_length [] A).symm
      rw [e, rowG_two, la, falls_at]
      refine decide_eq_true ?_
      have g := hI (A ++ [a]) b B (by simp) a (by simp) hba
      have e1 : tolls (tP f) [a] (fun c => gP c b) = 0 := by
        have : ¬ a < b := by omega
        simp [tolls, gP, this]
      have e2 : tolls (tP f) [a] (btwf b a) = 0 := by simp [tolls, btwf]
      have sp : tolls (tP f) A (fun c => gP c a) = tolls (tP f) A (fun c => gP c b) + tolls (tP f) A (btwf b a) := tolls_split A b a hba nb
      rw [tolls_append] at g ⊢
      dsimp only
      omega
    have hm : A.length ∈ someF (firstR l) := by
      refine List.mem_filter.mpr ⟨?_, hf⟩
      have : (firstR l).length = A.length + (B.length + 1 + 1) := by
        rw [e, rowG_length]
        simp
      simp
      omega
    rw [R'.no] at hm
    cases hm
  exact ⟨by rw [e, hs, rowG_P], hs⟩
theorem Rea.last {f l : Row} {o : List Nat} (h : Rea f l o) (h0 : T0 l) : lastR l = lastR f ∧ (lastO l).map (gO o) = lastO f ∧ ∀ x y, y < x → ah o x y = true → ah (lastO f) x y = true := by
  obtain ⟨ds, hL, hd, hS⟩ := led_last h0
  obtain ⟨hp, hI, e, hm⟩ := led_tr (tP_nn h.t0) h.perm h.inv h.row hL (.inl hd)
  have hn := hp.nodup_iff.mpr List.nodup_range
  obtain ⟨e1, e2⟩ := last_uniq h.t0 (rowG_P f) hp hI (term_pass hn (by rw [← e]; exact hS))
  refine ⟨by rw [e, e2], e1, ?_⟩
  rw [← e1]
  exact hm hd
end
end TL
set_option Elab.async false
set_option linter.all false
set_option maxRecDepth 100000
set_option maxHeartbeats 4000000
namespace TL
section
theorem gO_map {o : List Nat} {g : Nat → Nat} {k : Nat} (hk : k < o.length) : gO (o.map g) k = g (gO o k) := by simp [gO, hk]
theorem gO_lt {n : Nat} {o : List Nat} (hp : o.Perm (List.range n)) {k : Nat} (hk : k < n) : gO o k < n := by
  have hl : o.length = n := by rw [hp.length_eq, List.length_range]
  have : gO o k ∈ o := by simp [gO, hl, hk]
  simpa using hp.mem_iff.mp this
theorem map_map_gO {X o : List Nat} {g : Nat → Nat} (h : ∀ k ∈ X, k < o.length) : X.map (gO (o.map g)) = (X.map (gO o)).map g := by
  rw [List.map_map]
  exact List.map_congr_left fun k hk => gO_map (h k hk)
theorem gO_inv {n : Nat} {o q : List Nat} (hl : o.length = n) (h : o.map (gO q) = List.range n) {k : Nat} (hk : k < n) : gO q (gO o k) = k := by
  have e : (o.map (gO q))[k]? = some k := by rw [h]; simp [hk]
  rw [List.getElem?_map] at e
  have : o[k]? = some (gO o k) := by simp [gO, show k < o.length by omega]
  rw [this] at e
  exact Option.some.inj e
theorem map_back {n : Nat} {o q X : List Nat} (hl : o.length = n) (h : o.map (gO q) = List.range n) (hX : ∀ k ∈ X, k < n) : (X.map (gO o)).map (gO q) = X := by
  rw [List.map_map]
  refine (List.map_congr_left fun k hk => ?_).trans (List.map_id X)
  exact gO_inv hl h (hX k hk)
theorem mem_lt {n : Nat} {o : List Nat} (hp : o.Perm (List.range n)) : ∀ k ∈ o, k < n := fun k hk => by simpa using hp.mem_iff.mp hk
structure SameClass (l l' : Row) (o : List Nat) : Prop where
  first : firstR l' = firstR l
  firstO : (TL.firstO l').map (gO o) = TL.firstO l
  last : lastR l' = lastR l
  lastO : (TL.lastO l').map (gO o) = TL.lastO l
theorem led_class {l l' : Row} {o : List Nat} {ds : List (Bool × Nat)} (h0 : T0 l) (h : Led l l' o ds) : SameClass l l' o := by
  obtain ⟨o0, R, em, _⟩ := rea_first h0
  obtain ⟨hp, hI, e, _⟩ := led_tr (tP_nn R.t0) R.perm R.inv R.row h (.inr (fst_of R.no))
  have h0' := h.t0 h0
  have R' : Rea (firstR l) l' (o.map (gO o0)) := ⟨R.t0, R.no, hp, hI, e⟩
  obtain ⟨Rl, Ro⟩ := R.len
  obtain ⟨ll, lo⟩ := h.len
  obtain ⟨f1, f2⟩ := R'.first h0'
  obtain ⟨f3, f4⟩ := R.first h0
  obtain ⟨g1, g2, _⟩ := R'.last h0'
  obtain ⟨g3, g4, _⟩ := R.last h0
  have hlt : ∀ k ∈ TL.firstO l', k < o.length := fun k hk => by rw [lo, ← ll]; exact mem_lt (firstO_spec h0').1 k hk
  have hlt2 : ∀ k ∈ TL.lastO l', k < o.length := fun k hk => by rw [lo, ← ll]; exact mem_lt (lastO_spec h0').1 k hk
  have back : ∀ X Y : List Nat, (∀ k ∈ X, k < l.length) → (∀ k ∈ Y, k < l.length) → X.map (gO o0) = Y.map (gO o0) → X = Y := fun X Y hX hY e => by
    rw [← map_back (q := TL.firstO l) (by rw [Ro, ← Rl]) em hX, ← map_back (q := TL.firstO l) (by rw [Ro, ← Rl]) em hY, e]
  have mo : ∀ X : List Nat, (∀ k ∈ X, k < o.length) → ∀ k ∈ X.map (gO o), k < l.length := fun X hX k hk => by
    obtain ⟨j, hj, rfl⟩ := List.mem_map.mp hk
    exact gO_lt h.perm (by rw [← lo]; exact hX j hj)
  refine ⟨f1, ?_, by rw [g1, g3], ?_⟩
  · refine back _ _ (mo _ hlt) (mem_lt (firstO_spec h0).1) ?_
    rw [← map_map_gO hlt, f2, f4]
  · refine back _ _ (mo _ hlt2) (mem_lt (lastO_spec h0).1) ?_
    rw [← map_map_gO hlt2, g2, g4]
/-! ### deeds within a row -/
theorem gR_ctx {A l B : Row} {j : Nat} (hj : j < l.length) : gR (A ++ l ++ B) (A.length + j) = gR l j := by
  simp only [gR, List.getD_eq_getElem?_getD]
  rw [List.append_assoc, List.getElem?_append_right (by omega), show A.length + j - A.length = j by omega, List.getElem?_append_left hj]
theorem passed_ctx {A l B : Row} {j : Nat} (h0 : 0 < j) (hj : j < l.length) : passed (A ++ l ++ B) (A.length + j) = A ++ passed l j ++ B := by
  obtain ⟨X, a, b, Y, e, ej⟩ : ∃ (X : Row) (a b : Int × Int) (Y : Row), l = X ++ a :: b :: Y ∧ j = X.length + 1 := by
    refine ⟨l.take (j - 1), l[j - 1], l[j], l.drop (j + 1), ?_, by rw [List.length_take]; omega⟩
    rw [← List.drop_eq_getElem_cons hj]
    have : l.drop j = l.drop (j - 1 + 1) := by rw [show j - 1 + 1 = j by omega]
    rw [this, ← List.drop_eq_getElem_cons (by omega), List.take_append_drop]
  subst e ej
  rw [passed_at]
  have := passed_at (A ++ X) (Y ++ B) a b
  rw [List.length_append] at this
  rw [show A ++ (X ++ a :: b :: Y) ++ B = A ++ X ++ a :: b :: (Y ++ B) by simp, show A.length + (X.length + 1) = A.length + X.length + 1 by omega, this]
  simp
theorem fallen_ctx {A l B : Row} {j : Nat} (hj : j + 1 < l.length) : fallen (A ++ l ++ B) (A.length + j) = A ++ fallen l j ++ B := by
  obtain ⟨X, a, b, Y, e, ej⟩ : ∃ (X : Row) (a b : Int × Int) (Y : Row), l = X ++ a :: b :: Y ∧ j = X.length := by
    refine ⟨l.take j, l[j], l[j + 1], l.drop (j + 2), ?_, by rw [List.length_take]; omega⟩
    rw [← List.drop_eq_getElem_cons hj, ← List.drop_eq_getElem_cons (by omega), List.take_append_drop]
  subst e ej
  rw [fallen_at]
  have := fallen_at (A ++ X) (Y ++ B) a b
  rw [List.length_append] at this
  rw [show A ++ (X ++ a :: b :: Y) ++ B = A ++ X ++ a :: b :: (Y ++ B) by simp, this]
  simp
/-- an order of the middle as one of the whole -/
def ctxO (a : Nat) (o : List Nat) (b : Nat) : List Nat := List.range a ++ o.map (a + ·) ++ List.range' (a + o.length) b
theorem swapO_ctx {a b k : Nat} {o : List Nat} (hk : k + 1 < o.length) : swapO (ctxO a o b) (a + k) = ctxO a (swapO o k) b := by
  obtain ⟨X, x, y, Y, e, ej⟩ := split2 o (j := k + 1) (by omega) hk
  have ej : k = X.length := by omega
  subst e ej
  rw [swapO_mid]
  unfold ctxO
  have := swapO_mid (List.range a ++ X.map (a + ·)) (Y.map (a + ·) ++ List.range' (a + (X ++ x :: y :: Y).length) b) (a + x) (a + y)
  simp only [List.length_append, List.length_range, List.length_map] at this
  simp only [List.map_append, List.map_cons, List.append_assoc, List.cons_append, List.length_append, List.length_cons] at this ⊢
  exact this
theorem Led.ctx {l l' : Row} {o : List Nat} {ds : List (Bool × Nat)} (A B : Row) (h : Led l l' o ds) : ∃ ds', Led (A ++ l ++ B) (A ++ l' ++ B) (ctxO A.length o B.length) ds' ∧ ds'.length = ds.length := by
  induction h with
  | nil =>
    refine ⟨[], ?_, rfl⟩
    have e : ctxO A.length (List.range l.length) B.length = List.range (A ++ l ++ B).length := by
      unfold ctxO
      have e1 : (List.range l.length).map (A.length + ·) = List.range' A.length l.length := by
        rw [List.range_eq_range', List.map_add_range']
        simp
      have e2 := @List.range'_append_1 0 A.length l.length
      rw [Nat.zero_add] at e2
      have e3 := @List.range'_append_1 0 (A.length + l.length) B.length
      rw [Nat.zero_add] at e3
      rw [e1, List.range_eq_range', e2, List.length_range, e3, List.range_eq_range', List.length_append, List.length_append]
    rw [e]
    exact .nil
  | @pass l' o ds j h hj0 hj hlt ih =>
    obtain ⟨ds', ih, hd⟩ := ih
    have hlen := h.len
    have hl : lets (A ++ l' ++ B) (A.length + j) = true := by
      unfold lets at hlt ⊢
      rw [gR_ctx hj, show A.length + j - 1 = A.length + (j - 1) by omega, gR_ctx (by omega)]
      simp at hlt ⊢
      exact ⟨by omega, hlt.2⟩
    have := ih.pass (j := A.length + j) (by omega) (by simp; omega) hl
    rw [passed_ctx hj0 hj, show A.length + j - 1 = A.length + (j - 1) by omega, swapO_ctx (by omega)] at this
    exact ⟨_, this, by simp [hd]⟩
  | @fall l' o ds j h hj hlt ih =>
    obtain ⟨ds', ih, hd⟩ := ih
    have hlen := h.len
    have hl : falls (A ++ l' ++ B) (A.length + j) = true := by
      unfold falls at hlt ⊢
      rw [gR_ctx (by omega), show A.length + j + 1 = A.length + (j + 1) by omega, gR_ctx (by omega)]
      exact hlt
    have := ih.fall (j := A.length + j) (by simp; omega) hl
    rw [fallen_ctx hj, swapO_ctx (by omega)] at this
    exact ⟨_, this, by simp [hd]⟩
theorem t0_app {A B : Row} : T0 (A ++ B) ↔ T0 A ∧ T0 B := by
  constructor
  · exact fun h => ⟨fun p hp => h p (by simp [hp]), fun p hp => h p (by simp [hp])⟩
  · rintro ⟨h1, h2⟩ p hp
    rcases List.mem_append.mp hp with hp | hp
    · exact h1 p hp
    · exact h2 p hp
theorem ctx_class {A l l' B : Row} {o : List Nat} {ds : List (Bool × Nat)} (hA : T0 A) (hl : T0 l) (hB : T0 B) (h : Led l l' o ds) : SameClass (A ++ l ++ B) (A ++ l' ++ B) (ctxO A.length o B.length) := by
  obtain ⟨ds', h', _⟩ := h.ctx A B
  exact led_class (t0_app.mpr ⟨t0_app.mpr ⟨hA, hl⟩, hB⟩) h'
end
end TL
set_option Elab.async false
set_option linter.all false
set_option maxRecDepth 100000
set_option maxHeartbeats 4000000
namespace TL
section
theorem idx_get {o : List Nat} (hn : o.Nodup) {k x : Nat} (h : o[k]? = some x) : o.idxOf x = k := by
  obtain ⟨hk, e⟩ := List.getElem?_eq_some_iff.mp h
  have hm : x ∈ o := e ▸ List.getElem_mem hk
  have hl := List.idxOf_lt_length_iff.mpr hm
  have h1 := List.getElem_idxOf hl
  have pw := List.pairwise_iff_getElem.mp hn
  rcases Nat.lt_trichotomy (o.idxOf x) k with q | q | q
  · exact absurd (by rw [h1, e]) (pw _ _ hl hk q)
  · exact q
  · exact absurd (by rw [h1, e]) (pw _ _ hk hl q)
theorem get_gO {o : List Nat} {k : Nat} (hk : k < o.length) : o[k]? = some (gO o k) := by simp [gO, hk]
theorem get_idx {o : List Nat} {x : Nat} (h : x ∈ o) : o[o.idxOf x]? = some x := by
  have hl := List.idxOf_lt_length_iff.mpr h
  rw [List.getElem?_eq_getElem hl, List.getElem_idxOf hl]
/-- two numbers, the lesser one first -/
def sort2 (a b : Nat) : Nat × Nat := if a ≤ b then (a, b) else (b, a)
noncomputable def fallL (l : Row) : List (Nat × Nat) := pairsU l.length fun i j => ah (firstO l) j i
structure Split (l : Row) : Prop where
  perm : ((passL (firstR l)).map fun p => sort2 (gO (firstO l) p.1) (gO (firstO l) p.2)).Perm (fallL l ++ passL l)
  dis : ∀ p ∈ fallL l, p ∉ passL l
theorem split_ok {l : Row} (h0 : T0 l) : Split l := by
  obtain ⟨o0, R, em, _⟩ := rea_first h0
  obtain ⟨Rl, Ro⟩ := R.len
  obtain ⟨fp, _, _⟩ := firstO_spec h0
  obtain ⟨lp, _, _⟩ := lastO_spec h0
  have fn := fp.nodup_iff.mpr List.nodup_range
  have ln := lp.nodup_iff.mpr List.nodup_range
  have hfl := firstO_len h0
  have hll := lastO_len h0
  have ff : (firstR l).length = l.length := firstR_len h0
  have ol : o0.length = l.length := by rw [Ro, ← Rl]
  have on := R.perm.nodup_iff.mpr List.nodup_range
  obtain ⟨_, f2⟩ := R.first h0
  obtain ⟨_, g2, g3⟩ := R.last h0
  have fi : ∀ x, x < l.length → (firstO l).idxOf x = gO o0 x := fun x hx => by
    refine idx_get fn ?_
    have h1 := gO_inv ol em hx
    have h2 : gO o0 x < l.length := by rw [← ff]; exact gO_lt R.perm (by rw [ff]; exact hx)
    rw [get_gO (by omega), h1]
  have li : ∀ x, x < l.length → (lastO (firstR l)).idxOf (gO o0 x) = (lastO l).idxOf x := fun x hx => by
    have hm : x ∈ lastO l := lp.mem_iff.mpr (by simpa using hx)
    refine idx_get ((lastO_spec R.t0).1.nodup_iff.mpr List.nodup_range) ?_
    rw [← g2, List.getElem?_map, get_idx hm]
    rfl
  have oi : ∀ x, x < l.length → o0.idxOf (gO o0 x) = x := fun x hx => idx_get on (get_gO (by omega))
  have oinj : ∀ x y, x < l.length → y < l.length → gO o0 x = gO o0 y → x = y := fun x y hx hy e => by
    rw [← oi x hx, ← oi y hy, e]
  have olt : ∀ x, x < l.length → gO o0 x < l.length := fun x hx => by rw [← ff]; exact gO_lt R.perm (by rw [ff]; exact hx)
  have flt : ∀ x, x < l.length → gO (firstO l) x < l.length := fun x hx => gO_lt fp hx
  have fo : ∀ x, x < l.length → gO o0 (gO (firstO l) x) = x := fun x hx => by
    have := gO_inv (o := firstO l) (q := o0) hfl (by rw [f2, ff]) hx
    exact this
  have of' : ∀ x, x < l.length → gO (firstO l) (gO o0 x) = x := fun x hx => gO_inv ol em hx
  have mf : ∀ x y, x < y → y < l.length → ((x, y) ∈ fallL l ↔ gO o0 y < gO o0 x) := fun x y hxy hy => by
    unfold fallL
    rw [mem_pairsU]
    unfold ah
    rw [decide_eq_true_eq]
    dsimp only
    rw [fi x (by omega), fi y hy]
    exact ⟨fun h => h.2.2, fun h => ⟨hxy, hy, h⟩⟩
  have mp : ∀ x y, x < y → y < l.length → ((x, y) ∈ passL l ↔ ah (lastO (firstR l)) (gO o0 y) (gO o0 x) = true) := fun x y hxy hy => by
    rw [passL_mem]
    dsimp only
    rw [← ah_Pv h0 y hxy hy]
    unfold ah
    rw [li x (by omega), li y hy]
    exact ⟨fun h => h.2.2, fun h => ⟨hxy, hy, h⟩⟩
  have mq : ∀ a b, a < b → b < l.length → ((a, b) ∈ passL (firstR l) ↔ ah (lastO (firstR l)) b a = true) := fun a b hab hb => by
    rw [passL_mem]
    dsimp only
    rw [← ah_Pv R.t0 b hab (by rw [ff]; exact hb)]
    exact ⟨fun h => h.2.2, fun h => ⟨hab, by rw [ff]; exact hb, h⟩⟩
  have turned : ∀ x y, x < y → y < l.length → gO o0 y < gO o0 x → ah (lastO (firstR l)) (gO o0 x) (gO o0 y) = true := fun x y hxy hy h => by
    refine g3 _ _ h ?_
    unfold ah
    rw [oi x (by omega), oi y hy]
    exact decide_eq_true hxy
  have fsub : ∀ p ∈ fallL l, p.1 < p.2 ∧ p.2 < l.length := fun p hp => by
    unfold fallL at hp
    rw [mem_pairsU] at hp
    exact ⟨hp.1, hp.2.1⟩
  have dis : ∀ p ∈ fallL l, p ∉ passL l := fun p hp hp2 => by
    obtain ⟨h1, h2⟩ := fsub p hp
    have a1 := (mf p.1 p.2 h1 h2).mp hp
    have a2 := (mp p.1 p.2 h1 h2).mp hp2
    have a3 := turned _ _ h1 h2 a1
    rw [ah_anti a3] at a2
    cases a2
  refine ⟨perm_of_mem ?_ ?_ fun p => ?_, dis⟩
  · unfold List.Nodup
    rw [List.pairwise_map]
    refine List.Pairwise.imp_of_mem ?_ (pairsU_nodup _ _ : (passL (firstR l)).Nodup)
    intro p q hp hq hne e
    rw [passL_mem, ff] at hp hq
    have inj : ∀ a b, a < l.length → b < l.length → gO (firstO l) a = gO (firstO l) b → a = b := fun a b ha hb e => by
      rw [← fo a ha, ← fo b hb, e]
    have hp1 : p.1 < l.length := by omega
    have hq1 : q.1 < l.length := by omega
    have i11 := inj p.1 q.1 hp1 hq1
    have i22 := inj p.2 q.2 hp.2.1 hq.2.1
    have i12 := inj p.1 q.2 hp1 hq.2.1
    have i21 := inj p.2 q.1 hp.2.1 hq1
    refine hne (Prod.ext ?_ ?_)
    all_goals
      unfold sort2 at e
      split at e <;> split at e <;> simp only [Prod.mk.injEq] at e
      · first | exact i11 e.1 | exact i22 e.2
      · have := i12 e.1; have := i21 e.2; omega
      · have := i21 e.1; have := i12 e.2; omega
      · first | exact i11 e.2 | exact i22 e.1
  · rw [List.nodup_append]
    exact ⟨pairsU_nodup _ _, pairsU_nodup _ _, fun a ha b hb e => by subst e; exact dis a ha hb⟩
  · rw [List.mem_append, List.mem_map]
    constructor
    · rintro ⟨q, hq, rfl⟩
      have hq' := hq
      rw [passL_mem, ff] at hq
      have q1 : q.1 < l.length := by omega
      have hne : gO (firstO l) q.1 ≠ gO (firstO l) q.2 := fun e => by
        have := fo q.1 q1
        rw [e, fo q.2 hq.2.1] at this
        omega
      unfold sort2
      split
      · rename_i h
        right
        refine (mp _ _ (by omega) (flt _ hq.2.1)).mpr ?_
        rw [fo _ q1, fo _ hq.2.1]
        exact (mq _ _ hq.1 hq.2.1).mp hq'
      · rename_i h
        left
        refine (mf _ _ (by omega) (flt _ q1)).mpr ?_
        rw [fo _ q1, fo _ hq.2.1]
        exact hq.1
    · rintro (h | h)
      · obtain ⟨h1, h2⟩ := fsub p h
        have a1 := (mf p.1 p.2 h1 h2).mp h
        refine ⟨(gO o0 p.2, gO o0 p.1), (mq _ _ a1 (olt _ (by omega))).mpr (turned _ _ h1 h2 a1), ?_⟩
        dsimp only
        rw [of' _ h2, of' _ (by omega)]
        unfold sort2
        rw [if_neg (by omega)]
      · have h' := h
        rw [passL_mem] at h
        have a2 := (mp p.1 p.2 h.1 h.2.1).mp h'
        have a1 : gO o0 p.1 < gO o0 p.2 := by
          rcases Nat.lt_trichotomy (gO o0 p.1) (gO o0 p.2) with q | q | q
          · exact q
          · have := oinj _ _ (by omega) h.2.1 q
            omega
          · have a3 := turned _ _ h.1 h.2.1 q
            rw [ah_anti a3] at a2
            cases a2
        refine ⟨(gO o0 p.1, gO o0 p.2), (mq _ _ a1 (olt _ h.2.1)).mpr a2, ?_⟩
        dsimp only
        rw [of' _ h.2.1, of' _ (by omega)]
        unfold sort2
        rw [if_pos (by omega)]
end
end TL
set_option Elab.async false
set_option linter.all false
set_option maxRecDepth 100000
set_option maxHeartbeats 4000000
namespace TL
section
theorem T0.ok {l : Row} (h : T0 l) : ∃ S T : Int, RowOk S T l := by
  induction l with
  | nil => exact ⟨0, 0, ⟨(fun _ z => nomatch z), (fun _ z => nomatch z)⟩⟩
  | cons p l ih =>
    obtain ⟨S, T, ok⟩ := ih fun q hq => h q (List.mem_cons_of_mem _ hq)
    have hp := h p (by simp)
    refine ⟨(S.natAbs : Int) + p.1.natAbs, (T.natAbs : Int) + p.2.natAbs, ⟨fun q hq => ?_, fun q hq => ?_⟩⟩
    · rcases List.mem_cons.mp hq with rfl | hq
      · omega
      · have := ok.s q hq; omega
    · rcases List.mem_cons.mp hq with rfl | hq
      · omega
      · have := ok.t q hq; omega
/-- the least strength with which j passes i -/
def leastR (l : Row) (i j : Nat) : Int := barN l i (j - (i + 1)) + 1
theorem Pv_least (l : Row) (i j : Nat) : Pv l i j = decide (leastR l i j ≤ (gR l j).1) := by
  unfold Pv leastR
  rw [Bool.eq_iff_iff]
  simp
  omega
theorem least_same {l l' : Row} {i j : Nat} (hij : i < j) (h : ∀ k, k < j → gR l' k = gR l k) : leastR l' i j = leastR l i j := by
  unfold leastR
  rw [barN_same (h i hij) _ fun k h1 h2 => h k (by omega)]
theorem gR_take {l : Row} {j k : Nat} (h : k < j) : gR (l.take j) k = gR l k := by
  simp [gR, List.getD_eq_getElem?_getD, List.getElem?_take, h]
def setR (l : Row) (j : Nat) (s : Int) : Row := l.take j ++ [(s, (gR l j).2)] ++ l.drop (j + 1)
theorem setR_eq {l : Row} {j : Nat} (s : Int) : setR l j s = chR l j (s - (gR l j).1) 0 := by
  unfold setR chR
  have e1 : (gR l j).1 + (s - (gR l j).1) = s := by omega
  have e2 : (gR l j).2 + 0 = (gR l j).2 := by omega
  rw [e1, e2]
theorem setR_get {l : Row} {j : Nat} {s : Int} (h : j < l.length) (k : Nat) : gR (setR l j s) k = if k = j then (s, (gR l j).2) else gR l k := by
  rw [setR_eq, chR_get h]
  have e1 : (gR l j).1 + (s - (gR l j).1) = s := by omega
  have e2 : (gR l j).2 + 0 = (gR l j).2 := by omega
  rw [e1, e2]
theorem setR_len {l : Row} {j : Nat} {s : Int} (h : j < l.length) : (setR l j s).length = l.length := by rw [setR_eq]; exact chR_len h
theorem setR_t0 {l : Row} {j : Nat} {s : Int} (h : T0 l) (hj : j < l.length) : T0 (setR l j s) := by
  rw [setR_eq]
  exact chR_t0 h hj (by have := gR_t0 h j; omega)
theorem sum_filter (t : Nat → Int) (A : List Nat) (f : Nat → Bool) : ((A.filter f).map t).sum = tolls t A f := by
  induction A with
  | nil => rfl
  | cons c A ih =>
    by_cases h : f c = true
    · rw [List.filter_cons_of_pos h, List.map_cons, List.sum_cons, ih]
      simp [tolls, h]
    · rw [List.filter_cons_of_neg h, ih]
      simp [tolls, h]
/-- by whom never passes -/
theorem least_sum {l : Row} {i j : Nat} (hij : i < j) : (gR l i).1 + (gR l i).2 + (((List.range' (i + 1) (j - (i + 1))).filter fun k => !Pv (l.take j) i k).map fun k => (gR l k).2).sum + 1 = leastR l i j := by
  rw [← least_same (l := l) (l' := l.take j) hij fun k hk => gR_take hk]
  unfold leastR
  rw [barN_eq, sum_filter]
  have e : tolls (fun k => (gR l k).2) (List.range' (i + 1) (j - (i + 1))) (fun k => !Pv (l.take j) i k) = tolls (tP (l.take j)) (List.range' (i + 1) (j - (i + 1))) (fun k => !Pv (l.take j) i k) := tolls_t fun c hc => by
    rw [List.mem_range'_1] at hc
    show _ = (gR (l.take j) c).2
    rw [gR_take (by omega)]
  rw [e]
  show _ = (gR (l.take j) i).1 + (gR (l.take j) i).2 + _ + 1
  rw [gR_take hij]
end
end TL
set_option Elab.async false
set_option linter.all false
set_option maxRecDepth 100000
set_option maxHeartbeats 4000000
namespace TL
section
/-! ### pieces -/
theorem barN_ctx {A M B : Row} {i : Nat} : ∀ (k : Nat), i + k < M.length → barN (A ++ M ++ B) (A.length + i) k = barN M i k
  | 0, h => by simp only [barN]; rw [gR_ctx (by omega)]
  | k + 1, h => by
    have ih := barN_ctx (A := A) (M := M) (B := B) (i := i) k (by omega)
    simp only [barN, ih]
    rw [show A.length + i + 1 + k = A.length + (i + 1 + k) by omega, gR_ctx (by omega)]
theorem Pv_ctx {A M B : Row} {i j : Nat} (hij : i < j) (hj : j < M.length) : Pv (A ++ M ++ B) (A.length + i) (A.length + j) = Pv M i j := by
  unfold Pv
  rw [show A.length + j - (A.length + i + 1) = j - (i + 1) by omega, barN_ctx _ (by omega), gR_ctx hj]
def amongL (ps : List (Nat × Nat)) (b e : Nat) : List (Nat × Nat) := (ps.filter fun p => decide (b ≤ p.1) && decide (p.2 < e)).map fun p => (p.1 - b, p.2 - b)
theorem among_pass {A M B : Row} : amongL (passL (A ++ M ++ B)) A.length (A.length + M.length) = passL M := by
  have srt : (amongL (passL (A ++ M ++ B)) A.length (A.length + M.length)).Pairwise ltN := by
    unfold amongL
    rw [List.pairwise_map]
    refine List.Pairwise.imp_of_mem ?_ (List.Pairwise.filter _ (pairsU_sorted _ _))
    intro p q hp hq h
    obtain ⟨_, h1⟩ := List.mem_filter.mp hp
    obtain ⟨_, h2⟩ := List.mem_filter.mp hq
    obtain ⟨hp1, _⟩ := List.mem_filter.mp hp
    obtain ⟨hq1, _⟩ := List.mem_filter.mp hq
    have := (mem_pairsU.mp hp1).1
    have := (mem_pairsU.mp hq1).1
    simp at h1 h2
    unfold ltN at h ⊢
    dsimp only
    omega
  refine sorted_uniq (R := ltN) (fun x y h1 h2 => ?_) (perm_of_mem (nodup_of_lt (fun _ => ltN_irr) srt) (pairsU_nodup _ _) fun p => ?_) srt (pairsU_sorted _ _)
  · unfold ltN at h1 h2
    omega
  · show _ ↔ p ∈ passL M
    rw [passL_mem]
    unfold amongL
    rw [List.mem_map]
    constructor
    · rintro ⟨q, hq, rfl⟩
      obtain ⟨h1, h2⟩ := List.mem_filter.mp hq
      rw [passL_mem] at h1
      simp at h2
      obtain ⟨i, ei⟩ : ∃ i, q.1 = A.length + i := ⟨q.1 - A.length, by omega⟩
      obtain ⟨j, ej⟩ : ∃ j, q.2 = A.length + j := ⟨q.2 - A.length, by omega⟩
      have h3 := h1.2.2
      rw [ei, ej] at h3
      rw [Pv_ctx (by omega) (by omega)] at h3
      refine ⟨by dsimp only; omega, by dsimp only; omega, ?_⟩
      dsimp only
      rw [show q.1 - A.length = i by omega, show q.2 - A.length = j by omega]
      exact h3
    · rintro ⟨h1, h2, h3⟩
      refine ⟨(A.length + p.1, A.length + p.2), List.mem_filter.mpr ⟨?_, by simp; omega⟩, by apply Prod.ext <;> dsimp only <;> omega⟩
      rw [passL_mem]
      refine ⟨by dsimp only; omega, by simp; omega, ?_⟩
      dsimp only
      rw [Pv_ctx h1 h2]
      exact h3
/-! ### passings counted -/
theorem Led.trans {l l' l'' : Row} {o o' : List Nat} {ds ds' : List (Bool × Nat)} (h : Led l l' o ds) (h' : Led l' l'' o' ds') : Led l l'' (o'.map (gO o)) (ds ++ ds') := by
  have ho : o.length = l'.length := by rw [h.len.2, h.len.1]
  induction h' with
  | nil =>
    rw [← ho, map_gO, List.append_nil]
    exact h
  | @pass m o' ds' j h' hj0 hj hl ih =>
    have hlen := h'.len
    have := ih.pass hj0 hj hl
    rw [swapO_map _ (by omega), ← List.append_assoc]
    exact this
  | @fall m o' ds' j h' hj hl ih =>
    have hlen := h'.len
    have := ih.fall hj hl
    rw [swapO_map _ (by omega), ← List.append_assoc]
    exact this
theorem inv_range (n : Nat) : inv (List.range n) = 0 := by
  have key : ∀ (m i : Nat), inv (List.range' i m) = 0 := by
    intro m
    induction m with
    | zero => intro i; rfl
    | succ m ih =>
      intro i
      rw [List.range'_succ]
      simp only [inv, ih, Nat.add_zero]
      have : (List.range' (i + 1) m).filter (fun c => decide (c < i)) = [] := by
        rw [List.filter_eq_nil_iff]
        intro c hc
        rw [List.mem_range'_1] at hc
        simp
        omega
      rw [this]
      rfl
  rw [List.range_eq_range']
  exact key n 0
theorem led_inv {l l' : Row} {o : List Nat} {ds : List (Bool × Nat)} (h0 : T0 l) (h : Led l l' o ds) (hd : ∀ d ∈ ds, d.1 = true) : inv o = ds.length := by
  induction h with
  | nil => rw [inv_range]; rfl
  | @pass l' o ds j h hj0 hj hl ih =>
    have hd' : ∀ d ∈ ds, d.1 = true := fun d hd' => hd d (by simp [hd'])
    have ih := ih hd'
    have hlen := h.len
    obtain ⟨hp, hI, e, _⟩ := led_tr (tP_nn h0) (List.Perm.refl _) (Inv.range _) (rowG_P l).symm h (.inl hd')
    have eo : o.map (gO (List.range l.length)) = o := by
      refine (List.map_congr_left fun k hk => ?_).trans (List.map_id o)
      have : k < l.length := mem_lt h.perm k hk
      simp [gO, this]
    rw [eo] at hp hI e
    obtain ⟨A, a, b, B, rfl, rfl⟩ := split2 o hj0 (by omega)
    rw [e] at hl
    obtain ⟨hab, _, _⟩ := pass_step (tP_nn h0) (hp.nodup_iff.mpr List.nodup_range) hI hl
    rw [show A.length + 1 - 1 = A.length by omega, swapO_mid, inv_swap A B hab, ih]
    simp
  | @fall l' o ds j h hj hl ih =>
    have := hd (false, j) (by simp)
    simp at this
theorem invP_length : ∀ o : List Nat, (invP o).length = inv o
  | [] => rfl
  | y :: B => by simp [invP, inv, invP_length B]
theorem passL_count {l : Row} (h0 : T0 l) : (passL l).length = inv (lastO l) := by
  rw [← invP_length]
  exact (invP_last h0).length_eq.symm
theorem led_count {l l' : Row} {o : List Nat} {ds : List (Bool × Nat)} (h0 : T0 l) (h : Led l l' o ds) (hd : ∀ d ∈ ds, d.1 = true) : (passL l').length + ds.length = (passL l).length := by
  have h0' := h.t0 h0
  obtain ⟨ds', h', hd', _⟩ := led_last h0'
  have ht := h.trans h'
  have c := led_class h0 h
  rw [c.lastO] at ht
  have i1 := led_inv h0 ht fun d hm => by
    rcases List.mem_append.mp hm with hm | hm
    · exact hd d hm
    · exact hd' d hm
  have i2 := led_inv h0' h' hd'
  rw [passL_count h0, passL_count h0', i1, i2, List.length_append]
  omega
theorem last_count {l : Row} (h0 : T0 l) : ∃ ds, Led l (lastR l) (lastO l) ds ∧ (∀ d ∈ ds, d.1 = true) ∧ ds.length = (passL l).length := by
  obtain ⟨ds, h, hd, _⟩ := led_last h0
  exact ⟨ds, h, hd, by rw [passL_count h0, led_inv h0 h hd]⟩
theorem Led.ctxP {l l' : Row} {o : List Nat} {ds : List (Bool × Nat)} (A B : Row) (h : Led l l' o ds) (hd : ∀ d ∈ ds, d.1 = true) : ∃ ds', Led (A ++ l ++ B) (A ++ l' ++ B) (ctxO A.length o B.length) ds' ∧ ds'.length = ds.length ∧ ∀ d ∈ ds', d.1 = true := by
  induction h with
  | nil =>
    obtain ⟨ds', h', e⟩ := Led.ctx A B (Led.nil (l := l))
    exact ⟨ds', h', e, fun d hd => by
      have : ds' = [] := List.length_eq_zero_iff.mp e
      subst this
      cases hd⟩
  | @pass l' o ds j h hj0 hj hlt ih =>
    obtain ⟨ds', ih, e, hd2⟩ := ih fun d hd' => hd d (by simp [hd'])
    have hlen := h.len
    have hl : lets (A ++ l' ++ B) (A.length + j) = true := by
      unfold lets at hlt ⊢
      rw [gR_ctx hj, show A.length + j - 1 = A.length + (j - 1) by omega, gR_ctx (by omega)]
      simp at hlt ⊢
      exact ⟨by omega, hlt.2⟩
    have := ih.pass (j := A.length + j) (by omega) (by simp; omega) hl
    rw [passed_ctx hj0 hj, show A.length + j - 1 = A.length + (j - 1) by omega, swapO_ctx (by omega)] at this
    exact ⟨_, this, by simp [e], fun d hm => by
      rcases List.mem_append.mp hm with hm | hm
      · exact hd2 d hm
      · have : d = (true, A.length + j) := by simpa using hm
        rw [this]⟩
  | @fall l' o ds j h hj hl ih =>
    have := hd (false, j) (by simp)
    simp at this
/-- a piece led to its end first -/
theorem piece_end {A M B : Row} (hA : T0 A) (hM : T0 M) (hB : T0 B) : lastR (A ++ lastR M ++ B) = lastR (A ++ M ++ B) ∧ (passL (A ++ lastR M ++ B)).length + (passL M).length = (passL (A ++ M ++ B)).length := by
  obtain ⟨ds, h, hd, e⟩ := last_count hM
  obtain ⟨ds', h', e', hd'⟩ := h.ctxP A B hd
  have h0 : T0 (A ++ M ++ B) := t0_app.mpr ⟨t0_app.mpr ⟨hA, hM⟩, hB⟩
  exact ⟨(led_class h0 h').last, by rw [← led_count h0 h' hd', e', e]⟩
end
end TL
set_option Elab.async false
set_option linter.all false
set_option maxRecDepth 100000
set_option maxHeartbeats 4000000
namespace TL
open PySem PySem.Spec PyProof.Rows L2
/-! ### two-for and dict comprehensions without draws -/
theorem in_map {β : Type} {g : GM} {c : CM} {me : EM} {τw : Ev} (φ : β → D) (st : β → Ev) (p : β → Bool) (f : β → D) : ∀ (ys : List β), (∀ a ∈ ys, ∀ n R, R (st a) n → g (φ a) τw n R) → (∀ a ∈ ys, ∀ n R, R (p a) n → c (st a) n R) →
    (∀ a ∈ ys, p a = true → ∀ n R, R (f a) n → me (st a) n R) → ∀ (acc : List D) (n : Nat) (Q : List D → Nat → Prop), acc.length + ys.length ≤ sizeLine → Q (acc ++ (ys.filter p).map f) n → in2D g c me τw (ys.map φ) acc n Q
  | [], _, _, _, acc, n, Q, _, q => by simpa [in2D] using q
  | a :: r, hg, hc, hm, acc, n, Q, hl, q => by
    have hl' : acc.length + (r.length + 1) ≤ sizeLine := hl
    refine hg a (by simp) n _ (hc a (by simp) n _ ?_)
    have ih := in_map φ st p f r (fun b hb => hg b (List.mem_cons_of_mem _ hb)) (fun b hb => hc b (List.mem_cons_of_mem _ hb)) (fun b hb => hm b (List.mem_cons_of_mem _ hb))
    by_cases hp : p a = true
    · rw [if_pos hp]
      refine hm a (by simp) hp n _ ⟨by omega, ih (acc ++ [f a]) n Q (by rw [List.length_append]; simp only [List.length_cons, List.length_nil]; omega) ?_⟩
      rw [List.filter_cons_of_pos hp] at q
      simpa using q
    · rw [if_neg hp]
      refine ih acc n Q (by omega) ?_
      rw [List.filter_cons_of_neg hp] at q
      exact q
theorem lc2_map {α β : Type} {g g1 : GM} {c c1 : CM} {mi : IM} {me : EM} {vs1 : List Nat} {τw : Ev} (φ : α → D) (st : α → Ev) (ψ : α → β → D) (ys : α → List β) (st1 : α → β → Ev) (p : α → β → Bool) (f : α → β → D) (m : Nat) : ∀ (xs : List α),
    (∀ a ∈ xs, ∀ n R, R (st a) n → g (φ a) τw n R) → (∀ a ∈ xs, ∀ n R, R true n → c (st a) n R) → (∀ a ∈ xs, (ys a).length ≤ m ∧ ∀ n R, R ((ys a).map (ψ a)) n → mi (st a) n R) →
    (∀ a ∈ xs, ∀ b ∈ ys a, ∀ n R, R (st1 a b) n → g1 (ψ a b) (wipeE (st a) vs1) n R) → (∀ a ∈ xs, ∀ b ∈ ys a, ∀ n R, R (p a b) n → c1 (st1 a b) n R) → (∀ a ∈ xs, ∀ b ∈ ys a, p a b = true → ∀ n R, R (f a b) n → me (st1 a b) n R) →
    ∀ (acc : List D) (n : Nat) (Q : D → Nat → Prop), acc.length + xs.length * m ≤ sizeLine → Q (.list (acc ++ xs.flatMap fun a => ((ys a).filter (p a)).map (f a))) n → lc2D g c mi g1 c1 me vs1 τw (xs.map φ) acc n Q
  | [], _, _, _, _, _, _, acc, n, Q, _, q => by simpa [lc2D] using q
  | a :: r, hg, hc, hi, hg1, hc1, hm, acc, n, Q, hl, q => by
    have hl' : acc.length + (r.length + 1) * m ≤ sizeLine := hl
    rw [Nat.add_mul, Nat.one_mul] at hl'
    obtain ⟨h1, h2⟩ := hi a (by simp)
    refine hg a (by simp) n _ (hc a (by simp) n _ ?_)
    rw [if_pos rfl]
    refine h2 n _ (in_map (ψ a) (st1 a) (p a) (f a) (ys a) (hg1 a (by simp)) (hc1 a (by simp)) (hm a (by simp)) acc n _ (by omega) ?_)
    have hf : (((ys a).filter (p a)).map (f a)).length ≤ m := by
      rw [List.length_map]
      exact Nat.le_trans (List.length_filter_le _ _) h1
    refine lc2_map φ st ψ ys st1 p f m r (fun b hb => hg b (List.mem_cons_of_mem _ hb)) (fun b hb => hc b (List.mem_cons_of_mem _ hb)) (fun b hb => hi b (List.mem_cons_of_mem _ hb)) (fun b hb => hg1 b (List.mem_cons_of_mem _ hb)) (fun b hb => hc1 b (List.mem_cons_of_mem _ hb)) (fun b hb => hm b (List.mem_cons_of_mem _ hb)) _ n Q (by rw [List.length_append]; omega) ?_
    rw [List.flatMap_cons] at q
    simpa using q
theorem dc_map {α : Type} {g : GM} {c : CM} {mk mv : EM} {τw : Ev} (φ : α → D) (st : α → Ev) (kf : α → Key) (vf : α → D) : ∀ (xs : List α), (∀ a ∈ xs, ∀ n R, R (st a) n → g (φ a) τw n R) → (∀ a ∈ xs, ∀ n R, R true n → c (st a) n R) →
    (∀ a ∈ xs, ∀ n R, R (keyD (kf a)) n → mk (st a) n R) → (∀ a ∈ xs, ∀ n R, R (vf a) n → mv (st a) n R) → ∀ (acc : List (Key × D)) (n : Nat) (Q : List (Key × D) → Nat → Prop), acc.length + xs.length ≤ sizeLine → Q (xs.foldl (fun acc a => putD acc (kf a) (vf a)) acc) n → dcD g c mk mv τw (xs.map φ) acc n Q
  | [], _, _, _, _, acc, n, Q, _, q => q
  | a :: r, hg, hc, hk, hv, acc, n, Q, hl, q => by
    have hl' : acc.length + (r.length + 1) ≤ sizeLine := hl
    refine hg a (by simp) n _ (hc a (by simp) n _ ?_)
    rw [if_pos rfl]
    refine hk a (by simp) n _ (hv a (by simp) n _ ⟨kf a, rfl, by omega, ?_⟩)
    refine dc_map φ st kf vf r (fun b hb => hg b (List.mem_cons_of_mem _ hb)) (fun b hb => hc b (List.mem_cons_of_mem _ hb)) (fun b hb => hk b (List.mem_cons_of_mem _ hb)) (fun b hb => hv b (List.mem_cons_of_mem _ hb)) _ n Q ?_ q
    have : (putD acc (kf a) (vf a)).length ≤ acc.length + 1 := by
      unfold putD
      split
      · rw [List.length_map]; omega
      · rw [List.length_append]; simp
    omega
section
variable {κ : Type} [DecidableEq κ]
theorem valD_put (kvs : List (κ × D)) (k j : κ) (d : D) : valD (putD kvs k d) j = if j = k then some d else valD kvs j := by
  unfold putD
  split
  · rename_i h
    induction kvs with
    | nil => simp at h
    | cons q r ih =>
      by_cases e : q.1 = k
      · by_cases ej : j = k
        · subst ej
          simp [valD, e]
        · have : ¬ k = j := fun z => ej z.symm
          rw [if_neg ej]
          by_cases hr : (r.any fun kv => decide (kv.1 = k)) = true
          · have := ih hr
            rw [if_neg ej] at this
            simp only [valD, List.map_cons, List.find?_cons] at this ⊢
            simp [e, ‹¬ k = j›]
            simpa using this
          · have hid : (r.map fun kv => if kv.1 = k then (kv.1, d) else kv) = r := by
              refine (List.map_congr_left fun a ha => ?_).trans (List.map_id r)
              have : ¬ a.1 = k := fun z => hr (List.any_eq_true.mpr ⟨a, ha, decide_eq_true z⟩)
              simp [this]
            simp [valD, List.find?_cons, e, ‹¬ k = j›, hid]
      · have hr : (r.any fun kv => decide (kv.1 = k)) = true := by simpa [List.any_cons, e] using h
        have := ih hr
        by_cases ej : q.1 = j
        · have : ¬ j = k := fun z => e (ej.trans z)
          simp [valD, List.find?_cons, e, ej, this]
        · simp only [valD, List.map_cons, List.find?_cons] at this ⊢
          simp [e, ej]
          simpa using this
  · rename_i h
    by_cases ej : j = k
    · subst ej
      have hn : kvs.find? (fun kv => decide (kv.1 = j)) = none := by
        rw [List.find?_eq_none]
        intro a ha z
        exact h (List.any_eq_true.mpr ⟨a, ha, z⟩)
      simp [valD, List.find?_append, hn]
    · have : ¬ k = j := fun z => ej z.symm
      simp [valD, List.find?_append, ej, this]
end
section
variable {κ : Type} [DecidableEq κ] {α : Type}
theorem valD_keep (kf : α → κ) (vf : α → D) (k : κ) : ∀ (xs : List α) (acc : List (κ × D)), (∀ a ∈ xs, kf a ≠ k) → valD (xs.foldl (fun acc a => putD acc (kf a) (vf a)) acc) k = valD acc k
  | [], _, _ => rfl
  | a :: r, acc, h => by
    have := valD_keep kf vf k r (putD acc (kf a) (vf a)) fun b hb => h b (List.mem_cons_of_mem _ hb)
    rw [List.foldl_cons, this, valD_put, if_neg (fun z => h a (by simp) z.symm)]
theorem valD_fold (kf : α → κ) (vf : α → D) : ∀ (xs : List α) (acc : List (κ × D)), xs.Pairwise (fun a b => kf a ≠ kf b) → ∀ a ∈ xs, valD (xs.foldl (fun acc a => putD acc (kf a) (vf a)) acc) (kf a) = some (vf a)
  | [], _, _, a, h => by cases h
  | b :: r, acc, hp, a, h => by
    rw [List.pairwise_cons] at hp
    rw [List.foldl_cons]
    rcases List.mem_cons.mp h with rfl | h
    · rw [valD_keep kf vf (kf a) r _ fun c hc z => hp.1 c hc z.symm, valD_put, if_pos rfl]
    · exact valD_fold kf vf r _ hp.2 a h
end
/-- each number of an order, its place -/
def spots (o : List Nat) : List (Key × D) := o.zipIdx.foldl (fun acc (p : Nat × Nat) => putD acc (.inl (p.1 : Int)) (.int (p.2 : Nat))) []
theorem spots_at {o : List Nat} (hn : o.Nodup) {i : Nat} (hi : i < o.length) : valD (spots o) (.inl ((o[i] : Nat) : Int)) = some (.int (i : Nat)) := by
  have hm : (o[i], i) ∈ o.zipIdx := by
    rw [List.mem_iff_getElem]
    exact ⟨i, by simpa using hi, by simp⟩
  refine valD_fold (κ := Key) (fun p : Nat × Nat => (.inl (p.1 : Int) : Key)) (fun p => .int (p.2 : Nat)) o.zipIdx [] ?_ (o[i], i) hm
  rw [List.pairwise_iff_getElem]
  intro a b ha hb hab e
  simp at ha hb e
  have hne := (List.pairwise_iff_getElem.mp hn) a b ha hb hab
  exact hne (by omega)
def prD (p : Nat × Nat) : D := .tuple [.int (p.1 : Nat), .int (p.2 : Nat)]
end TL
set_option Elab.async false
set_option linter.all false
set_option maxRecDepth 100000
set_option maxHeartbeats 4000000
namespace TL
open PySem PySem.Spec PyProof.Rows L2
end TL
set_option Elab.async false
set_option linter.all false
set_option maxRecDepth 100000
set_option maxHeartbeats 4000000
namespace TL
open PySem PySem.Spec PyProof.Rows L2
/-! ### who may -/
def Flets_pass : FM := bodyM 2 fun _ => b_lets_pass
theorem lets_pass_ok {a b : Int × Int} {n : Nat} {P : D → Nat → Prop} {PX : XE → Nat → Prop} (h : P (.bool (decide (a.1 < b.1 - a.2))) n) : Flets_pass [.d (pairD a), .d (pairD b)] n P PX := by
  show bodyM 2 (fun _ => b_lets_pass) _ _ _ _
  simpa [b_lets_pass] using h
theorem someP_eq (l : Row) : (someP l).map natD = ((List.range (l.length - 1)).filter fun j => lets l (j + 1)).map fun j => PyData.int (1 + (j : Nat)) := by
  unfold someP
  cases e : l.length with
  | zero => rfl
  | succ m =>
    have l0 : lets l 0 = false := by simp [lets]
    rw [List.range_succ_eq_map, List.filter_cons_of_neg (by simp [l0]), List.filter_map, List.map_map]
    refine List.map_congr_left fun j _ => ?_
    simp [natD]
    omega
def Fmay_pass : FM := bodyM 2 fun _ => b_may_pass Flets_pass
theorem may_pass_ok {l : Row} {n : Nat} {P : D → Nat → Prop} {PX : XE → Nat → Prop} (hl : l.length ≤ 1000) (h : P (.list ((someP l).map natD)) n) : Fmay_pass [.d (rowD l)] n P PX := by
  show bodyM 2 (fun _ => b_may_pass Flets_pass) _ _ _ _
  have z20 := sz20
  simp [b_may_pass]
  refine ⟨by omega, ?_⟩
  rw [rangeD_map]
  refine lc_map (fun j : Nat => PyData.int (1 + (j : Nat))) (fun j => [some (.d (rowD l)), some (.d (.int (1 + (j : Nat))))]) (fun j => lets l (j + 1)) (fun j => PyData.int (1 + (j : Nat))) (List.range (l.length - 1)) (fun a ha n R r => by simpa [wipeE] using r) (fun a ha n R r => ?_) (fun a ha _ n R r => by simpa using r) [] n _ (by simp; omega) (by simpa [someP_eq] using h)
  have ha' : a < l.length - 1 := by simpa using ha
  have e1 : (1 + (a : Int)).toNat = a + 1 := by omega
  have e2 : (1 + (a : Int) - 1).toNat = a := by omega
  simp (disch := omega) [lk0, ix_row, e1, e2]
  refine lets_pass_ok ?_
  unfold lets at r
  simp at r
  by_cases e : (gR l a).1 < (gR l (a + 1)).1 - (gR l a).2
  · rw [decide_eq_true e] at r ⊢
    exact .inr ⟨rfl, r⟩
  · rw [decide_eq_false e] at r ⊢
    exact .inl ⟨rfl, r⟩
def withR (l : Row) (j : Nat) (m : Int) : Row := l.take j ++ [((gR l j).1 + m, (gR l j).2)] ++ l.drop (j + 1)
end TL
set_option Elab.async false
set_option linter.all false
set_option maxRecDepth 100000
set_option maxHeartbeats 4000000
namespace TL
open PySem PySem.Spec PyProof.Rows L2
end TL
set_option Elab.async false
set_option linter.all false
set_option maxRecDepth 100000
set_option maxHeartbeats 4000000
namespace TL
open PySem PySem.Spec PyProof.Rows L2
@[simp] theorem iR3_ap {m m' m'' : EM} {τ : Ev} {n : Nat} {R : List D → Nat → Prop} : iR3 m m' m'' τ n R ↔ m τ n fun d n1 => m' τ n1 fun d' n2 => m'' τ n2 fun d'' n3 => ∃ i j, d = .int i ∧ d' = .int j ∧ d'' = .int (-1) ∧ (-(2 ^ 62) ≤ i ∧ i < 2 ^ 62 ∧ -(2 ^ 62) ≤ j ∧ j < 2 ^ 62) ∧ R (downD i (i - j).toNat) n3 := Iff.rfl
@[simp] theorem oIns_ap {xs : List D} {i : Int} {d : D} {P : D → List D → Prop} : oIns xs [.int i, d] P ↔ xs.length < sizeLine ∧ (0 ≤ i ∧ i < 2 ^ 63) ∧ P .none (xs.take i.toNat ++ [d] ++ xs.drop i.toNat) := by
  constructor
  · rintro ⟨i', d', e, h⟩
    cases e
    exact h
  · exact fun h => ⟨i, d, rfl, h⟩
theorem pair_eq (a b : Int) : PyData.tuple [.int a, .int b] = pairD (a, b) := rfl
theorem ins_map {α : Type} (f : α → D) (A B : List α) (x : α) : (List.map f (A ++ B)).take A.length ++ f x :: (List.map f (A ++ B)).drop A.length = (A ++ x :: B).map f := by
  simp [List.map_append]
end TL
set_option Elab.async false
set_option linter.all false
set_option maxRecDepth 100000
set_option maxHeartbeats 4000000
namespace TL
open PySem PySem.Spec PyProof.Rows L2
/-! ### repr of a row -/
theorem int_small {i : Int} (h : i.natAbs < 10 ^ 15) : i.natAbs.log2 < 50 ∧ (PyData.shown (.int i)).length ≤ 16 ∧ PyData.weight (.int i) ≤ 50 := by
  have h2 : i.natAbs < 2 ^ 50 := Nat.lt_trans h (by decide)
  have hl : i.natAbs.log2 < 50 := by
    by_cases z : i.natAbs = 0
    · rw [z]; decide
    · exact (Nat.log2_lt z).mpr h2
  refine ⟨hl, ?_, ?_⟩
  · have e := int_text_length_le10 (k := 15) (by decide) h
    show (Str.ofString (toString i)).length ≤ 16
    rw [PySem.ofString_length]; exact e
  · simp only [PyData.weight]
    split <;> omega
theorem pair_facts {p : Int × Int} (h1 : p.1.natAbs < 10 ^ 15) (h2 : p.2.natAbs < 10 ^ 15) : (pairD p).showable = true ∧ (pairD p).intsShort 16 = true ∧ (pairD p).weight ≤ 102 := by
  obtain ⟨a1, a2, a3⟩ := int_small h1
  obtain ⟨b1, b2, b3⟩ := int_small h2
  refine ⟨?_, ?_, ?_⟩
  · simp [pairD, PyData.showable, PyData.showableAll]
    omega
  · simp [pairD, PyData.intsShort, PyData.intsShortAll]
    exact ⟨a2, b2⟩
  · simp only [pairD, PyData.weight, PyData.weightAll] at a3 b3 ⊢
    omega
theorem row_facts : ∀ {l : Row}, (∀ p ∈ l, p.1.natAbs < 10 ^ 15 ∧ p.2.natAbs < 10 ^ 15) → PyData.showableAll (l.map pairD) = true ∧ PyData.intsShortAll 16 (l.map pairD) = true ∧ PyData.weightAll (l.map pairD) ≤ 103 * l.length
  | [], _ => ⟨rfl, rfl, by simp [PyData.weightAll]⟩
  | p :: r, h => by
    obtain ⟨a1, a2, a3⟩ := pair_facts (h p (by simp)).1 (h p (by simp)).2
    obtain ⟨b1, b2, b3⟩ := row_facts (l := r) fun q hq => h q (List.mem_cons_of_mem _ hq)
    refine ⟨by simp [PyData.showableAll, a1, b1], by simp [PyData.intsShortAll, a2, b2], ?_⟩
    simp only [List.map_cons, PyData.weightAll, List.length_cons]
    omega
theorem lay_pair (p : Int × Int) : Lay 1 (pairD p) := lay_tup (n := 0) fun x hx => by
  simp at hx
  rcases hx with rfl | rfl <;> exact lay_int
theorem lay_row (l : Row) : Lay 2 (rowD l) := lay_tup (n := 1) fun x hx => by
  obtain ⟨p, _, rfl⟩ := List.mem_map.mp hx
  exact lay_pair p
theorem repr_ok {S T : Int} {l : Row} {P : D → Prop} (ok : RowOk S T l) (hS : S < 10 ^ 14) (hT : T < 10 ^ 14) (hl : l.length ≤ 64) : dRepr (rowD l) P ↔ P (.str (rowD l).shown) := by
  refine ⟨fun h => h.2.2.2.2.2, fun h => ?_⟩
  obtain ⟨a1, a2, a3⟩ := row_facts (l := l) fun p hp => by
    have := ok.s p hp
    have := ok.t p hp
    constructor <;> omega
  have lay := lay_row l
  refine ⟨rfl, lay.1, by simpa [rowD, PyData.showable] using a1, Nat.le_trans lay.2 (by decide), ?_, h⟩
  have ls := PyData.leavesShort_of_canLay0 16 (rowD l) lay.1 (by simpa [rowD, PyData.intsShort] using a2)
  have le := PyData.shown_le 16 (by decide) (rowD l) ls
  have w : (rowD l).weight ≤ 103 * 64 := by
    have : (rowD l).weight ≤ 103 * l.length := by simpa [rowD, PyData.weight] using a3
    omega
  have z20 := sz20
  have : (16 + 2) * (rowD l).weight ≤ 18 * (103 * 64) := Nat.mul_le_mul (Nat.le_refl _) w
  omega
theorem lay_end (l : Row) (o : List Nat) : Lay 3 (.tuple [rowD l, .tuple (o.map natD)]) := lay_tup (n := 2) fun x hx => by
  simp at hx
  rcases hx with rfl | rfl
  · exact lay_row l
  · refine ⟨(lay_tup (n := 0) (xs := o.map natD) fun x hx => ?_).1, Nat.le_trans (lay_tup (n := 0) (xs := o.map natD) fun x hx => ?_).2 (by decide)⟩
    all_goals
      obtain ⟨j, _, rfl⟩ := List.mem_map.mp hx
      exact lay_int
theorem eqv_self {n : Nat} {d : D} (h : Lay n d) : PyData.eqv d d = true := PySem.SeqAt.eqv_refl d h.1
/-! ### the text of a row is a text -/
theorem ok_of (s : String) : PyData.strOk (Str.ofString s) = true := by
  unfold PyData.strOk
  rw [Str.ofString_eq_toList]
  simp
  intro c _
  have := c.valid
  simp only [UInt32.isValidChar, Nat.isValidChar] at this
  show c.val.toNat < 1114112
  omega
theorem ok_app {x y : Str} (hx : PyData.strOk x = true) (hy : PyData.strOk y = true) : PyData.strOk (x ++ y) = true := by
  unfold PyData.strOk at hx hy ⊢
  show (x.cps ++ y.cps).all _ = true
  rw [Array.all_append, hx, hy]
  rfl
theorem ok_join : ∀ ts : List Str, (∀ t ∈ ts, PyData.strOk t = true) → PyData.strOk (Str.join ", " ts) = true
  | [], _ => ok_of ""
  | [x], h => h x (by simp)
  | x :: y :: r, h => ok_app (ok_app (h x (by simp)) (ok_of ", ")) (ok_join (y :: r) fun t ht => h t (List.mem_cons_of_mem _ ht))
theorem ok_tuple (ts : List Str) (h : ∀ t ∈ ts, PyData.strOk t = true) : PyData.strOk (tupleText ts) = true := ok_app (ok_app (ok_of "(") (ok_join ts h)) (by split <;> exact ok_of _)
theorem ok_pair (p : Int × Int) : PyData.strOk (pairD p).shown = true := by
  simp only [pairD, PyData.shown, PyData.shownAll]
  refine ok_tuple _ fun t ht => ?_
  simp at ht
  rcases ht with rfl | rfl <;> exact ok_of _
theorem ok_row (l : Row) : PyData.strOk (rowD l).shown = true := by
  simp only [rowD, PyData.shown]
  refine ok_tuple _ ?_
  induction l with
  | nil => intro t ht; cases ht
  | cons p r ih =>
    intro t ht
    simp only [List.map_cons, PyData.shownAll] at ht
    rcases List.mem_cons.mp ht with rfl | ht
    · exact ok_pair p
    · exact ih t ht
theorem shaped_repr (l : Row) : SeqAt.shaped (.str (rowD l).shown) = true := shaped_str (by simpa [PyData.canLay0] using ok_row l)
theorem dk_end {l : Row} {o : List Nat} (hl : l.length ≤ 1000) (ho : o.length ≤ 1000) : Dk 5 (.tuple [rowD l, .tuple (o.map natD)]) := by
  have z20 := sz20
  refine ⟨by simp; omega, fun x hx => ?_⟩
  simp at hx
  rcases hx with rfl | rfl
  · refine ⟨by simp; omega, fun x hx => ?_⟩
    obtain ⟨p, _, rfl⟩ := List.mem_map.mp hx
    refine ⟨by simp; omega, fun x hx => ?_⟩
    simp at hx
    rcases hx with rfl | rfl <;> trivial
  · refine ⟨by simp; omega, fun x hx => ?_⟩
    obtain ⟨p, _, rfl⟩ := List.mem_map.mp hx
    trivial
end TL
set_option Elab.async false
set_option linter.all false
set_option maxRecDepth 100000
set_option maxHeartbeats 4000000
namespace TL
open PySem PySem.Spec PyProof.Rows L2
/-! ### the ends, told once -/
theorem Ended.eq {l l1 : Row} {o : List Nat} (h0 : T0 l) (b : Ended l l1 o) : o = lastO l ∧ l1 = lastR l := by
  obtain ⟨w, t, ht, hr, hp, hI, e⟩ := b.ex
  obtain ⟨e1, e2⟩ := last_uniq h0 hr hp hI (term_pass (hp.nodup_iff.mpr List.nodup_range) (by rw [← e]; exact b.no))
  exact ⟨e1, by rw [e, e2]⟩
theorem Begun.eq {l l1 : Row} {o : List Nat} (h0 : T0 l) (b : Begun l l1 o) : o = firstO l ∧ l1 = firstR l := by
  obtain ⟨w, t, ht, hr, hp, hI, e⟩ := b.ex
  obtain ⟨e1, e2⟩ := first_uniq h0 hr hp hI (term_fall (hp.nodup_iff.mpr List.nodup_range) (by rw [← e]; exact b.no))
  exact ⟨e1, by rw [e, e2]⟩
noncomputable def lastD (l : Row) : D := .tuple [rowD (lastR l), .tuple ((lastO l).map natD)]
noncomputable def firstD (l : Row) : D := .tuple [rowD (firstR l), .tuple ((firstO l).map natD)]
def prL (ps : List (Nat × Nat)) : D := .list (ps.map prD)
theorem invP_first {l : Row} (h : T0 l) : (invP (firstO l)).Perm (fallL l) := invP_pairsU (firstO_spec h).1
theorem prD_eq (p : Nat × Nat) : PyData.tuple [natD p.1, natD p.2] = prD p := rfl
end TL
set_option Elab.async false
set_option linter.all false
set_option maxRecDepth 100000
set_option maxHeartbeats 4000000
namespace TL
open PySem PySem.Spec PyProof.Rows L2
/-! ### lists of pairs -/
theorem eqv_prD (p q : Nat × Nat) : PyData.eqv (prD p) (prD q) = decide (p = q) := by
  have e : decide (p = q) = (decide (p.1 = q.1) && decide (p.2 = q.2)) := by
    rw [Bool.eq_iff_iff]
    simp [Prod.ext_iff]
  rw [e]
  simp [prD, PyData.eqv, PyData.eqvAll]
  rw [Bool.eq_iff_iff]
  simp
  omega
theorem lay_prD (p : Nat × Nat) : Lay 1 (prD p) := lay_tup (n := 0) fun x hx => by
  simp at hx
  rcases hx with rfl | rfl <;> exact lay_int
theorem lay_prL (ps : List (Nat × Nat)) : Lay 2 (prL ps) := lay_list (n := 1) fun x hx => by
  obtain ⟨p, _, rfl⟩ := List.mem_map.mp hx
  exact lay_prD p
theorem eqv_prL : ∀ (ps qs : List (Nat × Nat)), PyData.eqv (prL ps) (prL qs) = decide (ps = qs)
  | [], [] => by simp [prL, PyData.eqv, PyData.eqvAll]
  | [], q :: qs => by simp [prL, PyData.eqv, PyData.eqvAll]
  | p :: ps, [] => by simp [prL, PyData.eqv, PyData.eqvAll]
  | p :: ps, q :: qs => by
    have ih := eqv_prL ps qs
    have h := eqv_prD p q
    have e : decide (p :: ps = q :: qs) = (decide (p = q) && decide (ps = qs)) := by
      rw [Bool.eq_iff_iff]
      simp
    rw [e, ← ih, ← h]
    simp [prL, PyData.eqv, PyData.eqvAll]
theorem any_prD (p : Nat × Nat) (ps : List (Nat × Nat)) : ((ps.map prD).any fun z => PyData.eqv z (prD p)) = decide (p ∈ ps) := by
  induction ps with
  | nil => rfl
  | cons q r ih =>
    rw [List.map_cons, List.any_cons, ih, eqv_prD, Bool.eq_iff_iff]
    simp
    constructor
    · rintro (h | h)
      · exact .inl h.symm
      · exact .inr h
    · rintro (h | h)
      · exact .inl h.symm
      · exact .inr h
@[simp] theorem mem_prL {neg : Bool} {p : Nat × Nat} {ps : List (Nat × Nat)} {P : D → Prop} : dMem neg (prD p) (prL ps) P ↔ P (.bool (if neg then !decide (p ∈ ps) else decide (p ∈ ps))) := by
  constructor
  · rintro ⟨ds, e, _, h⟩
    cases e
    rw [any_prD] at h
    exact h
  · intro h
    refine ⟨ps.map prD, rfl, ⟨(lay_prD p).shaped, (lay_prL ps).shaped⟩, ?_⟩
    rw [any_prD]
    exact h
@[simp] theorem items_prL {ps : List (Nat × Nat)} {P : List D → Prop} : dItems (prL ps) P ↔ P (ps.map prD) := by simp [prL]
@[simp] theorem len_prL {ps : List (Nat × Nat)} {P : D → Prop} : dLen (prL ps) P ↔ P (.int ps.length) := by simp [prL]
@[simp] theorem gT_prD {g : GMs} {p : Nat × Nat} {τ : Ev} {n : Nat} {R : Ev → Nat → Prop} : gT 2 g (prD p) τ n R ↔ g [.int (p.1 : Nat), .int (p.2 : Nat)] τ n R := by simp [prD]
@[simp] theorem ix_prD0 {p : Nat × Nat} {P : D → Prop} : dIx (prD p) (.int 0) P ↔ P (.int (p.1 : Nat)) := by simp [prD]
@[simp] theorem ix_prD1 {p : Nat × Nat} {P : D → Prop} : dIx (prD p) (.int 1) P ↔ P (.int (p.2 : Nat)) := by simp [prD]
@[simp] theorem cat_prL {ps qs : List (Nat × Nat)} {P : D → Prop} : dCatL (prL ps) (prL qs) P ↔ ps.length + qs.length ≤ sizeLine ∧ P (prL (ps ++ qs)) := by simp [prL]
theorem prL_list {xs : List D} {ps : List (Nat × Nat)} (h : xs = ps.map prD) : PyData.list xs = prL ps := by rw [h]; rfl
def castP (p : Nat × Nat) : Int × Int := ((p.1 : Int), (p.2 : Int))
theorem sort_pairs {ps qs : List (Nat × Nat)} {P : D → Prop} (h : ps.Perm qs) (hs : qs.Pairwise ltN) (hP : P (prL qs)) : dSort (prL ps) P := by
  refine .inr (.inl ⟨ps.map castP, by simp [prL, castP, prD, intP, Function.comp_def], fun ps' hp hsrt => ?_⟩)
  have e : ps' = qs.map castP := by
    refine sorted_uniq (R := fun p q => SrtO.lexB q p = false) (fun x y h1 h2 => ?_) (hp.trans (h.map castP)) hsrt ?_
    · have a := SrtO.lexB_no.mp h1
      have b := SrtO.lexB_no.mp h2
      apply Prod.ext <;> omega
    · rw [List.pairwise_map]
      refine List.Pairwise.imp ?_ hs
      intro a b hab
      refine SrtO.lexB_no.mpr ?_
      unfold ltN at hab
      simp only [castP]
      omega
  rw [e]
  have : PyData.list ((qs.map castP).map intP) = prL qs := by simp [prL, castP, prD, intP, Function.comp_def]
  rw [this]
  exact hP
theorem passL_sorted (l : Row) : (passL l).Pairwise ltN := pairsU_sorted _ _
theorem fallL_sorted (l : Row) : (fallL l).Pairwise ltN := pairsU_sorted _ _
theorem passL_len (l : Row) : (passL l).length ≤ l.length * l.length := by
  have : ∀ n f, (pairsU n f).length ≤ n * n := fun n f => by
    unfold pairsU
    rw [List.length_flatMap]
    have : ∀ xs : List Nat, (xs.map fun i => (((List.range (n - (i + 1))).filter fun j => f i (i + 1 + j)).map fun j => (i, i + 1 + j)).length).sum ≤ xs.length * n := fun xs => by
      induction xs with
      | nil => simp
      | cons x r ih =>
        have h1 : (((List.range (n - (x + 1))).filter fun j => f x (x + 1 + j)).map fun j => (x, x + 1 + j)).length ≤ n := by
          rw [List.length_map]
          refine Nat.le_trans (List.length_filter_le _ _) ?_
          rw [List.length_range]
          omega
        rw [List.map_cons, List.sum_cons, List.length_cons, Nat.add_mul]
        omega
    have := this (List.range n)
    rwa [List.length_range] at this
  exact this _ _
theorem dkL_prL {ps : List (Nat × Nat)} (h : ps.length ≤ sizeLine) (Dk : D → Prop) (hp : ∀ p, Dk (prD p)) : ps.length ≤ sizeLine ∧ ∀ x ∈ ps.map prD, Dk x := ⟨h, fun x hx => by
  obtain ⟨p, _, rfl⟩ := List.mem_map.mp hx
  exact hp p⟩
theorem dk_prD {k : Nat} (p : Nat × Nat) : Dk (k + 2) (prD p) := by
  have z20 := sz20
  refine ⟨by simp; omega, fun x hx => ?_⟩
  simp at hx
  rcases hx with rfl | rfl <;> trivial
theorem dk_prL {k : Nat} {ps : List (Nat × Nat)} (h : ps.length ≤ 1000000) : Dk (k + 3) (prL ps) := by
  have z20 := sz20
  refine ⟨by simp; omega, fun x hx => ?_⟩
  obtain ⟨p, _, rfl⟩ := List.mem_map.mp hx
  exact dk_prD p
@[simp] theorem atI_2 {α : Type} {x y z : α} {xs : List α} : atI (x :: y :: z :: xs) 2 = some z := by rw [atI_nat _ (by decide)]; rfl
@[simp] theorem atI_3 {α : Type} {x y z u : α} {xs : List α} : atI (x :: y :: z :: u :: xs) 3 = some u := by rw [atI_nat _ (by decide)]; rfl
@[simp] theorem eqv_prL_nil {ps : List (Nat × Nat)} : PyData.eqv (prL ps) (.list []) = ps.isEmpty := by simp [prL]
@[simp] theorem shaped_prL {ps : List (Nat × Nat)} : SeqAt.shaped (prL ps) = true := (lay_prL ps).shaped
@[simp] theorem shaped_prD {p : Nat × Nat} : SeqAt.shaped (prD p) = true := (lay_prD p).shaped
/-! ### comprehensions that draw -/
theorem lc_inv {g : GM} {c : CM} {me : EM} {τw : Ev} (I : Nat → List D → Nat → Prop) : ∀ (items : List D) (k : Nat) (acc : List D) (n : Nat) (Q : D → Nat → Prop), I k acc n →
    (∀ (i : Nat) (x : D), items[i]? = some x → ∀ (acc : List D) (n : Nat) (N : List D → Nat → Prop), I (k + i) acc n → (∀ acc n, I (k + i + 1) acc n → N acc n) → g x τw n fun τ1 n1 => c τ1 n1 fun b n2 => if b = true then me τ1 n2 fun d n3 => acc.length < sizeLine ∧ N (acc ++ [d]) n3 else N acc n2) →
    (∀ acc n, I (k + items.length) acc n → Q (.list acc) n) → lcD g c me τw items acc n Q
  | [], k, acc, n, Q, h0, _, hd => hd acc n h0
  | x :: r, k, acc, n, Q, h0, hs, hd => hs 0 x rfl acc n (fun acc n => lcD g c me τw r acc n Q) h0 fun acc' n' h1 => lc_inv I r (k + 1) acc' n' Q h1 (fun i y e acc n N h hN => hs (i + 1) y e acc n N (by rw [show k + (i + 1) = k + 1 + i by omega]; exact h) fun acc n z => hN acc n (by rw [show k + 1 + i + 1 = k + (i + 1) + 1 by omega]; exact z)) fun acc n h => hd acc n (by rw [List.length_cons, show k + (r.length + 1) = k + 1 + r.length by omega]; exact h)
end TL
set_option Elab.async false
set_option linter.all false
set_option maxRecDepth 100000
set_option maxHeartbeats 4000000
namespace TL
open PySem PySem.Spec PyProof.Rows L2
theorem big_cap : 10 ^ 12 < cap := by decide +kernel
theorem pow_ok {k : Nat} (h : k ≤ 20) : CPowB 10 (k : Int) := by
  refine ⟨by omega, ?_⟩
  have : Builtin.Int.intBits 10 = 4 := by decide +kernel
  rw [this]
  omega
theorem orC {c A B : Prop} (h1 : ¬ c → A) (h2 : c → B) : (¬ c ∧ A) ∨ (c ∧ B) := by
  by_cases h : c
  · exact .inr ⟨h, h2 h⟩
  · exact .inl ⟨h, h1 h⟩
theorem sort_ints {ns : List Int} {P : D → Prop} (hs : ns.Pairwise (· ≤ ·)) (hP : P (.list (ns.map .int))) : dSort (.list (ns.map .int)) P := by
  refine .inl ⟨ns, rfl, fun ns' hp hs' => ?_⟩
  rw [sorted_uniq (R := fun x y : Int => x ≤ y) (fun x y h1 h2 => by omega) hp hs' hs]
  exact hP
theorem ne_self {n : Nat} {d : D} {P : D → Prop} (h : Lay n d) (hP : P (.bool false)) (hn : n ≤ 64 := by decide) : dNe d d P := ⟨⟨h.shaped hn, h.shaped hn⟩, by rw [eqv_self h]; exact hP⟩
theorem eq_self {n : Nat} {d : D} {P : D → Prop} (h : Lay n d) (hP : P (.bool true)) (hn : n ≤ 64 := by decide) : dEq d d P := ⟨⟨h.shaped hn, h.shaped hn⟩, by rw [eqv_self h]; exact hP⟩
theorem lay_nats (o : List Nat) : Lay 1 (.tuple (o.map natD)) := lay_tup (n := 0) fun x hx => by
  obtain ⟨j, _, rfl⟩ := List.mem_map.mp hx
  exact lay_int
@[simp] theorem shaped_rowD {l : Row} : SeqAt.shaped (rowD l) = true := (lay_row l).shaped
@[simp] theorem eqv_rowD {l : Row} : PyData.eqv (rowD l) (rowD l) = true := eqv_self (lay_row l)
@[simp] theorem shaped_nats' {o : List Nat} : SeqAt.shaped (.tuple (o.map natD)) = true := (lay_nats o).shaped
@[simp] theorem eqv_nats' {o : List Nat} : PyData.eqv (.tuple (o.map natD)) (.tuple (o.map natD)) = true := eqv_self (lay_nats o)
theorem lay_ints (ns : List Int) : Lay 1 (.list (ns.map .int)) := lay_list (n := 0) fun x hx => by
  obtain ⟨j, _, rfl⟩ := List.mem_map.mp hx
  exact lay_int
@[simp] theorem shaped_ints {ns : List Int} : SeqAt.shaped (.list (ns.map .int)) = true := (lay_ints ns).shaped
@[simp] theorem eqv_ints {ns : List Int} : PyData.eqv (.list (ns.map .int)) (.list (ns.map .int)) = true := eqv_self (lay_ints ns)
@[simp] theorem items_rowD {l : Row} {P : List D → Prop} : dItems (rowD l) P ↔ P (l.map pairD) := by simp [rowD]
def notIn (ps qs : List (Nat × Nat)) : List (Nat × Nat) := ps.filter fun p => !decide (p ∈ qs)
theorem lc_notIn {ps qs : List (Nat × Nat)} {i j : Nat} {τ : Ev} {n : Nat} {Q : D → Nat → Prop} (hi : i < τ.length) (hij : i ≠ j) (hq : τ[j]? = some (some (.d (prL qs)))) (hl : ps.length ≤ 1000000) (h : Q (prL (notIn ps qs)) n) :
    lcD (gN i) (mT (m2 (dMem true) (mVar i) (mVar j))) (mVar i) τ (ps.map prD) [] n Q := by
  have z20 := sz20
  refine lc_map prD (fun p => τ.set i (some (.d (prD p)))) (fun p => !decide (p ∈ qs)) prD ps (fun a ha n R r => by simpa using r) (fun a ha n R r => ?_) (fun a ha _ n R r => ?_) [] n Q (by simp; omega) (by simpa [prL, notIn] using h)
  · simp [List.getElem?_set, hi, hij, hq]
    by_cases e : a ∈ qs
    · exact .inl ⟨e, by simpa [e] using r⟩
    · exact .inr ⟨e, by simpa [e] using r⟩
  · simpa [List.getElem?_set, hi] using r
theorem passL_len2 {l : Row} (h : l.length ≤ 300) : (passL l).length ≤ 90000 := by
  have q1 := passL_len l
  have q3 : l.length * l.length ≤ 300 * 300 := Nat.mul_le_mul h h
  omega
theorem notIn_nil {ps qs : List (Nat × Nat)} (h : ∀ p ∈ ps, p ∈ qs) : notIn ps qs = [] := by
  unfold notIn
  rw [List.filter_eq_nil_iff]
  intro p hp
  simp [h p hp]
theorem notIn_len {ps qs : List (Nat × Nat)} : (notIn ps qs).length ≤ ps.length := List.length_filter_le _ _
theorem nats_get {ws : List Nat} {i : Nat} {x : D} (h : (ws.map natD)[i]? = some x) : ∃ w ∈ ws, x = natD w := by
  rw [List.getElem?_map] at h
  cases e : ws[i]? with
  | none => rw [e] at h; cases h
  | some w =>
    rw [e] at h
    cases h
    exact ⟨w, List.mem_of_getElem? e, rfl⟩
end TL
set_option Elab.async false
set_option linter.all false
set_option maxRecDepth 100000
set_option maxHeartbeats 4000000
namespace TL
open PySem PySem.Spec PyProof.Rows L2
/-! ### never -/
theorem nvF_bar (l : Row) (i : Nat) : ∀ k, (nvF l i k).1 = barN l i k
  | 0 => rfl
  | k + 1 => by
    have e : nvG l (i + 1 + k) = gR l (i + 1 + k) := rfl
    simp only [nvF, barN, nvF_bar l i k, e]
    split
    · rfl
    · exact nvF_bar l i k
def nvL (l : Row) (i : Nat) (k : Nat) : List Nat := (List.range' (i + 1) k).filter fun j => !Pv l i j
theorem nvF_list (l : Row) (i : Nat) : ∀ k, (nvF l i k).2 = nvL l i k
  | 0 => rfl
  | k + 1 => by
    have e : nvG l (i + 1 + k) = gR l (i + 1 + k) := rfl
    have ep : Pv l i (i + 1 + k) = decide (barN l i k < (gR l (i + 1 + k)).1) := by
      unfold Pv
      rw [show i + 1 + k - (i + 1) = k by omega]
    unfold nvL
    rw [List.range'_1_concat, List.filter_append, nvF, nvF_bar, e, nvF_list l i k]
    by_cases h : (gR l (i + 1 + k)).1 ≤ barN l i k
    · rw [if_pos h, List.filter_cons_of_pos (by rw [ep]; simp; exact h)]
      rfl
    · rw [if_neg h, List.filter_cons_of_neg (by rw [ep]; simp; omega), List.filter_nil, List.append_nil]
      exact nvF_list l i k
/-- those behind one that never pass it -/
def nvRow (l : Row) (i : Nat) : List Nat := nvL l i (l.length - (i + 1))
theorem mem_nvRow {l : Row} {i j : Nat} : j ∈ nvRow l i ↔ i < j ∧ j < l.length ∧ Pv l i j = false := by
  unfold nvRow nvL
  rw [List.mem_filter, List.mem_range'_1]
  constructor
  · rintro ⟨h1, h2⟩
    exact ⟨by omega, by omega, by simpa using h2⟩
  · rintro ⟨h1, h2, h3⟩
    exact ⟨by omega, by simp [h3]⟩
theorem nvT_eq (l : Row) : nvT l = (List.range l.length).map (nvRow l) := List.map_congr_left fun i _ => nvF_list l i _
def natsL (xs : List Nat) : D := .list (xs.map natD)
def neverD (l : Row) : D := .list ((List.range l.length).map fun i => natsL (nvRow l i))
theorem nvTD_eq (l : Row) : nvTD l = neverD l := by
  unfold nvTD neverD
  rw [nvT_eq, List.map_map]
  rfl
theorem never_ok {l : Row} {n : Nat} {P : D → Nat → Prop} {PX : XE → Nat → Prop} (hl : l.length ≤ 1000) (h : P (neverD l) n) : fNever [.d (rowD l)] n P PX := ⟨l, rfl, hl, by rw [nvTD_eq]; exact h⟩
theorem ix_never {l : Row} {i : Nat} {P : D → Prop} (hi : i < l.length) : dIx (neverD l) (.int (i : Nat)) P ↔ P (natsL (nvRow l i)) := by
  unfold neverD
  rw [dIx_L, atI_nat _ (by omega)]
  simp [hi]
theorem lay_natsL (xs : List Nat) : Lay 1 (natsL xs) := lay_list (n := 0) fun x hx => by
  obtain ⟨j, _, rfl⟩ := List.mem_map.mp hx
  exact lay_int
theorem any_natD (j : Nat) (xs : List Nat) : ((xs.map natD).any fun z => PyData.eqv z (.int (j : Nat))) = decide (j ∈ xs) := by
  induction xs with
  | nil => rfl
  | cons x r ih =>
    rw [List.map_cons, List.any_cons, ih]
    have e : PyData.eqv (natD x) (.int (j : Nat)) = decide (j = x) := by
      unfold natD
      rw [eqv_int, Bool.eq_iff_iff]
      simp
      omega
    rw [e, Bool.eq_iff_iff]
    simp
@[simp] theorem mem_natsL {neg : Bool} {j : Nat} {xs : List Nat} {P : D → Prop} : dMem neg (.int (j : Nat)) (natsL xs) P ↔ P (.bool (if neg then !decide (j ∈ xs) else decide (j ∈ xs))) := by
  constructor
  · rintro ⟨ds, e, _, h⟩
    cases e
    rw [any_natD] at h
    exact h
  · intro h
    refine ⟨xs.map natD, rfl, ⟨rfl, (lay_natsL xs).shaped⟩, ?_⟩
    rw [any_natD]
    exact h
theorem nvRow_sorted (l : Row) (i : Nat) : (nvRow l i).Pairwise (· < ·) := List.Pairwise.filter _ (List.pairwise_lt_range')
theorem nvRow_ctx {A M B : Row} {i : Nat} (hi : i < M.length) : ((nvRow (A ++ M ++ B) (A.length + i)).filter fun k => decide (k < A.length + M.length)).map (fun k => k - A.length) = nvRow M i := by
  have s1 : (((nvRow (A ++ M ++ B) (A.length + i)).filter fun k => decide (k < A.length + M.length)).map (fun k => k - A.length)).Pairwise (· < ·) := by
    rw [List.pairwise_map]
    refine List.Pairwise.imp_of_mem ?_ (List.Pairwise.filter _ (nvRow_sorted _ _))
    intro p q hp hq h
    have := mem_nvRow.mp (List.mem_filter.mp hp).1
    have := mem_nvRow.mp (List.mem_filter.mp hq).1
    omega
  have s2 := nvRow_sorted M i
  refine sorted_uniq (R := fun x y => x < y) (fun x y h1 h2 => by omega) (perm_of_mem (nodup_of_lt (fun _ => Nat.lt_irrefl _) s1) (nodup_of_lt (fun _ => Nat.lt_irrefl _) s2) fun j => ?_) s1 s2
  rw [mem_nvRow, List.mem_map]
  constructor
  · rintro ⟨k, hk, rfl⟩
    obtain ⟨h1, h2⟩ := List.mem_filter.mp hk
    rw [mem_nvRow] at h1
    simp at h2
    obtain ⟨j, ej⟩ : ∃ j, k = A.length + j := ⟨k - A.length, by omega⟩
    have h3 := h1.2.2
    rw [ej, Pv_ctx (by omega) (by omega)] at h3
    rw [show k - A.length = j by omega]
    exact ⟨by omega, by omega, h3⟩
  · rintro ⟨h1, h2, h3⟩
    refine ⟨A.length + j, List.mem_filter.mpr ⟨?_, by simp; omega⟩, by omega⟩
    rw [mem_nvRow]
    exact ⟨by omega, by simp; omega, by rw [Pv_ctx h1 h2]; exact h3⟩
theorem cut_mid {α : Type} {A M B : List α} : cutG (A ++ M ++ B) (some ((A.length : Nat) : Int)) (some (((A.length + M.length : Nat)) : Int)) = M := by
  unfold cutG
  rw [HT.sIx_nat, HT.sIx_nat]
  rw [Nat.min_eq_left (by simp), Nat.min_eq_left (by simp)]
  rw [List.append_assoc, List.drop_left, show A.length + M.length - A.length = M.length by omega, List.take_left]
theorem cut_nat {α : Type} {xs : List α} {b e : Nat} (h : b ≤ e) (he : e ≤ xs.length) : cutG xs (some ((b : Nat) : Int)) (some ((e : Nat) : Int)) = (xs.drop b).take (e - b) := by
  unfold cutG
  rw [HT.sIx_nat, HT.sIx_nat, Nat.min_eq_left (by omega), Nat.min_eq_left (by omega)]
theorem slL_never {l : Row} {b e : Nat} {P : D → Prop} (h : b ≤ e) (he : e ≤ l.length) : dSlL (neverD l) (some ((b : Nat) : Int)) (some ((e : Nat) : Int)) P ↔ P (.list ((List.range (e - b)).map fun i => natsL (nvRow l (b + i)))) := by
  unfold neverD
  rw [dSlL_L, cut_nat h (by simpa using he)]
  have : ((List.map (fun i => natsL (nvRow l i)) (List.range l.length)).drop b).take (e - b) = (List.range (e - b)).map fun i => natsL (nvRow l (b + i)) := by
    apply List.ext_getElem?
    intro i
    rw [List.getElem?_take, List.getElem?_drop]
    by_cases hi : i < e - b
    · rw [if_pos hi, List.getElem?_map, List.getElem?_map, List.getElem?_range (by omega), List.getElem?_range hi]
      rfl
    · rw [if_neg hi, List.getElem?_eq_none (by simp; omega)]
  rw [this]
theorem slT_mid {A M B : Row} {P : D → Prop} {i j : Int} (hi : i = ((A.length : Nat) : Int)) (hj : j = (((A.length + M.length : Nat)) : Int)) : dSlT (rowD (A ++ M ++ B)) (some i) (some j) P ↔ P (rowD M) := by
  subst hi hj
  have := cut_mid (A := A.map pairD) (M := M.map pairD) (B := B.map pairD)
  simp only [List.length_map] at this
  simp only [rowD, dSlT_T, List.map_append, this]
theorem slT_to {l : Row} {P : D → Prop} {i : Int} (h : 0 ≤ i) : dSlT (rowD l) none (some i) P ↔ P (rowD (l.take i.toNat)) := by simp [rowD, cut_to h]
theorem slT_from {l : Row} {P : D → Prop} {i : Int} (h : 0 ≤ i) : dSlT (rowD l) (some i) none P ↔ P (rowD (l.drop i.toNat)) := by simp [rowD, cut_from h]
theorem row_split (l : Row) {b e : Nat} (h : b ≤ e) (he : e ≤ l.length) : ∃ A M B, l = A ++ M ++ B ∧ A.length = b ∧ M.length = e - b := by
  refine ⟨l.take b, (l.drop b).take (e - b), l.drop e, ?_, by simp; omega, by simp; omega⟩
  have : l.drop e = (l.drop b).drop (e - b) := by rw [List.drop_drop]; congr 1; omega
  rw [this, List.append_assoc, List.take_append_drop, List.take_append_drop]
theorem RowOk.snoc {S T : Int} {l : Row} {a b : Int} (ok : RowOk S T l) (ha : -S ≤ a ∧ a ≤ S) (hb : 0 ≤ b ∧ b ≤ T) : RowOk S T (l ++ [(a, b)]) := by
  constructor
  · intro p hp
    rcases List.mem_append.mp hp with hp | hp
    · exact ok.s p hp
    · have : p = (a, b) := by simpa using hp
      subst this
      exact ha
  · intro p hp
    rcases List.mem_append.mp hp with hp | hp
    · exact ok.t p hp
    · have : p = (a, b) := by simpa using hp
      subst this
      exact hb
end TL
set_option Elab.async false
set_option linter.all false
set_option maxRecDepth 100000
set_option maxHeartbeats 4000000
namespace TL
open PySem PySem.Spec PyProof.Rows L2
/-! ### rows joined -/
@[simp] theorem tuple_row {l : Row} {P : D → Prop} : dTuple (rowD l) P ↔ P (rowD l) := by simp [rowD]
theorem lastR_nil : lastR [] = [] := List.length_eq_zero_iff.mp (lastR_len (l := []) fun p hp => by cases hp)
theorem lastR_app {X Y : Row} (hX : T0 X) (hY : T0 Y) : lastR (lastR X ++ Y) = lastR (X ++ Y) := by
  have := (piece_end (A := []) (M := X) (B := Y) (fun p hp => by cases hp) hX hY).1
  simpa using this
theorem t0_last {X : Row} (h : T0 X) : T0 (lastR X) := by
  obtain ⟨ds, g, _, _⟩ := led_last h
  exact g.t0 h
theorem t0_flat {rs : List Row} (h : ∀ r ∈ rs, T0 r) : T0 rs.flatten := fun p hp => by
  obtain ⟨r, hr, hp⟩ := List.mem_flatten.mp hp
  exact h r hr p hp
def rowsL (rs : List Row) : List D := rs.map rowD
def acrossL (a : Nat) (ps : List (Nat × Nat)) : List (Nat × Nat) := (ps.filter fun p => decide (p.1 < a) && decide (a ≤ p.2)).map fun p => (p.1, p.2 - a)
theorem acrossL_len {a : Nat} {ps : List (Nat × Nat)} : (acrossL a ps).length ≤ ps.length := by
  unfold acrossL
  rw [List.length_map]
  exact List.length_filter_le _ _
@[simp] theorem slOf_prL {ps : List (Nat × Nat)} : slOf .nw (prL ps) = .ow (ps.map prD) := rfl
theorem slT_cut {l : Row} {b e : Nat} {P : D → Prop} (hbe : b ≤ e) (he : e ≤ l.length) : dSlT (rowD l) (some (b : Int)) (some (e : Int)) P ↔ P (rowD ((l.take e).drop b)) := by
  obtain ⟨A, M, B, hABM, hA, hM⟩ := row_split l (b := b) (e := e) hbe he
  have eM : (l.take e).drop b = M := by
    have : e = (A ++ M).length := by simp; omega
    rw [hABM, this, List.take_left, ← hA, List.drop_left]
  rw [eM, hABM]
  exact slT_mid (by rw [hA]) (by omega)
theorem dk_row {k : Nat} {l : Row} (hl : l.length ≤ 1000) : Dk (k + 3) (rowD l) := by
  have z20 := sz20
  refine ⟨by simp; omega, fun x hx => ?_⟩
  obtain ⟨p, _, rfl⟩ := List.mem_map.mp hx
  refine ⟨by simp; omega, fun x hx => ?_⟩
  simp at hx
  rcases hx with rfl | rfl <;> trivial
theorem dk_list {k : Nat} {xs : List D} (hl : xs.length ≤ 1000) (h : ∀ x ∈ xs, Dk k x) : Dk (k + 1) (.list xs) := by
  have z20 := sz20
  exact ⟨by omega, h⟩
end TL
set_option Elab.async false
set_option linter.all false
set_option maxRecDepth 100000
set_option maxHeartbeats 4000000
namespace TL
section
theorem idx_map {o : List Nat} {g : Nat → Nat} (hn : (o.map g).Nodup) {x : Nat} (hx : x ∈ o) : (o.map g).idxOf (g x) = o.idxOf x :=
  idx_get hn (by rw [List.getElem?_map, get_idx hx]; rfl)
theorem ah_map {o : List Nat} {g : Nat → Nat} (hn : (o.map g).Nodup) {x y : Nat} (hx : x ∈ o) (hy : y ∈ o) : ah (o.map g) (g x) (g y) = ah o x y := by
  unfold ah
  rw [idx_map hn hx, idx_map hn hy]
theorem gO_inj {o : List Nat} (hn : o.Nodup) {j k : Nat} (hj : j < o.length) (hk : k < o.length) (e : gO o j = gO o k) : j = k := by
  rw [← idx_get hn (get_gO hj), ← idx_get hn (get_gO hk), e]
theorem gO_left {X Y : List Nat} {k : Nat} (h : k < X.length) : gO (X ++ Y) k = gO X k := by simp [gO, List.getElem?_append_left h]
theorem gO_right {X Y : List Nat} {k : Nat} : gO (X ++ Y) (X.length + k) = gO Y k := by simp [gO, List.getElem?_append_right]
theorem gO_range' {a n k : Nat} (h : k < n) : gO (List.range' a n) k = a + k := by simp [gO, h]
theorem gO_range {n k : Nat} (h : k < n) : gO (List.range n) k = k := by simp [gO, h]
def joinO (o1 o2 : List Nat) : List Nat := (ctxO o1.length o2 0).map (gO (ctxO 0 o1 o2.length))
theorem joinO_left {o1 o2 : List Nat} {a : Nat} (h : a < o1.length) : gO (joinO o1 o2) a = gO o1 a := by
  unfold joinO
  have e1 : gO (ctxO o1.length o2 0) a = a := by
    unfold ctxO
    rw [List.append_assoc, gO_left (by simpa using h), gO_range h]
  rw [gO_map (by simp [ctxO]; omega), e1]
  unfold ctxO
  rw [gO_left (by simp; omega), List.range_zero, List.nil_append, gO_map h]
  simp
theorem joinO_right {o1 o2 : List Nat} {b : Nat} (h : b < o2.length) (hv : gO o2 b < o2.length) : gO (joinO o1 o2) (o1.length + b) = o1.length + gO o2 b := by
  unfold joinO
  have e1 : gO (ctxO o1.length o2 0) (o1.length + b) = o1.length + gO o2 b := by
    unfold ctxO
    rw [gO_left (by simp; omega)]
    have := gO_right (X := List.range o1.length) (Y := o2.map (o1.length + ·)) (k := b)
    rw [List.length_range] at this
    rw [this, gO_map h]
  rw [gO_map (by simp [ctxO]; omega), e1]
  unfold ctxO
  have := gO_right (X := List.range 0 ++ o1.map (0 + ·)) (Y := List.range' (0 + o1.length) o2.length) (k := gO o2 b)
  simp only [List.length_append, List.length_range, List.length_map, Nat.zero_add] at this ⊢
  rw [this, gO_range' hv]
theorem Led.join {l1 l1' l2 l2' : Row} {o1 o2 : List Nat} {ds1 ds2 : List (Bool × Nat)} (h1 : Led l1 l1' o1 ds1) (h2 : Led l2 l2' o2 ds2) : ∃ ds, Led (l1 ++ l2) (l1' ++ l2') (joinO o1 o2) ds := by
  obtain ⟨a1, a2⟩ := h1.len
  obtain ⟨b1, b2⟩ := h2.len
  obtain ⟨da, LA, _⟩ := h1.ctx [] l2
  obtain ⟨db, LB, _⟩ := h2.ctx l1' []
  simp only [List.nil_append, List.append_nil, List.length_nil] at LA LB
  have := LA.trans LB
  rw [a1, ← a2, ← b2] at this
  exact ⟨_, this⟩
theorem mem_across {l1 l2 : Row} {p : Nat × Nat} : p ∈ acrossL l1.length (passL (l1 ++ l2)) ↔ p.1 < l1.length ∧ p.2 < l2.length ∧ Pv (l1 ++ l2) p.1 (l1.length + p.2) = true := by
  unfold acrossL
  rw [List.mem_map]
  constructor
  · rintro ⟨q, hq, rfl⟩
    obtain ⟨h1, h2⟩ := List.mem_filter.mp hq
    rw [passL_mem, List.length_append] at h1
    simp at h2
    refine ⟨h2.1, by dsimp only; omega, ?_⟩
    dsimp only
    rw [show l1.length + (q.2 - l1.length) = q.2 by omega]
    exact h1.2.2
  · rintro ⟨h1, h2, h3⟩
    refine ⟨(p.1, l1.length + p.2), List.mem_filter.mpr ⟨?_, by simp [h1]⟩, by simp⟩
    rw [passL_mem, List.length_append]
    exact ⟨by dsimp only; omega, by dsimp only; omega, h3⟩
theorem across_sorted {a : Nat} {l : Row} : (acrossL a (passL l)).Pairwise ltN := by
  unfold acrossL
  rw [List.pairwise_map]
  refine List.Pairwise.imp_of_mem ?_ (List.Pairwise.filter _ (pairsU_sorted _ _))
  intro p q hp hq h
  obtain ⟨_, h1⟩ := List.mem_filter.mp hp
  obtain ⟨_, h2⟩ := List.mem_filter.mp hq
  simp at h1 h2
  unfold ltN at h ⊢
  dsimp only
  omega
theorem across_nodup {a : Nat} {l : Row} : (acrossL a (passL l)).Nodup := nodup_of_lt (fun _ => ltN_irr) across_sorted
theorem across_led {l1 l1' l2 l2' : Row} {o1 o2 : List Nat} {ds1 ds2 : List (Bool × Nat)} (t1 : T0 l1) (t2 : T0 l2) (h1 : Led l1 l1' o1 ds1) (h2 : Led l2 l2' o2 ds2) :
    ((acrossL l1.length (passL (l1' ++ l2'))).map fun p => (gO o1 p.1, gO o2 p.2)).Perm (acrossL l1.length (passL (l1 ++ l2))) := by
  obtain ⟨a1, a2⟩ := h1.len
  obtain ⟨b1, b2⟩ := h2.len
  have t1' := h1.t0 t1
  have t2' := h2.t0 t2
  have tt : T0 (l1 ++ l2) := t0_app.mpr ⟨t1, t2⟩
  have tt' : T0 (l1' ++ l2') := t0_app.mpr ⟨t1', t2'⟩
  obtain ⟨ds, L⟩ := h1.join h2
  have cl := led_class tt L
  have p1 := h1.perm
  have p2 := h2.perm
  have n1 : o1.Nodup := p1.nodup_iff.mpr List.nodup_range
  have n2 : o2.Nodup := p2.nodup_iff.mpr List.nodup_range
  have ltl : ∀ {k}, k < l1.length → gO o1 k < l1.length := fun {k} hk => gO_lt p1 hk
  have ltr : ∀ {k}, k < l2.length → gO o2 k < l2.length := fun {k} hk => gO_lt p2 hk
  have spec := (lastO_spec tt).1
  have spec' := (lastO_spec tt').1
  have nod : ((TL.lastO (l1' ++ l2')).map (gO (joinO o1 o2))).Nodup := by
    rw [cl.lastO]
    exact spec.nodup_iff.mpr List.nodup_range
  have key : ∀ {a b : Nat}, a < l1.length → b < l2.length → Pv (l1' ++ l2') a (l1.length + b) = Pv (l1 ++ l2) (gO o1 a) (l1.length + gO o2 b) := fun {a b} ha hb => by
    have q1 := ltl ha
    have q2 := ltr hb
    rw [← ah_Pv tt' _ (by omega) (by rw [List.length_append]; omega), ← ah_Pv tt _ (by omega) (by rw [List.length_append]; omega)]
    have m1 : a ∈ TL.lastO (l1' ++ l2') := spec'.mem_iff.mpr (by simp; omega)
    have m2 : l1.length + b ∈ TL.lastO (l1' ++ l2') := spec'.mem_iff.mpr (by simp; omega)
    rw [← ah_map nod m2 m1, cl.lastO, joinO_left (a := a) (by omega)]
    have := joinO_right (o1 := o1) (o2 := o2) (b := b) (by omega) (by omega)
    rw [a2] at this
    rw [this]
  refine perm_of_mem ?_ across_nodup fun p => ?_
  · unfold List.Nodup
    rw [List.pairwise_map]
    refine List.Pairwise.imp_of_mem ?_ across_nodup
    intro p q hp hq hne e
    rw [← a1] at hp hq
    have hp := mem_across.mp hp
    have hq := mem_across.mp hq
    have e1 := congrArg Prod.fst e
    have e2 := congrArg Prod.snd e
    dsimp only at e1 e2
    exact hne (Prod.ext (gO_inj n1 (by omega) (by omega) e1) (gO_inj n2 (by omega) (by omega) e2))
  · rw [mem_across, List.mem_map]
    constructor
    · rintro ⟨q, hq, rfl⟩
      rw [← a1] at hq
      obtain ⟨q1, q2, q3⟩ := mem_across.mp hq
      rw [a1] at q1 q3
      rw [b1] at q2
      rw [key q1 q2] at q3
      exact ⟨ltl q1, ltr q2, q3⟩
    · rintro ⟨q1, q2, q3⟩
      have m1 : p.1 ∈ o1 := p1.mem_iff.mpr (by simpa using q1)
      have m2 : p.2 ∈ o2 := p2.mem_iff.mpr (by simpa using q2)
      have g1 := get_idx m1
      have g2 := get_idx m2
      have k1 : o1.idxOf p.1 < o1.length := (List.getElem?_eq_some_iff.mp g1).1
      have k2 : o2.idxOf p.2 < o2.length := (List.getElem?_eq_some_iff.mp g2).1
      have v1 : gO o1 (o1.idxOf p.1) = p.1 := by rw [get_gO k1] at g1; exact Option.some.inj g1
      have v2 : gO o2 (o2.idxOf p.2) = p.2 := by rw [get_gO k2] at g2; exact Option.some.inj g2
      refine ⟨(o1.idxOf p.1, o2.idxOf p.2), ?_, by dsimp only; rw [v1, v2]⟩
      rw [← a1]
      refine mem_across.mpr ⟨by dsimp only; omega, by dsimp only; omega, ?_⟩
      dsimp only
      rw [a1, key (by omega) (by omega), v1, v2]
      exact q3
/-! ### a joined row's passings, told apart -/
theorem join_split {l1 l2 : Row} : ((passL l1 ++ (passL l2).map fun p => (p.1 + l1.length, p.2 + l1.length)) ++ (acrossL l1.length (passL (l1 ++ l2))).map fun p => (p.1, p.2 + l1.length)).Perm (passL (l1 ++ l2)) := by
  have c1 : ∀ {i j : Nat}, i < j → j < l1.length → Pv (l1 ++ l2) i j = Pv l1 i j := fun {i j} hij hj => by
    have := Pv_ctx (A := []) (M := l1) (B := l2) hij hj
    simpa using this
  have c2 : ∀ {i j : Nat}, i < j → j < l2.length → Pv (l1 ++ l2) (l1.length + i) (l1.length + j) = Pv l2 i j := fun {i j} hij hj => by
    have := Pv_ctx (A := l1) (M := l2) (B := []) hij hj
    simpa using this
  have inj1 : ((passL l2).map fun p => (p.1 + l1.length, p.2 + l1.length)).Nodup := by
    unfold List.Nodup
    rw [List.pairwise_map]
    refine List.Pairwise.imp ?_ (pairsU_nodup _ _)
    intro p q hne e
    have e1 := congrArg Prod.fst e
    have e2 := congrArg Prod.snd e
    dsimp only at e1 e2
    exact hne (Prod.ext (by omega) (by omega))
  have inj2 : ((acrossL l1.length (passL (l1 ++ l2))).map fun p => (p.1, p.2 + l1.length)).Nodup := by
    unfold List.Nodup
    rw [List.pairwise_map]
    refine List.Pairwise.imp ?_ across_nodup
    intro p q hne e
    have e1 := congrArg Prod.fst e
    have e2 := congrArg Prod.snd e
    dsimp only at e1 e2
    exact hne (Prod.ext (by omega) (by omega))
  refine perm_of_mem ?_ (pairsU_nodup _ _) fun p => ?_
  · rw [List.nodup_append, List.nodup_append]
    refine ⟨⟨pairsU_nodup _ _, inj1, fun a ha b hb e => ?_⟩, inj2, fun a ha b hb e => ?_⟩
    · subst e
      obtain ⟨q, hq, rfl⟩ := List.mem_map.mp hb
      have := (passL_mem.mp ha).2.1
      dsimp only at this
      omega
    · subst e
      obtain ⟨q, hq, rfl⟩ := List.mem_map.mp hb
      have hq := mem_across.mp hq
      rcases List.mem_append.mp ha with ha | ha
      · have := (passL_mem.mp ha).2.1
        dsimp only at this
        omega
      · obtain ⟨r, hr, e⟩ := List.mem_map.mp ha
        have e1 := congrArg Prod.fst e
        dsimp only at e1
        omega
  · show _ ↔ p ∈ passL (l1 ++ l2)
    rw [List.mem_append, List.mem_append, List.mem_map, List.mem_map, passL_mem, passL_mem, List.length_append]
    constructor
    · rintro ((⟨a, b, c⟩ | ⟨q, hq, rfl⟩) | ⟨q, hq, rfl⟩)
      · exact ⟨a, by omega, by rw [c1 a b]; exact c⟩
      · obtain ⟨a, b, c⟩ := passL_mem.mp hq
        refine ⟨by dsimp only; omega, by dsimp only; omega, ?_⟩
        dsimp only
        rw [Nat.add_comm q.1, Nat.add_comm q.2, c2 a b]
        exact c
      · obtain ⟨a, b, c⟩ := mem_across.mp hq
        refine ⟨by dsimp only; omega, by dsimp only; omega, ?_⟩
        dsimp only
        rw [Nat.add_comm q.2]
        exact c
    · rintro ⟨a, b, c⟩
      by_cases h1 : p.2 < l1.length
      · exact .inl (.inl ⟨a, h1, by rw [← c1 a h1]; exact c⟩)
      · obtain ⟨j, ej⟩ : ∃ j, p.2 = l1.length + j := ⟨p.2 - l1.length, by omega⟩
        by_cases h2 : p.1 < l1.length
        · refine .inr ⟨(p.1, j), mem_across.mpr ⟨h2, by dsimp only; omega, ?_⟩, Prod.ext rfl (by dsimp only; omega)⟩
          dsimp only
          rw [← ej]
          exact c
        · obtain ⟨i, ei⟩ : ∃ i, p.1 = l1.length + i := ⟨p.1 - l1.length, by omega⟩
          refine .inl (.inr ⟨(i, j), passL_mem.mpr ⟨by dsimp only; omega, by dsimp only; omega, ?_⟩, Prod.ext (by dsimp only; omega) (by dsimp only; omega)⟩)
          dsimp only
          rw [ei, ej, c2 (by omega) (by omega)] at c
          exact c
/-! ### rows led, within a whole -/
inductive Leds : List Row → List Row → Prop
  | nil : Leds [] []
  | cons {l l' : Row} {o : List Nat} {ds : List (Bool × Nat)} {r r' : List Row} : Led l l' o ds → Leds r r' → Leds (l :: r) (l' :: r')
theorem Leds.last {rs rs' : List Row} (h : Leds rs rs') : ∀ {A : Row}, T0 A → T0 rs.flatten → lastR (A ++ rs'.flatten) = lastR (A ++ rs.flatten) ∧ T0 rs'.flatten := by
  induction h with
  | nil => intro A hA h0; exact ⟨rfl, h0⟩
  | @cons l l' o ds r r' h1 h2 ih =>
    intro A hA h0
    simp only [List.flatten_cons] at h0 ⊢
    obtain ⟨t1, t2⟩ := t0_app.mp h0
    obtain ⟨e1, t2'⟩ := ih (A := A ++ l) (t0_app.mpr ⟨hA, t1⟩) t2
    have cl := ctx_class (B := r'.flatten) hA t1 t2' h1
    refine ⟨?_, t0_app.mpr ⟨h1.t0 t1, t2'⟩⟩
    rw [← List.append_assoc, ← List.append_assoc, cl.last, e1]
end
end TL
set_option Elab.async false
set_option linter.all false
set_option maxRecDepth 100000
set_option maxHeartbeats 4000000
namespace TL
open PySem PySem.Spec PyProof.Rows L2
/-! ### turned rows -/
def turnA : Int → Row → Row
  | _, [] => []
  | a, p :: l => (a - p.1, p.2) :: turnA (a + p.2) l
def weiA : Int → Row → List Int
  | _, [] => []
  | a, p :: l => (p.1 - a) :: weiA (a + p.2) l
def tsum : Row → Int
  | [] => 0
  | p :: l => p.2 + tsum l
abbrev turn (l : Row) : Row := turnA 0 l
theorem turnA_app : ∀ (a : Int) (X Y : Row), turnA a (X ++ Y) = turnA a X ++ turnA (a + tsum X) Y
  | a, [], Y => by simp [turnA, tsum]
  | a, p :: X, Y => by
    simp only [List.cons_append, turnA, tsum, turnA_app (a + p.2) X Y]
    rw [show a + (p.2 + tsum X) = a + p.2 + tsum X by omega]
theorem weiA_app : ∀ (a : Int) (X Y : Row), weiA a (X ++ Y) = weiA a X ++ weiA (a + tsum X) Y
  | a, [], Y => by simp [weiA, tsum]
  | a, p :: X, Y => by
    simp only [List.cons_append, weiA, tsum, weiA_app (a + p.2) X Y]
    rw [show a + (p.2 + tsum X) = a + p.2 + tsum X by omega]
theorem turnA_len : ∀ (a : Int) (l : Row), (turnA a l).length = l.length
  | _, [] => rfl
  | a, p :: l => by simp [turnA, turnA_len (a + p.2) l]
theorem weiA_len : ∀ (a : Int) (l : Row), (weiA a l).length = l.length
  | _, [] => rfl
  | a, p :: l => by simp [weiA, weiA_len (a + p.2) l]
theorem tsum_app : ∀ (X Y : Row), tsum (X ++ Y) = tsum X + tsum Y
  | [], Y => by simp [tsum]
  | p :: X, Y => by simp only [List.cons_append, tsum, tsum_app X Y]; omega
theorem turnA_t0 : ∀ {a : Int} {l : Row}, T0 l → T0 (turnA a l)
  | _, [], _ => fun p hp => by cases hp
  | a, p :: l, h => fun q hq => by
    simp only [turnA, List.mem_cons] at hq
    rcases hq with rfl | hq
    · exact h p (by simp)
    · exact turnA_t0 (fun x hx => h x (List.mem_cons_of_mem _ hx)) q hq
theorem turn_turn : ∀ (a : Int) (l : Row), turnA a (turnA a l) = l
  | _, [] => rfl
  | a, p :: l => by
    simp only [turnA, turn_turn (a + p.2) l]
    rw [show a - (a - p.1) = p.1 by omega]
theorem wei_turn : ∀ (a : Int) (l : Row), weiA a (turnA a l) = (l.map fun p => - p.1)
  | _, [] => rfl
  | a, p :: l => by
    simp only [turnA, weiA, List.map_cons, wei_turn (a + p.2) l]
    rw [show a - p.1 - a = - p.1 by omega]
/-- a row told by labels, turned -/
theorem turn_P {w t : Nat → Int} : ∀ (A o : List Nat), (A ++ o).Nodup → turnA (tolls t A fun _ => true) (rowG w t gP A o) = rowG (fun c => - w c) t gF A o
  | A, [], _ => rfl
  | A, y :: o, hn => by
    have hy : y ∉ A := fun z => by
      have := (List.nodup_append.mp hn).2.2 y z y (by simp)
      exact this rfl
    have ih := turn_P (w := w) (t := t) (A ++ [y]) o (by simpa using hn)
    have e1 : tolls t (A ++ [y]) (fun _ => true) = tolls t A (fun _ => true) + t y := by
      rw [tolls_append]
      simp [tolls]
    have e2 := tolls_not t A fun c => gP c y
    have e3 : tolls t A (fun c => !gP c y) = tolls t A fun c => gF c y := tolls_congr fun c hc => by
      have : c ≠ y := fun e => hy (e ▸ hc)
      unfold gP gF
      rcases Nat.lt_trichotomy c y with h | h | h
      · have : ¬ y < c := by omega
        simp [h, this]
      · exact absurd h this
      · have : ¬ c < y := by omega
        simp [h, this]
    rw [e1] at ih
    show _ :: _ = _ :: _
    dsimp only
    rw [ih]
    refine congrArg (· :: _) ?_
    refine Prod.ext ?_ rfl
    show _ - (_ + _) = - _ + _
    omega
theorem turn_F {s t : Nat → Int} : ∀ (A o : List Nat), (A ++ o).Nodup → turnA (tolls t A fun _ => true) (rowG s t gF A o) = rowG (fun c => - s c) t gP A o
  | A, [], _ => rfl
  | A, y :: o, hn => by
    have hy : y ∉ A := fun z => by
      have := (List.nodup_append.mp hn).2.2 y z y (by simp)
      exact this rfl
    have ih := turn_F (s := s) (t := t) (A ++ [y]) o (by simpa using hn)
    have e1 : tolls t (A ++ [y]) (fun _ => true) = tolls t A (fun _ => true) + t y := by
      rw [tolls_append]
      simp [tolls]
    have e2 := tolls_not t A fun c => gP c y
    have e3 : tolls t A (fun c => !gP c y) = tolls t A fun c => gF c y := tolls_congr fun c hc => by
      have : c ≠ y := fun e => hy (e ▸ hc)
      unfold gP gF
      rcases Nat.lt_trichotomy c y with h | h | h
      · have : ¬ y < c := by omega
        simp [h, this]
      · exact absurd h this
      · have : ¬ c < y := by omega
        simp [h, this]
    rw [e1] at ih
    show _ :: _ = _ :: _
    dsimp only
    rw [ih]
    refine congrArg (· :: _) ?_
    refine Prod.ext ?_ rfl
    show _ - (_ + _) = - _ + _
    omega
theorem turn_rowP (l : Row) : turn l = rowG (fun c => - wP l c) (tP l) gF [] (List.range l.length) := by
  have h := turn_P (w := wP l) (t := tP l) [] (List.range l.length) (by simpa using List.nodup_range)
  rw [rowG_P] at h
  exact h
theorem turn_rowF (l : Row) : turn l = rowG (fun c => - sP l c) (tP l) gP [] (List.range l.length) := by
  have h := turn_F (s := sP l) (t := tP l) [] (List.range l.length) (by simpa using List.nodup_range)
  rw [rowG_F] at h
  exact h
/-- the turned row's first is the turned last, its last the turned first -/
theorem turn_first {l : Row} (h : T0 l) : firstO (turn l) = lastO l ∧ firstR (turn l) = turn (lastR l) := by
  obtain ⟨hp, hI, hT⟩ := lastO_spec h
  have e := turn_rowP l
  have ln : (turn l).length = l.length := turnA_len 0 l
  have nn : (fun c => - - wP l c) = wP l := funext fun c => Int.neg_neg _
  obtain ⟨u1, u2⟩ := first_uniq (l := turn l) (turnA_t0 h) (s := fun c => - wP l c) (t := tP l) (o := lastO l) (by rw [ln]; exact e.symm) (by rw [ln]; exact hp) (by rw [nn]; exact hI) (by rw [nn]; exact hT)
  refine ⟨u1.symm, u2.symm.trans ?_⟩
  have := turn_P (w := wP l) (t := tP l) [] (lastO l) (by simpa using hp.nodup_iff.mpr List.nodup_range)
  exact this.symm
theorem turn_last {l : Row} (h : T0 l) : lastO (turn l) = firstO l ∧ lastR (turn l) = turn (firstR l) := by
  obtain ⟨hp, hI, hT⟩ := firstO_spec h
  have e := turn_rowF l
  have ln : (turn l).length = l.length := turnA_len 0 l
  obtain ⟨u1, u2⟩ := last_uniq (l := turn l) (turnA_t0 h) (w := fun c => - sP l c) (t := tP l) (o := firstO l) (by rw [ln]; exact e.symm) (by rw [ln]; exact hp) hI hT
  refine ⟨u1.symm, u2.symm.trans ?_⟩
  have := turn_F (s := sP l) (t := tP l) [] (firstO l) (by simpa using hp.nodup_iff.mpr List.nodup_range)
  exact this.symm
/-! ### deeds of the turned row -/
theorem turn_mid (LA LB : Row) (p q : Int × Int) : turn (LA ++ p :: q :: LB) = turn LA ++ (tsum LA - p.1, p.2) :: (tsum LA + p.2 - q.1, q.2) :: turnA (tsum LA + p.2 + q.2) LB := by
  show turnA 0 _ = _
  rw [turnA_app, Int.zero_add]
  rfl
theorem split_at {l : Row} {j : Nat} (h : j + 1 < l.length) : ∃ LA p q LB, l = LA ++ p :: q :: LB ∧ j = LA.length := by
  refine ⟨l.take j, l[j], l[j + 1], l.drop (j + 2), ?_, by simp; omega⟩
  rw [List.getElem_cons_drop (by omega), List.getElem_cons_drop (by omega), List.take_append_drop]
theorem turn_falls {l : Row} {j : Nat} (h : j + 1 < l.length) : falls (turn l) j = lets l (j + 1) := by
  obtain ⟨LA, p, q, LB, rfl, rfl⟩ := split_at h
  rw [lets_at, turn_mid]
  have := falls_at (turn LA) (turnA (tsum LA + p.2 + q.2) LB) (tsum LA - p.1, p.2) (tsum LA + p.2 - q.1, q.2)
  rw [turnA_len] at this
  rw [this]
  refine decide_eq_decide.mpr ?_
  dsimp only
  omega
theorem turn_lets {l : Row} {j : Nat} (h : j + 1 < l.length) : lets (turn l) (j + 1) = falls l j := by
  obtain ⟨LA, p, q, LB, rfl, rfl⟩ := split_at h
  rw [falls_at, turn_mid]
  have := lets_at (turn LA) (turnA (tsum LA + p.2 + q.2) LB) (tsum LA - p.1, p.2) (tsum LA + p.2 - q.1, q.2)
  rw [turnA_len] at this
  rw [this]
  refine decide_eq_decide.mpr ?_
  dsimp only
  omega
theorem turn_passed {l : Row} {j : Nat} (h : j + 1 < l.length) : turn (passed l (j + 1)) = fallen (turn l) j := by
  obtain ⟨LA, p, q, LB, rfl, rfl⟩ := split_at h
  rw [passed_at, turn_mid, turn_mid]
  have := fallen_at (turn LA) (turnA (tsum LA + p.2 + q.2) LB) (tsum LA - p.1, p.2) (tsum LA + p.2 - q.1, q.2)
  rw [turnA_len] at this
  rw [this]
  dsimp only
  rw [show tsum LA - (q.1 - p.2) = tsum LA + p.2 - q.1 by omega, show tsum LA + q.2 - p.1 = tsum LA - p.1 + q.2 by omega, show tsum LA + q.2 + p.2 = tsum LA + p.2 + q.2 by omega]
theorem turn_fallen {l : Row} {j : Nat} (h : j + 1 < l.length) : turn (fallen l j) = passed (turn l) (j + 1) := by
  obtain ⟨LA, p, q, LB, rfl, rfl⟩ := split_at h
  rw [fallen_at, turn_mid, turn_mid]
  have := passed_at (turn LA) (turnA (tsum LA + p.2 + q.2) LB) (tsum LA - p.1, p.2) (tsum LA + p.2 - q.1, q.2)
  rw [turnA_len] at this
  rw [this]
  dsimp only
  rw [show tsum LA + p.2 - q.1 - p.2 = tsum LA - q.1 by omega, show tsum LA + q.2 - (p.1 + q.2) = tsum LA - p.1 by omega, show tsum LA + q.2 + p.2 = tsum LA + p.2 + q.2 by omega]
theorem wei_passed {l : Row} {j : Nat} (h : j + 1 < l.length) : weiA 0 (passed l (j + 1)) = (weiA 0 l).take j ++ [(weiA 0 l).getD (j + 1) 0, (weiA 0 l).getD j 0 - (gR l (j + 1)).2] ++ (weiA 0 l).drop (j + 2) := by
  obtain ⟨LA, p, q, LB, rfl, rfl⟩ := split_at h
  rw [passed_at, gR_mid1]
  have lw : (weiA 0 LA).length = LA.length := weiA_len 0 LA
  have e : weiA 0 (LA ++ p :: q :: LB) = weiA 0 LA ++ (p.1 - tsum LA) :: (q.1 - (tsum LA + p.2)) :: weiA (tsum LA + p.2 + q.2) LB := by
    rw [weiA_app, Int.zero_add]
    rfl
  have e' : weiA 0 (LA ++ (q.1 - p.2, q.2) :: p :: LB) = weiA 0 LA ++ (q.1 - p.2 - tsum LA) :: (p.1 - (tsum LA + q.2)) :: weiA (tsum LA + q.2 + p.2) LB := by
    rw [weiA_app, Int.zero_add]
    rfl
  rw [e, e', List.take_left' lw, List.drop_append, List.drop_of_length_le (by omega), lw, show LA.length + 2 - LA.length = 2 by omega]
  simp only [List.getD_eq_getElem?_getD]
  rw [List.getElem?_append_right (by omega), List.getElem?_append_right (by omega), lw, show LA.length + 1 - LA.length = 1 by omega, Nat.sub_self]
  simp
  refine ⟨by omega, by omega, ?_⟩
  rw [show tsum LA + q.2 + p.2 = tsum LA + p.2 + q.2 by omega]
theorem passed_fallen {l : Row} {j : Nat} (h : j + 1 < l.length) : passed (fallen l j) (j + 1) = l ∧ (gR (fallen l j) (j + 1)).2 = (gR l j).2 := by
  obtain ⟨LA, p, q, LB, rfl, rfl⟩ := split_at h
  rw [fallen_at, passed_at, gR_mid1, gR_mid]
  dsimp only
  rw [show p.1 + q.2 - q.2 = p.1 by omega]
  exact ⟨rfl, rfl⟩
theorem someP_S (l : Row) : someP l = ((List.range (l.length - 1)).filter fun j => lets l (j + 1)).map (· + 1) := by
  unfold someP
  cases e : l.length with
  | zero => rfl
  | succ m =>
    have l0 : lets l 0 = false := by simp [lets]
    rw [List.range_succ_eq_map, List.filter_cons_of_neg (by simp [l0]), List.filter_map]
    rfl
theorem turn_someF (l : Row) : (someF (turn l)).map (· + 1) = someP l := by
  rw [someP_S]
  unfold someF
  rw [turnA_len]
  refine congrArg (List.map _) (List.filter_congr fun j hj => ?_)
  have : j < l.length - 1 := by simpa using hj
  exact turn_falls (by omega)
theorem turn_someP (l : Row) : someP (turn l) = (someF l).map (· + 1) := by
  rw [someP_S]
  unfold someF
  rw [turnA_len]
  refine congrArg (List.map _) (List.filter_congr fun j hj => ?_)
  have : j < l.length - 1 := by simpa using hj
  exact turn_lets (by omega)
end TL
set_option Elab.async false
set_option linter.all false
set_option maxRecDepth 100000
set_option maxHeartbeats 4000000
namespace TL
open PySem PySem.Spec PyProof.Rows L2
/-! ### deeds, one by one -/
def stepR (l : Row) (d : Bool × Nat) : Row := if d.1 = true then passed l d.2 else fallen l d.2
def okD (l : Row) (d : Bool × Nat) : Prop := if d.1 = true then 0 < d.2 ∧ d.2 < l.length ∧ lets l d.2 = true else d.2 + 1 < l.length ∧ falls l d.2 = true
def atD (d : Bool × Nat) : Nat := if d.1 = true then d.2 - 1 else d.2
def goR (l : Row) (ds : List (Bool × Nat)) : Row := ds.foldl stepR l
def goO (o : List Nat) (ds : List (Bool × Nat)) : List Nat := ds.foldl (fun o d => swapO o (atD d)) o
theorem okD_at {l : Row} {d : Bool × Nat} (h : okD l d) : atD d + 1 < l.length := by
  unfold okD at h
  unfold atD
  split at h
  · rename_i e
    rw [if_pos e]; omega
  · rename_i e
    rw [if_neg e]; omega
theorem stepR_len {l : Row} {d : Bool × Nat} (h : okD l d) : (stepR l d).length = l.length := by
  unfold okD at h
  unfold stepR
  split at h
  · rename_i e
    rw [if_pos e]; exact passed_len h.1 h.2.1
  · rename_i e
    rw [if_neg e]; exact fallen_len h.1
theorem goR_snoc (l : Row) (ds : List (Bool × Nat)) (d : Bool × Nat) : goR l (ds ++ [d]) = stepR (goR l ds) d := by simp [goR]
theorem goO_snoc (o : List Nat) (ds : List (Bool × Nat)) (d : Bool × Nat) : goO o (ds ++ [d]) = swapO (goO o ds) (atD d) := by simp [goO]
theorem take_snoc {α : Type} (xs : List α) (i : Nat) (h : i < xs.length) : xs.take (i + 1) = xs.take i ++ [xs[i]] := List.take_succ_eq_append_getElem h
def okDs (l : Row) (ds : List (Bool × Nat)) : Prop := ∀ (i : Nat) (h : i < ds.length), okD (goR l (ds.take i)) ds[i]
theorem okDs_snoc {l : Row} {ds : List (Bool × Nat)} {d : Bool × Nat} (h : okDs l ds) (h2 : okD (goR l ds) d) : okDs l (ds ++ [d]) := fun i hi => by
  rw [List.length_append] at hi
  by_cases e : i < ds.length
  · rw [List.getElem_append_left e, List.take_append_of_le_length (by omega)]
    exact h i e
  · have : i = ds.length := by simp at hi; omega
    subst this
    rw [List.getElem_append_right (by omega), List.take_append_of_le_length (by omega), List.take_length]
    simpa using h2
theorem Led.go {l l' : Row} {o : List Nat} {ds : List (Bool × Nat)} (h : Led l l' o ds) : l' = goR l ds ∧ o = goO (List.range l.length) ds ∧ okDs l ds := by
  induction h with
  | nil => exact ⟨rfl, rfl, fun i hi => absurd hi (Nat.not_lt_zero _)⟩
  | pass h h0 hj hl ih =>
    obtain ⟨e1, e2, e3⟩ := ih
    refine ⟨?_, ?_, okDs_snoc e3 ?_⟩
    · rw [goR_snoc, ← e1]; rfl
    · rw [goO_snoc, ← e2]; rfl
    · rw [← e1]; exact ⟨h0, hj, hl⟩
  | fall h hj hl ih =>
    obtain ⟨e1, e2, e3⟩ := ih
    refine ⟨?_, ?_, okDs_snoc e3 ?_⟩
    · rw [goR_snoc, ← e1]; rfl
    · rw [goO_snoc, ← e2]; rfl
    · rw [← e1]; exact ⟨hj, hl⟩
theorem okDs_len {l : Row} {ds : List (Bool × Nat)} (h : okDs l ds) : ∀ i, i ≤ ds.length → (goR l (ds.take i)).length = l.length
  | 0, _ => rfl
  | i + 1, hi => by
    rw [take_snoc ds i hi, goR_snoc, stepR_len (h i hi)]
    exact okDs_len h i (by omega)
theorem okDs_olen {l : Row} {ds : List (Bool × Nat)} {o : List Nat} (h : okDs l ds) (ho : o.length = l.length) : ∀ i, i ≤ ds.length → (goO o (ds.take i)).length = l.length
  | 0, _ => ho
  | i + 1, hi => by
    have := okDs_olen h ho i (by omega)
    rw [take_snoc ds i hi, goO_snoc, swapO_len]
    · exact this
    · rw [this, ← okDs_len h i (by omega)]
      exact okD_at (h i hi)
end TL
set_option Elab.async false
set_option linter.all false
set_option maxRecDepth 100000
set_option maxHeartbeats 4000000
namespace TL
open PySem PySem.Spec PyProof.Rows L2
/-! ### weighed, turned; deeds of the package -/
@[simp] theorem items_rowW {l : Row} {P : List D → Prop} : dItems (rowD l) P ↔ P (l.map pairD) := by simp [rowD]
theorem zipD_map {α β : Type} (f : α → D) (g : β → D) : ∀ (xs : List α) (ys : List β), zipD (xs.map f) (ys.map g) = (List.zip xs ys).map fun z => rawP (f z.1) (g z.2)
  | [], ys => by simp [zipD]
  | x :: xs, [] => by simp [zipD]
  | x :: xs, y :: ys => by simp [zipD, zipD_map f g xs ys]
theorem turn_zip : ∀ (a : Int) (l : Row), (List.zip (weiA a l) l).map (fun z => (-z.1, z.2.2)) = turnA a l
  | _, [] => rfl
  | a, p :: l => by
    simp only [weiA, turnA, List.zip_cons_cons, List.map_cons, turn_zip (a + p.2) l]
    rw [show -(p.1 - a) = a - p.1 by omega]
def Frowed : FM := bodyM 3 fun _ => b_rowed
theorem rowed_ok {l : Row} {n : Nat} {P : D → Nat → Prop} {PX : XE → Nat → Prop} (hl : l.length ≤ 1000) (h : P (rowD l) n) : Frowed [.d (rowD l)] n P PX := by
  show bodyM 3 (fun _ => b_rowed) _ _ _ _
  have z20 := sz20
  simp [b_rowed, wipeE]
  refine lc_map pairD (fun p => [some (.d (rowD l)), some (.d (.int p.1)), some (.d (.int p.2))]) (fun _ => true) pairD l (fun p _ n R r => by simpa using r) (fun p _ n R r => by simpa using r) (fun p _ _ n R r => ?_) [] n _ (by simp; omega) ?_
  · simp
    exact ⟨by omega, by simpa [pairD] using r⟩
  · rw [List.filter_eq_self.mpr (fun _ _ => rfl), List.nil_append]
    simpa [rowD] using h
def Fwith_pair : FM := bodyM 5 fun _ => b_with_pair Frowed
theorem with_pair_ok {l : Row} {j : Int} {k : Nat} {p q : Int × Int} {n : Nat} {P : D → Nat → Prop} {PX : XE → Nat → Prop} (hj : k + 1 < l.length) (e : j = k) (hl : l.length ≤ 1000) (h : P (rowD (l.take k ++ [p, q] ++ l.drop (k + 2))) n) :
    Fwith_pair [.d (rowD l), .d (.int j), .d (pairD p), .d (pairD q)] n P PX := by
  show bodyM 5 (fun _ => b_with_pair Frowed) _ _ _ _
  have z20 := sz20
  subst e
  simp [b_with_pair]
  refine rowed_ok hl ?_
  simp [rowD, pairD]
  have e2 : ((k : Int) + 2).toNat = k + 2 := by omega
  refine ⟨by omega, by omega, by omega, ?_⟩
  rw [e2]
  simpa [rowD, pairD, List.map_take, List.map_drop] using h
theorem mem_someP {l : Row} {j : Nat} : j ∈ someP l ↔ 0 < j ∧ j < l.length ∧ lets l j = true := by
  unfold someP
  rw [List.mem_filter, List.mem_range]
  constructor
  · rintro ⟨h1, h2⟩
    refine ⟨?_, h1, h2⟩
    unfold lets at h2
    simp at h2
    exact h2.1
  · rintro ⟨_, h1, h2⟩
    exact ⟨h1, h2⟩
theorem mem_someF {l : Row} {j : Nat} : j ∈ someF l ↔ j + 1 < l.length ∧ falls l j = true := by
  unfold someF
  rw [List.mem_filter, List.mem_range]
  constructor
  · rintro ⟨h1, h2⟩
    exact ⟨by omega, h2⟩
  · rintro ⟨h1, h2⟩
    exact ⟨by omega, h2⟩
theorem lay_natsW (xs : List Nat) : Lay 1 (.list (xs.map natD)) := lay_list (n := 0) fun x hx => by
  obtain ⟨j, _, rfl⟩ := List.mem_map.mp hx
  exact lay_int
theorem mem_natsW {neg : Bool} {j : Nat} {xs : List Nat} {P : D → Prop} : dMem neg (.int (j : Nat)) (.list (xs.map natD)) P ↔ P (.bool (if neg then !decide (j ∈ xs) else decide (j ∈ xs))) := by
  have hany : ((xs.map natD).any fun z => PyData.eqv z (.int (j : Nat))) = decide (j ∈ xs) := by
    induction xs with
    | nil => rfl
    | cons x r ih =>
      rw [List.map_cons, List.any_cons, ih]
      have e : PyData.eqv (natD x) (.int (j : Nat)) = decide (j = x) := by
        unfold natD
        rw [eqv_int, Bool.eq_iff_iff]
        simp
        omega
      rw [e, Bool.eq_iff_iff]
      simp
  constructor
  · rintro ⟨ds, e, _, h⟩
    cases e
    rw [hany] at h
    exact h
  · intro h
    refine ⟨_, rfl, ⟨shaped_int, (lay_natsW xs).shaped⟩, ?_⟩
    rw [hany]
    exact h
end TL
set_option Elab.async false
set_option linter.all false
set_option maxRecDepth 100000
set_option maxHeartbeats 4000000
namespace TL
open PySem PySem.Spec PyProof.Rows L2
/-! ### deeds of the package that may be refused -/
theorem mem_intsX {neg : Bool} {j : Int} {xs : List Nat} {P : D → Prop} : dMem neg (.int j) (.list (xs.map natD)) P ↔ P (.bool (if neg then !decide (∃ k ∈ xs, (k : Int) = j) else decide (∃ k ∈ xs, (k : Int) = j))) := by
  have hany : ((xs.map natD).any fun z => PyData.eqv z (.int j)) = decide (∃ k ∈ xs, (k : Int) = j) := by
    rw [List.any_map, Bool.eq_iff_iff, List.any_eq_true]
    simp [natD]
  constructor
  · rintro ⟨ds, e, _, h⟩
    cases e
    rw [hany] at h
    exact h
  · intro h
    refine ⟨_, rfl, ⟨shaped_int, (lay_natsW xs).shaped⟩, ?_⟩
    rw [hany]
    exact h
def Fp_passed : FM := bodyX 5 (b_passed Fwith_pair Fmay_pass)
theorem p_passed_x {l : Row} {j : Int} {n : Nat} {P : D → Nat → Prop} {PX : XE → Nat → Prop} (hl : l.length ≤ 1000) (h : ∀ k ∈ someP l, (k : Int) = j → P (rowD (passed l k)) n) (hx : (∀ k ∈ someP l, (k : Int) ≠ j) → PX ⟨"MayNot", "place", .int j⟩ n) : Fp_passed [.d (rowD l), .d (.int j)] n P PX := by
  show bodyX 5 (b_passed Fwith_pair Fmay_pass) _ _ _ _
  have z20 := sz20
  simp (disch := omega) [bodyX, b_passed, lk0]
  refine may_pass_ok hl ?_
  rw [mem_intsX]
  by_cases hm : ∃ k ∈ someP l, (k : Int) = j
  · obtain ⟨k, hk, rfl⟩ := hm
    have hd : decide (∃ k' ∈ someP l, (k' : Int) = (k : Int)) = true := decide_eq_true ⟨k, hk, rfl⟩
    rw [hd]
    obtain ⟨h0, hj, hp⟩ := mem_someP.mp hk
    have e : ((k : Int) - 1).toNat = k - 1 := by omega
    simp (disch := omega) [ix_row, e]
    refine ⟨by omega, ?_⟩
    simp [lk0]
    refine ⟨by omega, ?_⟩
    have e1 : PyData.tuple [.int ((gR l k).1 - (gR l (k - 1)).2), .int (gR l k).2] = pairD ((gR l k).1 - (gR l (k - 1)).2, (gR l k).2) := rfl
    rw [e1]
    refine with_pair_ok (k := k - 1) (by omega) (by omega) hl ?_
    rw [show k - 1 + 2 = k + 1 by omega]
    simpa [passed] using h k hk rfl
  · have hd : decide (∃ k' ∈ someP l, (k' : Int) = j) = false := decide_eq_false hm
    rw [hd]
    simp
    exact hx fun k hk e => hm ⟨k, hk, e⟩
theorem p_passed_ok {l : Row} {j : Nat} {n : Nat} {P : D → Nat → Prop} {PX : XE → Nat → Prop} (h0 : 0 < j) (hj : j < l.length) (hp : lets l j = true) (hl : l.length ≤ 1000) (h : P (rowD (passed l j)) n) : Fp_passed [.d (rowD l), .d (.int j)] n P PX := by
  have hm : j ∈ someP l := mem_someP.mpr ⟨h0, hj, hp⟩
  exact p_passed_x hl (fun k _ e => by rw [show k = j by omega]; exact h) fun z => absurd rfl (z j hm)
end TL
set_option Elab.async false
set_option linter.all false
set_option maxRecDepth 100000
set_option maxHeartbeats 4000000
namespace TL
open PySem PySem.Spec PyProof.Rows L2
def Fbarred : FM := bodyM 4 fun _ => b_law_barred Fp_passed
theorem barred_ok {l : Row} {j : Int} {n : Nat} {P : D → Nat → Prop} {PX : XE → Nat → Prop} (hl : l.length ≤ 1000) (hj : ∀ k ∈ someP l, (k : Int) ≠ j) (h : P (.int j) n) : Fbarred [.d (rowD l), .d (.int j)] n P PX := by
  show bodyM 4 (fun _ => b_law_barred Fp_passed) _ _ _ _
  simp [b_law_barred]
  refine p_passed_x hl (fun k hk e => absurd e (hj k hk)) fun _ => ?_
  simp [exL, isX, Bk.mro]
  exact h
theorem dk_natsR (xs : List Nat) (k : Nat) (h : xs.length ≤ 1000) : Dk (k + 2) (.list (xs.map natD)) := by
  have z20 := sz20
  exact dk_list (by simp; omega) fun x hx => by
    obtain ⟨z, _, rfl⟩ := List.mem_map.mp hx
    trivial
theorem someP_len (l : Row) : (someP l).length ≤ l.length := by
  unfold someP
  refine Nat.le_trans (List.length_filter_le _ _) ?_
  rw [List.length_range]
  exact Nat.le_refl _
def Fone_right : FM := bodyM 6 fun _ => b_law_one_right Fmay_pass (Fsame 6) Fbarred Flets Fp_passed Fpassed
theorem one_right_ok {S T : Int} {l : Row} {n : Nat} {P : D → Nat → Prop} {PX : XE → Nat → Prop} (ok : RowOk S T l) (hS : S < 10 ^ 14) (hT : T < 10 ^ 14) (hl : l.length ≤ 64) (h : P (.bool true) n) : Fone_right [.box, .d (rowD l)] n P PX := by
  show bodyM 6 (fun _ => b_law_one_right Fmay_pass (Fsame 6) Fbarred Flets Fp_passed Fpassed) _ _ _ _
  have z20 := sz20
  have rp : ∀ P, dRepr (rowD l) P ↔ P (.str (rowD l).shown) := fun P => repr_ok ok hS hT hl
  have ln := someP_len l
  simp (maxSteps := 2000000) [b_law_one_right, wipeE, rp]
  refine ⟨by omega, ?_⟩
  rw [rangeD_nat]
  refine lc_map natD (fun j => [some .box, some (.d (rowD l)), some (.d (natD j)), none, none, none]) (lets l) natD (List.range l.length) (fun a ha n R r => by simpa using r) (fun a ha n R r => ?_) (fun a ha _ n R r => by simpa using r) [] n _ (by simp; omega) ?_
  · simp [natD, -Bool.exists_bool]
    exact lets_ok (by simpa using ha) ⟨_, rfl, r⟩
  rw [List.nil_append, show ((List.range l.length).filter (lets l)) = someP l from rfl]
  refine ⟨by omega, may_pass_ok (by omega) ?_⟩
  simp (maxSteps := 2000000) [kPerm, perm]
  refine may_pass_ok (by omega) ⟨by omega, ?_⟩
  have dk1 : Dk 6 (PyData.list [PyData.list ((someP l).map natD), PyData.list ((someP l).map natD)]) := dk_list (by simp) fun x hx => by
    simp at hx
    subst hx
    exact dk_natsR _ 3 (by omega)
  refine same_ok 6 _ _ _ _ dk1 (.inr ⟨rfl, ⟨_, by simp [modP, oA, show (someP l).length < sizeLine by omega]; rfl⟩, ?_⟩)
  refine for_inv (fun i τ n' => ∃ (y2 y5 : Option Sl), τ = [some .box, some (.d (rowD l)), y2, some (.d (.list ((someP l).map natD))), some (.d (.str (rowD l).shown)), y5] ∧ n' = n) _ 0 _ _ ⟨none, none, rfl, rfl⟩ ?_ ?_
  · rintro i x hx τ n1 N ⟨y2, y5, rfl, rfl⟩ hN
    rw [List.getElem?_map] at hx
    obtain ⟨j, hj, rfl⟩ := Option.map_eq_some_iff.mp hx
    have hm : j ∈ someP l := List.mem_of_getElem? hj
    obtain ⟨h0, hj1, hp⟩ := mem_someP.mp hm
    simp (maxSteps := 2000000) [natD, kPerm, perm]
    refine p_passed_ok h0 hj1 hp (by omega) (p_passed_ok h0 hj1 hp (by omega) ⟨by omega, passed_ok h0 hj1 (by omega) ⟨by omega, by omega, ?_⟩⟩)
    have lp := passed_len h0 hj1
    have dk2 : Dk 6 (PyData.list [rowD (passed l j), rowD (passed l j)]) := dk_list (by simp) fun x hx => by
      simp at hx
      subst hx
      exact dk_row (by omega)
    refine same_ok 6 _ _ _ _ dk2 (.inr ⟨rfl, hN _ _ ⟨_, _, rfl, rfl⟩⟩)
  · rintro τ n1 ⟨y2, y5, rfl, rfl⟩
    simp (maxSteps := 2000000)
    refine ⟨by omega, ?_⟩
    rw [rangeD_nat]
    refine lc_map natD (fun j => [some .box, some (.d (rowD l)), some (.d (natD j)), some (.d (.list ((someP l).map natD))), some (.d (.str (rowD l).shown)), y5]) (fun j => !decide (j ∈ someP l)) natD (List.range l.length) (fun a ha n R r => by simpa using r) (fun a ha n R r => ?_) (fun a ha _ n R r => by simpa using r) [] n1 _ (by simp; omega) ?_
    · simp [natD, -Bool.exists_bool]
      rw [mem_natsW]
      exact ⟨_, rfl, by simpa using r⟩
    refine ⟨⟨by decide, by decide +kernel⟩, by omega, ?_⟩
    rw [List.nil_append, dCatL_L, dItems_L]
    have lf : (List.filter (fun j => !decide (j ∈ someP l)) (List.range l.length)).length ≤ l.length := Nat.le_trans (List.length_filter_le _ _) (by rw [List.length_range]; exact Nat.le_refl _)
    refine ⟨by simp; omega, ?_⟩
    refine for_inv (fun i τ n' => ∃ (y2 y5 : Option Sl), τ = [some .box, some (.d (rowD l)), y2, some (.d (.list ((someP l).map natD))), some (.d (.str (rowD l).shown)), y5] ∧ n' = n1) _ 0 _ _ ⟨_, _, rfl, rfl⟩ ?_ ?_
    · rintro i x hx τ n2 N ⟨y2, y5, rfl, rfl⟩ hN
      have hm := List.mem_of_getElem? hx
      have hj : ∃ j : Int, x = .int j ∧ ∀ k ∈ someP l, (k : Int) ≠ j := by
        rcases List.mem_append.mp hm with hm | hm
        · obtain ⟨j, hj, rfl⟩ := List.mem_map.mp hm
          rw [List.mem_filter] at hj
          exact ⟨j, rfl, fun k hk e => by
            have : k = j := by omega
            subst this
            simp [hk] at hj⟩
        · have lt : ∀ k ∈ someP l, k < l.length := fun k hk => (mem_someP.mp hk).2.1
          simp at hm
          rcases hm with rfl | rfl | rfl
          · exact ⟨_, rfl, fun k _ e => by omega⟩
          · exact ⟨_, rfl, fun k hk e => by have := lt k hk; omega⟩
          · exact ⟨_, rfl, fun k hk e => by have := lt k hk; omega⟩
      obtain ⟨j, rfl, hj⟩ := hj
      simp
      refine barred_ok (by omega) hj ?_
      simp
      exact hN _ _ ⟨_, _, rfl, rfl⟩
    · rintro τ n2 ⟨y2, y5, rfl, rfl⟩
      simp
      refine may_pass_ok (by omega) (same_ok 6 _ _ _ _ (dk_natsR _ 4 (by omega)) (.inr ⟨rfl, ?_⟩))
      rw [rp]
      exact ⟨⟨shaped_repr l, shaped_repr l⟩, by rw [eqv_str]; simpa using h⟩
def Fright : FM := bodyM 7 fun _ => b_law_right Frow fTake Fone_right Fmay_pass
theorem right_ok {P : D → Nat → Prop} {PX : XE → Nat → Prop} (h : ∀ n, P (.bool true) n) : Fright [.box] 0 P PX := by
  show bodyM 7 (fun _ => b_law_right Frow fTake Fone_right Fmay_pass) _ _ _ _
  have z20 := sz20
  have bc := big_cap
  simp (maxSteps := 2000000) [b_law_right, wipeE]
  refine for_inv (fun i τ n' => ∃ (y1 y2 y3 y4 y5 y6 : Option Sl), τ = [some .box, y1, y2, y3, y4, y5, y6] ∧ n' ≤ i * 2000000) _ 0 _ _ ⟨none, none, none, none, none, none, rfl, by omega⟩ ?_ ?_
  · rintro i x hx τ n1 N ⟨y1, y2, y3, y4, y5, y6, rfl, hn1⟩ hN
    have hi : i < 6 := by
      have := (List.getElem?_eq_some_iff.mp hx).1
      rwa [rangeD_len] at this
    rw [rangeD_get, if_pos hi] at hx
    cases hx
    simp (maxSteps := 2000000)
    refine row_ok (by omega) (by omega) (by omega) fun l n2 ok p1 p2 hn2 => ?_
    refine one_right_ok ok (by decide) (by decide) (by omega) ?_
    simp (maxSteps := 2000000)
    refine ⟨by omega, by omega, fun r r1 r2 => ?_⟩
    by_cases hr : r ≤ 0
    · exact .inl ⟨hr, hN _ _ ⟨_, _, _, _, _, _, rfl, by omega⟩⟩
    refine .inr ⟨by omega, ?_⟩
    obtain ⟨j, rfl⟩ := Int.eq_ofNat_of_zero_le r1
    have hj : j < l.length := by omega
    have e1 : ((j : Int) - 1).toNat = j - 1 := by omega
    have e2 : ((j : Int) + 1).toNat = j + 1 := by omega
    have m1 := ok.s _ (gR_mem (l := l) (j := j - 1) (by omega))
    have m2 := ok.t _ (gR_mem (l := l) (j := j - 1) (by omega))
    have m3 := ok.t _ (gR_mem (l := l) (j := j) (by omega))
    simp (disch := omega) [ix_row, e1]
    refine ⟨by omega, ?_⟩
    refine for_inv (fun k τ n' => ∃ (y5 y6 : Option Sl), τ = [some .box, some (.d (.int (i : Nat))), some (.d (rowD l)), some (.d (.int (j : Nat))), some (.d (.int ((gR l (j - 1)).1 + (gR l (j - 1)).2))), y5, y6] ∧ n' ≤ n2 + 1) _ 0 _ _ ⟨_, _, rfl, by omega⟩ ?_ ?_
    · rintro k x hx τ n3 N2 ⟨y5, y6, rfl, hn3⟩ hN2
      obtain ⟨m, rfl, hm⟩ : ∃ m : Int, x = .int m ∧ (m = 1 ∨ m = 0) := by
        have := List.mem_of_getElem? hx
        simp at this
        rcases this with rfl | rfl
        · exact ⟨1, rfl, .inl rfl⟩
        · exact ⟨0, rfl, .inr rfl⟩
      have slT : ∀ P : D → Prop, dSlT (rowD l) none (some (j : Int)) P ↔ P (rowD (l.take j)) := fun P => by
        simp [rowD, cut_to (show (0 : Int) ≤ (j : Int) by omega), List.map_take]
      have slF : ∀ P : D → Prop, dSlT (rowD l) (some ((j : Int) + 1)) none P ↔ P (rowD (l.drop (j + 1))) := fun P => by
        simp [rowD, cut_from (show (0 : Int) ≤ (j : Int) + 1 by omega), e2, List.map_drop]
      simp (maxSteps := 2000000) (disch := omega) [lk0, slT, slF, ix_row, row1]
      refine ⟨by omega, by omega, by omega, by omega, ?_⟩
      have er : (l.take j ++ ([((gR l (j - 1)).1 + (gR l (j - 1)).2 + m, (gR l j).2)] ++ l.drop (j + 1))) = setR l j ((gR l (j - 1)).1 + (gR l (j - 1)).2 + m) := by simp [setR]
      have er2 : (l.take j ++ ((gR l (j - 1)).1 + (gR l (j - 1)).2 + m, (gR l j).2) :: l.drop (j + 1)) = setR l j ((gR l (j - 1)).1 + (gR l (j - 1)).2 + m) := by simp [setR]
      rw [er2]
      have sl := setR_len (s := (gR l (j - 1)).1 + (gR l (j - 1)).2 + m) hj
      have ok2 : RowOk (3 * 10 ^ 12) 50 (setR l j ((gR l (j - 1)).1 + (gR l (j - 1)).2 + m)) := by
        refine ⟨fun p hp => ?_, fun p hp => ?_⟩
        all_goals
          simp [setR] at hp
          rcases hp with hp | rfl | hp
        · have := ok.s p (List.mem_of_mem_take hp)
          omega
        · dsimp only; omega
        · have := ok.s p (List.mem_of_mem_drop hp)
          omega
        · exact ok.t p (List.mem_of_mem_take hp)
        · dsimp only; omega
        · exact ok.t p (List.mem_of_mem_drop hp)
      have dm : decide (j ∈ someP (setR l j ((gR l (j - 1)).1 + (gR l (j - 1)).2 + m))) = decide (m = 1) := by
        rw [Bool.eq_iff_iff, decide_eq_true_eq, decide_eq_true_eq, mem_someP]
        unfold lets
        rw [setR_get hj, setR_get hj, if_pos rfl, if_neg (by omega)]
        simp
        omega
      refine may_pass_ok (by omega) ?_
      rw [mem_natsW]
      simp [dm]
      exact one_right_ok ok2 (by decide) (by decide) (by omega) (.inr ⟨rfl, hN2 _ _ ⟨_, _, rfl, by omega⟩⟩)
    · rintro τ n3 ⟨y5, y6, rfl, hn3⟩
      exact hN _ _ ⟨_, _, _, _, _, _, rfl, by omega⟩
  · rintro τ n1 ⟨y1, y2, y3, y4, y5, y6, rfl, hn1⟩
    simp
    exact h _
end TL
set_option Elab.async false
set_option linter.all false
set_option maxRecDepth 100000
set_option maxHeartbeats 4000000
namespace TL
open PySem PySem.Spec PyProof.Rows L2
/-! ### the law -/
def Fdip : FM := bodyM 3 fun _ => b_law_dip
theorem dip_ok {ns : List Int} {k n : Nat} {P : D → Nat → Prop} {PX : XE → Nat → Prop} (hk : k ≤ 64) (h : ∀ x y : Int, 0 ≤ x → 0 ≤ y → y < 2 ^ 62 → P (.list [.int x, .int y, .int 0]) n) : Fdip [.d (.list (ns.map .int)), .d (.int k)] n P PX := by
  show bodyM 3 (fun _ => b_law_dip) _ _ _ _
  have z20 := sz20
  have pw : CPowB 10 18 := ⟨by decide, by decide +kernel⟩
  have m1 : IntMulOk 39373 (k : Int) := mul64 (by omega) (by omega)
  simp [b_law_dip, -Bool.exists_bool]
  by_cases hl : k < ns.length
  · rw [if_pos hl]
    refine ⟨.int ns[k], by rw [atI_nat _ (by omega)]; simp [hl], ?_⟩
    generalize ns[k] = c
    simp [pw, m1, -Bool.exists_bool]
    have c0 : 0 ≤ (if c < 0 then -c else c) := by split <;> omega
    generalize (if c < 0 then -c else c) = a at c0 ⊢
    have d0 : 0 ≤ (if 1000000000000000000 ≤ a then (1 : Int) else 0) ∧ (if 1000000000000000000 ≤ a then (1 : Int) else 0) ≤ 1 := by split <;> omega
    generalize (if 1000000000000000000 ≤ a then (1 : Int) else 0) = b at d0 ⊢
    refine ⟨mul64 (by omega) (by omega), by omega, h _ _ (Int.mul_nonneg c0 d0.1) (by omega) (by omega)⟩
  · rw [if_neg hl]
    exact ⟨pw, mul64 (by omega) (by omega), m1, by omega, h _ _ (by omega) (by omega) (by omega)⟩
def Ffolded : FM := bodyM 5 fun _ => b_law_folded
theorem cutG_map {lo hi : Option Int} {ns : List Int} : cutG (ns.map PyData.int) lo hi = (cutG ns lo hi).map .int := by simp [cutG, List.map_take, List.map_drop]
theorem folded_ok {ns : List Int} {many : Int} {n : Nat} {P : D → Nat → Prop} {PX : XE → Nat → Prop} (hm : 1 ≤ many ∧ many ≤ 60) (hl : ns.length ≤ 63) (h : ∀ cs : List Int, cs.length ≤ many → P (.list (cs.map .int)) n) : Ffolded [.d (.list (ns.map .int)), .d (.int many)] n P PX := by
  show bodyM 5 (fun _ => b_law_folded) _ _ _ _
  have z20 := sz20
  simp [b_law_folded, cutG_map, cut_to (show 0 ≤ many by omega)]
  rw [← List.map_take]
  refine for_inv (fun i τ n' => ∃ (cs : List Int) (y3 y4 : Option Sl), τ = [some (.d (.list (ns.map .int))), some (.d (.int many)), some (.ow (cs.map .int)), y3, y4] ∧ cs.length = min ns.length many.toNat ∧ n' = n) _ 0 _ _ ⟨ns.take many.toNat, none, none, rfl, by simp [Nat.min_comm], rfl⟩ ?_ ?_
  · rintro i x hx τ n1 N ⟨cs, y3, y4, rfl, hc, rfl⟩ hN
    rw [enumD_get] at hx
    simp only [List.getElem?_map] at hx
    cases e : (cutG ns (some many) (some 63))[i]? with
    | none => rw [e] at hx; cases hx
    | some c =>
      rw [e] at hx
      simp at hx
      subst hx
      have il : i < (cutG ns (some many) (some 63)).length := (List.getElem?_eq_some_iff.mp e).1
      have il2 : i < ns.length - many.toNat := by
        unfold cutG at il
        obtain ⟨k, rfl⟩ := Int.eq_ofNat_of_zero_le (show 0 ≤ many by omega)
        rw [HT.sIx_nat] at il
        simp at il ⊢
        omega
      have hcl : (cs.length : Int) = many := by omega
      have q0 : 0 ≤ (i : Int) % many := Int.emod_nonneg _ (by omega)
      have q1 : (i : Int) % many < many := Int.emod_lt_of_pos _ (by omega)
      have q2 : ((i : Int) % many).toNat < cs.length := by omega
      have at1 : atI (cs.map PyData.int) ((i : Int) % many) = some (.int cs[((i : Int) % many).toNat]) := by
        rw [atI_nat _ q0]
        simp [q2]
      have ix1 : ixN cs.length ((i : Int) % many) = some ((i : Int) % many).toNat := by
        unfold ixN
        rw [if_pos q0, if_pos (by omega)]
      simp [at1, ix1]
      have r1 : (cs.map PyData.int).set ((i : Int) % many).toNat (PyData.int (cs[((i : Int) % many).toNat] + c * ((i : Int) + 2))) = (cs.set ((i : Int) % many).toNat (cs[((i : Int) % many).toNat] + c * ((i : Int) + 2))).map .int := by rw [List.map_set]
      rw [r1]
      exact ⟨by omega, mul64 (by omega) (by omega), by omega, hN _ _ ⟨_, _, _, rfl, by simpa using hc, rfl⟩⟩
  · rintro τ n1 ⟨cs, y3, y4, rfl, hc, rfl⟩
    simp
    exact h cs (by omega)
def Flaw : FM := bodyM 3 fun _ => b_law Ffolded Fright Fdip
theorem law_turns {k : Nat} {ns cs : List Int} (hk : k ≤ 61) (me : EM) (hme : me = mCallBx Fright (mCal 2 Fdip (kCons (mVar 1) (kCons (mVar 2) kNil)))) :
    lcD (gN 2) cYes me [some (.d (.list (ns.map .int))), some (.d (.list (cs.map .int))), none] (rangeD 0 k) [] 0 fun x _ => dAll x fun d => d = .bool true := by
  subst hme
  have z20 := sz20
  rw [rangeD_nat]
  refine lc_map natD (fun j => [some (.d (.list (ns.map .int))), some (.d (.list (cs.map .int))), some (.d (natD j))]) (fun _ => true) (fun _ => .bool true) (List.range k) (fun a ha n R r => by simpa using r) (fun a ha n R r => by simpa using r) (fun a ha _ n R r => ?_) [] 0 _ (by simp; omega) ?_
  · have ha' : a < k := by simpa using ha
    show mCal 2 Fdip (kCons (mVar 1) (kCons (mVar 2) kNil)) _ _ _
    simp
    exact dip_ok (by omega) fun x y h1 h2 h3 => ⟨x, y, rfl, h1, ⟨h2, h3⟩, right_ok fun _ => r⟩
  · rw [List.filter_eq_self.mpr (by simp)]
    exact ⟨List.replicate k true, by simp [List.map_const'], by simp⟩
theorem law_ok (ns : List Int) (hl : ns.length ≤ 63) : Flaw [.d (.list (ns.map .int))] 0 (fun d _ => d = .bool true) fun _ _ => False := by
  show bodyM 3 (fun _ => b_law Ffolded Fright Fdip) _ _ _ _
  simp [b_law]
  refine folded_ok (by decide) hl fun cs hc => ?_
  simp
  have hk : ∃ k : Nat, (if 1 < (cs.length : Int) then (cs.length : Int) else 1) = k ∧ k ≤ 60 := by
    split
    · exact ⟨cs.length, rfl, by omega⟩
    · exact ⟨1, rfl, by decide⟩
  obtain ⟨k, e, hk⟩ := hk
  simp only [e]
  refine ⟨⟨by omega, by omega⟩, ?_⟩
  simp [wipeE]
  exact law_turns (by omega) _ rfl
end TL
set_option Elab.async false
set_option linter.all false
set_option maxRecDepth 100000
set_option maxHeartbeats 4000000
namespace TL
open PySem PySem.Spec PyProof.Rows L2
section
variable {P : Program} {w : World} {K : PySem.W.Frag} {mg : Str → Option Value} {base : Heap}
theorem fnok_law {k : Nat} {fa : Addr} {fd : FuncData} (F : FunD K "law" "law" (defArgs (top 21)) (defBody (top 21)) (defScope (top 21)) [] [] fa fd) (Z : Fz mg) (C_law_folded : Cal P w K mg base "_law_folded" (defArgs (top 12)) ["_law_script", "_law_many"] k .fz Ffolded) (C_law_right : GCal P w K mg base "_law_right" (defArgs (top 20)) ["_law_box"] k .fz Fright) (C_law_dip : Cal P w K mg base "_law_dip" (defArgs (top 10)) ["_law_script", "_law_k"] k .nw Fdip) :
    GOk P w K mg base (k + 1) fa fd ["_law_script"] (Pr K .fz 1 Flaw) :=
  have nd := sc_law.nd
  gn_ok F sc_law rfl rfl (fun cdv A outer s H E hgd hr => by
    conv => arg 3; whnf
    exact (s_cons (p_set (k := .fz) (i := 1) (fun z => nomatch z) nd rfl (by first | exact Or.inl rfl | exact Or.inr rfl) (e_cal C_law_folded hr (by rfl) (a_cons (e_var (pv 0)) (a_cons e_int a_nil)))) (s_one (p_ret (e_all rfl (E2.bw (e_lc (own := [("_law_k", 2)]) rfl nd (I2.j (i_range1 (by rfl) Z.range (E2.bw (e_max2 rfl (E2.bw e_int) (E2.bw (e_len (by rfl) Z.len (E2.bw (e_var (pv 1))))) (by rfl) Z.max)))) (blkOk_by rfl) (fun _ _ _ _ _ => (g_name (i := 2) (pg_name (i := 2) nd rfl (by first | exact Or.inl rfl | exact Or.inr rfl)))) (fun _ _ _ _ _ => c_nil) (fun _ _ _ _ _ => (e_calBxG C_law_right rfl hgd hr (by rfl) (e_cal C_law_dip hr (by rfl) (a_cons (e_var (pv 1)) (a_cons (e_var (pv 2)) a_nil))))))) (by rfl) Z.all)))))
end
def dd_init_MayNot : He.DefD := ⟨("MayNot", some "__init__"), "__init__", "MayNot.__init__", defArgs (mth 1 0), defBody (mth 1 0), defScope (mth 1 0), [], []⟩
def dd_rowed : He.DefD := ⟨("rowed", none), "rowed", "rowed", defArgs (top 4), defBody (top 4), defScope (top 4), [], []⟩
def dd_lets_pass : He.DefD := ⟨("lets_pass", none), "lets_pass", "lets_pass", defArgs (top 5), defBody (top 5), defScope (top 5), [], []⟩
def dd_may_pass : He.DefD := ⟨("may_pass", none), "may_pass", "may_pass", defArgs (top 6), defBody (top 6), defScope (top 6), [], []⟩
def dd_with_pair : He.DefD := ⟨("with_pair", none), "with_pair", "with_pair", defArgs (top 7), defBody (top 7), defScope (top 7), [], []⟩
def dd_passed : He.DefD := ⟨("passed", none), "passed", "passed", defArgs (top 8), defBody (top 8), defScope (top 8), [], []⟩
def dd_law_dip : He.DefD := ⟨("_law_dip", none), "_law_dip", "_law_dip", defArgs (top 10), defBody (top 10), defScope (top 10), [], []⟩
def dd_law_take : He.DefD := ⟨("_law_take", none), "_law_take", "_law_take", defArgs (top 11), defBody (top 11), defScope (top 11), [], []⟩
def dd_law_folded : He.DefD := ⟨("_law_folded", none), "_law_folded", "_law_folded", defArgs (top 12), defBody (top 12), defScope (top 12), [], []⟩
def dd_law_same : He.DefD := ⟨("_law_same", none), "_law_same", "_law_same", defArgs (top 13), defBody (top 13), defScope (top 13), [], []⟩
def dd_law_of : He.DefD := ⟨("_law_of", none), "_law_of", "_law_of", defArgs (top 14), defBody (top 14), defScope (top 14), [], []⟩
def dd_law_row : He.DefD := ⟨("_law_row", none), "_law_row", "_law_row", defArgs (top 15), defBody (top 15), defScope (top 15), [], []⟩
def dd_law_lets : He.DefD := ⟨("_law_lets", none), "_law_lets", "_law_lets", defArgs (top 16), defBody (top 16), defScope (top 16), [], []⟩
def dd_law_passed : He.DefD := ⟨("_law_passed", none), "_law_passed", "_law_passed", defArgs (top 17), defBody (top 17), defScope (top 17), [], []⟩
def dd_law_barred : He.DefD := ⟨("_law_barred", none), "_law_barred", "_law_barred", defArgs (top 18), defBody (top 18), defScope (top 18), [], []⟩
def dd_law_one_right : He.DefD := ⟨("_law_one_right", none), "_law_one_right", "_law_one_right", defArgs (top 19), defBody (top 19), defScope (top 19), [], []⟩
def dd_law_right : He.DefD := ⟨("_law_right", none), "_law_right", "_law_right", defArgs (top 20), defBody (top 20), defScope (top 20), [], []⟩
def dd_law : He.DefD := ⟨("law", none), "law", "law", defArgs (top 21), defBody (top 21), defScope (top 21), [], []⟩
def fnl : List He.DefD := [dd_rowed, dd_lets_pass, dd_may_pass, dd_with_pair, dd_passed, dd_law_dip, dd_law_take, dd_law_folded, dd_law_same, dd_law_of, dd_law_row, dd_law_lets, dd_law_passed, dd_law_barred, dd_law_one_right, dd_law_right, dd_law, dd_init_MayNot]
def fal : List He.Fa := [.glo "rowed", .glo "lets_pass", .glo "may_pass", .glo "with_pair", .glo "passed", .glo "_law_dip", .glo "_law_take", .glo "_law_folded", .glo "_law_same", .glo "_law_of", .glo "_law_row", .glo "_law_lets", .glo "_law_passed", .glo "_law_barred", .glo "_law_one_right", .glo "_law_right", .glo "law", .free "len", .free "range", .free "tuple", .free "list", .free "enumerate", .free "all", .free "any", .free "int", .free "abs", .free "sorted", .free "zip", .free "dict", .free "str", .free "sum", .free "max", .free "min", .free "repr", .free "set", .free "reversed", .free "isinstance", .free "bool", .free "RuntimeError"]
def exX (K : PySem.W.Frag) : Bool := exTB K exL
abbrev hkL : PySem.W.Hook := hookZ 4 fal fnl exX
def obL (s : PySem.W.SharedT) : AlZ := obsZG 4 fal fnl exX (HandSHeadRun.getT s)
theorem obL_eq (s : PySem.W.SharedT) : obL s = hkL.obs s.abs := obsZG_eq (HandSHeadRun.getT_eq s)
def looseL : List PySem.Str := "rowed" :: "lets_pass" :: "may_pass" :: "with_pair" :: "passed" :: "_law_dip" :: "_law_take" :: "_law_folded" :: "_law_same" :: "_law_of" :: "_law_row" :: "_law_lets" :: "_law_passed" :: "_law_barred" :: "_law_one_right" :: "_law_right" :: "MayNot" :: "NotLet" :: []
set_option maxHeartbeats 0 in
theorem runL (w : World) : HandSHeadRun.RunEq (PySem.W.OpenLaw.row PySem.Challenge.rw_hayherd_k02_who_may_pass) (PySem.W.view (PySem.W.OpenLaw.row PySem.Challenge.rw_hayherd_k02_who_may_pass).prog [21]) hkL obL 4000 looseL w := by
  intro os
  kernel_rfl
theorem facts {P : Program} {w : World} {K : PySem.W.Frag} {h : Heap} {mg : Str → Option Value} {f : Addr} (X : K.In h) (G : h.Ns mainGlobals mg) (hfa : mg ("law" : Str) = some (.ref f)) (cz : SaysZ fal fnl exX K) :
    ∃ fd : FuncData, (∀ (s : Shared) (v : Value), BindsTo s fd ⟨[v], []⟩ [("_law_script", v)]) ∧ ∀ base : Heap, K.In base → base.Ns mainGlobals mg → GOk P w K mg base 9 f fd ["_law_script"] (TL.spLaw K) := by
  have c : He.SaysD fal fnl K := cz.d
  have T : XT K mg exL := xt_ok X G cz.x
  obtain ⟨fd_rowed, F_rowed⟩ := c.def_ 0 (d := dd_rowed) rfl
  obtain ⟨fd_lets_pass, F_lets_pass⟩ := c.def_ 1 (d := dd_lets_pass) rfl
  obtain ⟨fd_may_pass, F_may_pass⟩ := c.def_ 2 (d := dd_may_pass) rfl
  obtain ⟨fd_with_pair, F_with_pair⟩ := c.def_ 3 (d := dd_with_pair) rfl
  obtain ⟨fd_passed, F_passed⟩ := c.def_ 4 (d := dd_passed) rfl
  obtain ⟨fd_law_dip, F_law_dip⟩ := c.def_ 5 (d := dd_law_dip) rfl
  obtain ⟨fd_law_take, F_law_take⟩ := c.def_ 6 (d := dd_law_take) rfl
  obtain ⟨fd_law_folded, F_law_folded⟩ := c.def_ 7 (d := dd_law_folded) rfl
  obtain ⟨fd_law_same, F_law_same⟩ := c.def_ 8 (d := dd_law_same) rfl
  obtain ⟨fd_law_of, F_law_of⟩ := c.def_ 9 (d := dd_law_of) rfl
  obtain ⟨fd_law_row, F_law_row⟩ := c.def_ 10 (d := dd_law_row) rfl
  obtain ⟨fd_law_lets, F_law_lets⟩ := c.def_ 11 (d := dd_law_lets) rfl
  obtain ⟨fd_law_passed, F_law_passed⟩ := c.def_ 12 (d := dd_law_passed) rfl
  obtain ⟨fd_law_barred, F_law_barred⟩ := c.def_ 13 (d := dd_law_barred) rfl
  obtain ⟨fd_law_one_right, F_law_one_right⟩ := c.def_ 14 (d := dd_law_one_right) rfl
  obtain ⟨fd_law_right, F_law_right⟩ := c.def_ 15 (d := dd_law_right) rfl
  obtain ⟨fd_law, F_law⟩ := c.def_ 16 (d := dd_law) rfl
  have g_rowed := He.glo_ok X G (c.fact 0 (f := .glo "rowed") rfl)
  have g_lets_pass := He.glo_ok X G (c.fact 1 (f := .glo "lets_pass") rfl)
  have g_may_pass := He.glo_ok X G (c.fact 2 (f := .glo "may_pass") rfl)
  have g_with_pair := He.glo_ok X G (c.fact 3 (f := .glo "with_pair") rfl)
  have g_passed := He.glo_ok X G (c.fact 4 (f := .glo "passed") rfl)
  have g_law_dip := He.glo_ok X G (c.fact 5 (f := .glo "_law_dip") rfl)
  have g_law_take := He.glo_ok X G (c.fact 6 (f := .glo "_law_take") rfl)
  have g_law_folded := He.glo_ok X G (c.fact 7 (f := .glo "_law_folded") rfl)
  have g_law_same := He.glo_ok X G (c.fact 8 (f := .glo "_law_same") rfl)
  have g_law_of := He.glo_ok X G (c.fact 9 (f := .glo "_law_of") rfl)
  have g_law_row := He.glo_ok X G (c.fact 10 (f := .glo "_law_row") rfl)
  have g_law_lets := He.glo_ok X G (c.fact 11 (f := .glo "_law_lets") rfl)
  have g_law_passed := He.glo_ok X G (c.fact 12 (f := .glo "_law_passed") rfl)
  have g_law_barred := He.glo_ok X G (c.fact 13 (f := .glo "_law_barred") rfl)
  have g_law_one_right := He.glo_ok X G (c.fact 14 (f := .glo "_law_one_right") rfl)
  have g_law_right := He.glo_ok X G (c.fact 15 (f := .glo "_law_right") rfl)
  have g_law := He.glo_ok X G (c.fact 16 (f := .glo "law") rfl)
  have Z : Fz mg := ⟨He.free_ok X G (c.fact 17 (f := .free "len") rfl), He.free_ok X G (c.fact 18 (f := .free "range") rfl), He.free_ok X G (c.fact 19 (f := .free "tuple") rfl), He.free_ok X G (c.fact 20 (f := .free "list") rfl), He.free_ok X G (c.fact 21 (f := .free "enumerate") rfl), He.free_ok X G (c.fact 22 (f := .free "all") rfl), He.free_ok X G (c.fact 23 (f := .free "any") rfl), He.free_ok X G (c.fact 24 (f := .free "int") rfl), He.free_ok X G (c.fact 25 (f := .free "abs") rfl), He.free_ok X G (c.fact 26 (f := .free "sorted") rfl), He.free_ok X G (c.fact 27 (f := .free "zip") rfl), He.free_ok X G (c.fact 28 (f := .free "dict") rfl), He.free_ok X G (c.fact 29 (f := .free "str") rfl), He.free_ok X G (c.fact 30 (f := .free "sum") rfl), He.free_ok X G (c.fact 31 (f := .free "max") rfl), He.free_ok X G (c.fact 32 (f := .free "min") rfl), He.free_ok X G (c.fact 33 (f := .free "repr") rfl), He.free_ok X G (c.fact 34 (f := .free "set") rfl), He.free_ok X G (c.fact 35 (f := .free "reversed") rfl), He.free_ok X G (c.fact 36 (f := .free "isinstance") rfl), He.free_ok X G (c.fact 37 (f := .free "bool") rfl)⟩
  have fz_RuntimeError := He.free_ok X G (c.fact 38 (f := .free "RuntimeError") rfl)
  obtain ⟨fd_init_MayNot, F_init_MayNot⟩ := c.def_ 17 (d := dd_init_MayNot) rfl
  have e := hfa.symm.trans g_law
  cases e
  have b := FunD.bindsA (ps := ["_law_script"]) F_law fun _ _ _ _ _ _ us hl => match us, hl with | [_], _ => rfl
  refine ⟨fd_law, fun s v => b s [v] rfl, fun base _ _ => ?_⟩
  have X_MayNot : ExK P w K mg base "MayNot" "place" 1 := raw_init_MayNot F_init_MayNot T fz_RuntimeError
  have C_law_folded : Cal P w K mg base "_law_folded" (defArgs (top 12)) ["_law_script", "_law_many"] 1 .fz Ffolded := raw_law_folded (k := 0) F_law_folded g_law_folded Z 
  have C_law_take : Cal P w K mg base "_law_take" (defArgs (top 11)) ["_law_box", "_law_many"] 1 .fz fTake := raw_law_take F_law_take g_law_take
  have C_law_of : Cal P w K mg base "_law_of" (defArgs (top 14)) ["_law_box", "_law_pool"] 2 .fz Fof := raw_law_of (k := 1) F_law_of g_law_of Z C_law_take
  have C_law_row : Cal P w K mg base "_law_row" (defArgs (top 15)) ["_law_box", "_law_most"] 3 .fz Frow := raw_law_row (k := 2) F_law_row g_law_row Z (C_law_take.up (by decide)) C_law_of
  have C_lets_pass : Cal P w K mg base "lets_pass" (defArgs (top 5)) ["ahead", "behind"] 1 .fz Flets_pass := raw_lets_pass (k := 0) F_lets_pass g_lets_pass Z 
  have C_may_pass : Cal P w K mg base "may_pass" (defArgs (top 6)) ["row"] 2 .nw Fmay_pass := raw_may_pass (k := 1) F_may_pass g_may_pass Z C_lets_pass
  have C0_law_same : Cal P w K mg base "_law_same" (defArgs (top 13)) ["_law_found", "_law_due"] 0 .fz (Fsame 0) := Cal.mk2 F_law_same ⟨fun vs H Q E h => Pr.len vs H Q E h, fun _ _ _ _ _ _ _ _ _ _ _ _ _ hs => (let ⟨_, _, _, _, _, _, _, _, _, _, hm, _⟩ := hs; hm.elim)⟩ g_law_same (fun _ _ _ _ _ _ us hl => match us, hl with | [_, _], _ => rfl)
  have C1_law_same : Cal P w K mg base "_law_same" (defArgs (top 13)) ["_law_found", "_law_due"] 1 .fz (Fsame 1) := raw_law_same F_law_same g_law_same Z C0_law_same
  have C2_law_same : Cal P w K mg base "_law_same" (defArgs (top 13)) ["_law_found", "_law_due"] 2 .fz (Fsame 2) := raw_law_same F_law_same g_law_same Z C1_law_same
  have C3_law_same : Cal P w K mg base "_law_same" (defArgs (top 13)) ["_law_found", "_law_due"] 3 .fz (Fsame 3) := raw_law_same F_law_same g_law_same Z C2_law_same
  have C4_law_same : Cal P w K mg base "_law_same" (defArgs (top 13)) ["_law_found", "_law_due"] 4 .fz (Fsame 4) := raw_law_same F_law_same g_law_same Z C3_law_same
  have C5_law_same : Cal P w K mg base "_law_same" (defArgs (top 13)) ["_law_found", "_law_due"] 5 .fz (Fsame 5) := raw_law_same F_law_same g_law_same Z C4_law_same
  have C6_law_same : Cal P w K mg base "_law_same" (defArgs (top 13)) ["_law_found", "_law_due"] 6 .fz (Fsame 6) := raw_law_same F_law_same g_law_same Z C5_law_same
  have C_law_same := C6_law_same
  have C_rowed : Cal P w K mg base "rowed" (defArgs (top 4)) ["row"] 1 .fz Frowed := raw_rowed (k := 0) F_rowed g_rowed Z 
  have C_with_pair : Cal P w K mg base "with_pair" (defArgs (top 7)) ["row", "place", "ahead", "behind"] 2 .fz Fwith_pair := raw_with_pair (k := 1) F_with_pair g_with_pair Z C_rowed
  have C_passed : CalX P w K mg base "passed" (defArgs (top 8)) ["row", "place"] 3 .fz Fp_passed := raw_passed (k := 2) (j := 1) (by decide) F_passed g_passed Z X_MayNot C_with_pair C_may_pass
  have C_law_barred : Cal P w K mg base "_law_barred" (defArgs (top 18)) ["_law_pen", "_law_spot"] 4 .fz Fbarred := raw_law_barred (k := 3) F_law_barred g_law_barred Z T fz_RuntimeError C_passed
  have C_law_lets : Cal P w K mg base "_law_lets" (defArgs (top 16)) ["_law_pen", "_law_spot"] 1 .fz Flets := raw_law_lets (k := 0) F_law_lets g_law_lets Z 
  have C_law_passed : Cal P w K mg base "_law_passed" (defArgs (top 17)) ["_law_pen", "_law_spot"] 1 .fz Fpassed := raw_law_passed (k := 0) F_law_passed g_law_passed Z 
  have C_law_one_right : GCal P w K mg base "_law_one_right" (defArgs (top 19)) ["_law_box", "_law_pen"] 7 .fz Fone_right := raw_law_one_right (k := 6) F_law_one_right g_law_one_right Z (C_may_pass.up (by decide)) C_law_same (C_law_barred.up (by decide)) (C_law_lets.up (by decide)) (C_passed.up (by decide)) (C_law_passed.up (by decide))
  have C_law_right : GCal P w K mg base "_law_right" (defArgs (top 20)) ["_law_box"] 8 .fz Fright := raw_law_right (k := 7) F_law_right g_law_right Z (C_law_row.up (by decide)) (C_law_take.up (by decide)) C_law_one_right (C_may_pass.up (by decide))
  have C_law_dip : Cal P w K mg base "_law_dip" (defArgs (top 10)) ["_law_script", "_law_k"] 1 .nw Fdip := raw_law_dip (k := 0) F_law_dip g_law_dip Z 
  exact law_fnG (fnok_law (k := 8) F_law Z (C_law_folded.up (by decide)) C_law_right (C_law_dip.up (by decide))) law_ok
end TL
open PySem PySem.W PySem.Calls PyProof.Rows
set_option maxHeartbeats 0 in
theorem PySem.Challenge.cw_hayherd_k02_who_may_pass_holds : PySem.Challenge.rw_hayherd_k02_who_may_pass.Holds := by
  w_on; o_law
  refine HandSHeadRun.head_any (r := OpenLaw.row PySem.Challenge.rw_hayherd_k02_who_may_pass) (q := view (OpenLaw.row PySem.Challenge.rw_hayherd_k02_who_may_pass).prog [21]) (H := TL.hkL) (ob := TL.obL) (M := 4000) (loose := TL.looseL) (d := HandSHeadRun.topDef (OpenLaw.row PySem.Challenge.rw_hayherd_k02_who_may_pass).prog 21) (kwd := []) TL.obL_eq
    (by kernel_rfl) (fun s => by kernel_rfl) TL.runL (by kernel_rfl) (by kernel_rfl) (by kernel_rfl) (by rfl) (by first | assumption | decide +kernel) (by decide +kernel) ⟨rfl, rfl, rfl, rfl, rfl, by decide +kernel⟩ ?hw ?hc
  case hw => w_witness2
  case hc =>
    refine TL.walk_G (l := PySem.Challenge.rw_hayherd_k02_who_may_pass) (n := 63) (k := 9) (x := "_law_script") rfl (by decide) (by kernel_rfl) ⟨rfl, by decide, by decide⟩ ?F
    intro w mg fa h Y G hmg0
    obtain ⟨K, KX, c⟩ := Y
    have hmg : mg ("law" : PySem.Str) = some (.ref fa) := by
      have e : (HandSHeadRun.topDef (OpenLaw.row PySem.Challenge.rw_hayherd_k02_who_may_pass).prog 21).name = ("law" : PySem.Str) := by kernel_rfl
      rw [← e]
      exact hmg0
    obtain ⟨fd, hb, hF⟩ := TL.facts (P := (PySem.Challenge.rw_hayherd_k02_who_may_pass).prog) (w := w) KX G hmg c
    exact ⟨K, fd, TL.spLaw K, KX, hb, fun H a ns hl _ hS => ⟨a, ns, rfl, hS, hl, fun _ => rfl⟩, hF⟩
