import PyProof.Rows.All
import Wide.All
import OpenK.AllK
import Wide.FinOn
import KE.KStateDown
import Lean
import HandS.ForMost
import HandS.ForExc
import HandS.More
import HandS.Conv
import HandS.Deep
import HandS.DictComp
import HandS.IsInst
import HandS.Zip
import HandS.Rev
import HandS.RevRange
import HandS.TupAny
import HandS.TupMul
import HandS.Wide
import HandS.WideBits
import HandS.Words
import HandS.WordsExc
import HandS.Defaults
import HandS.Head0
import HandS.Head1
import HandS.Head2
import HandS.HeadEnd
import HandS.HeadHook1
import HandS.HeadHook2
import KE.KDictKeyed
import KE.KDictDisplayH
import KE.KDictWalk
import KE.GoesMore
import KE.GoesEnum
import HandS.SortInts
import PyProof.AutoSeq1
import PyProof.FitsBits
import HandS.Style
import PyProof.ReprRoads
import KE.KTupSum
import HandS.Walk
import HandS.Strs
import PyProof.FactsAll.tuple_0
import PyProof.FactsAll.tuple_2
import PyProof.FactsAll.tuple_3
import HandS.SetFor
import KE.GoesEnumKw
import HandS.TupSets
import PyProof.SumAnyB
import KE.KSortTupAny
import PyProof.CallFns
import KE.KDictZip
import HandS.ListItems
import KE.KExcInit
import KE.KExcIs
import KE.KTryMore
import HandS.ExcInit
import HandS.ExcOwn
import HandS.ExcField
import HandS.TupLen
import KE.KUnpackStar
import KE.SortData
import KE.DataMinMax
import KE.DataCmp
import PyProof.DictMoreH
import HandS.Text
import HandS.FStr
import PyProof.StrOps2
import HandS.StrMore
import PySem.Challenge.RW_hayherd_k19_asked_again_and_shared
import PyProof.ReprLen
set_option Elab.async false
set_option linter.all false
set_option maxRecDepth 100000
set_option maxHeartbeats 4000000
/-! tuples whose objects are known -/
namespace TL
open PySem PySem.Spec PyProof.Rows L2
/-- a new tuple, known to the object -/
abbrev kT (o : Obj) (xs : List V) : HO := .frz o (.tup xs)
section
variable {X : Cx} {pins : List (Addr × Obj)} {σ : L2.St} {H : Hp} {s : Shared}
theorem push_kT {xs : List V} {us : List Value} {H : Hp} {h : Heap} {a : Addr} {o : Obj} (r : Vals xs us) (hz : xs.length ≤ sizeLine) (ho : h.get? a = some o) (e : o = { cls := .type "tuple", data := .seq us.toArray }) : ObjOk X.prog X.w H h a (kT o xs) :=
  ⟨ho, hz, us, r, ⟨o, ho, by rw [e], 0, by rw [e]⟩⟩
end
section
variable {X : Cx}
def tTupF (t : TA) : TE := fun σ H Q => t σ H fun xs H1 => xs.length ≤ sizeLine ∧ ∀ p o, H1 p = none → o.dict = none → Q (.ref p) (upd H1 p (kT o xs))
theorem pe_tupF {es : List Expr} {t : TA} {pos : Pos} {x1} (h : PA X es t) : PE X (.Tuple es x1 pos) (tTupF t) := by
  refine ⟨fun pins s σ H Q I hq => ?_⟩
  refine wpAny_Tuple_spliced (thn (h.run pos pins s σ H _ I hq) fun us s1 ⟨xs, H1, I1, r, z, q⟩ => ⟨by rw [← r.length]; exact z, ?_⟩)
  exact ⟨.ref s1.heap.objs.size, _, I1.laid (t' := s1.toks) (fun b u e => Heap.get?_push_of_some _ e) (Nat.le_refl _) (push_kT r z (Heap.get?_push_size _ rfl) rfl), rfl, q _ _ (I1.hok.fresh (Nat.le_refl _)) rfl⟩
def rCatF (K : PySem.W.Frag) : R2 := fun x y H Q => ∃ a b xs ys, x = .ref a ∧ y = .ref b ∧ SqT K H a xs ∧ SqT K H b ys ∧ xs.length + ys.length ≤ sizeLine ∧
  (xs = [] → Q (.ref b) H) ∧ (xs ≠ [] → ys = [] → Q (.ref a) H) ∧ (xs ≠ [] → ys ≠ [] → ∀ p o, H p = none → o.dict = none → Q (.ref p) (upd H p (kT o (xs ++ ys))))
theorem op_catF : OpR X (binaryOp .Add) (rCatF X.K) := by
  intro pins s σ H x y v u Q I rx ry h
  obtain ⟨a, b, xs, ys, rfl, rfl, ha, hb, hz, q0, q1, q2⟩ := h
  by_cases hx : xs = []
  · exact op_catA pins s σ H _ _ v u Q I rx ry ⟨a, b, xs, ys, rfl, rfl, ha, hb, hz, q0, fun z => absurd hx z, fun z => absurd hx z⟩
  · cases rx
    cases ry
    obtain ⟨its, r1, p1, _⟩ := I.tuple ha
    obtain ⟨its2, r2, p2, _⟩ := I.tuple hb
    refine HT.cat_tup p1 p2 (fun z => hx (r1.nil_iff.mp z)) (fun z => ⟨.ref a, H, I, rfl, q1 hx (r2.nil_iff.mp z)⟩) (fun z => ?_) (by rw [← r1.length, ← r2.length]; exact hz)
    exact ⟨.ref s.heap.objs.size, _, I.laid (t' := s.toks) (fun b ob q => Heap.get?_push_of_some _ q) (Nat.le_refl _) (push_kT (r1.append r2) (by rw [List.length_append]; exact hz) (Heap.get?_push_size _ rfl) rfl), rfl, q2 hx (fun w => z (r2.nil_iff.mpr w)) _ _ (I.hok.fresh (Nat.le_refl _)) rfl⟩
def rSlF (K : PySem.W.Frag) : V → Option Int → Option Int → Hp → VK → Prop := fun x lo hi H Q => ∃ a xs, x = .ref a ∧ SqT K H a xs ∧
  (HT.sIx xs.length 0 lo = 0 ∧ HT.sIx xs.length xs.length hi = xs.length → Q (.ref a) H) ∧ (¬ (HT.sIx xs.length 0 lo = 0 ∧ HT.sIx xs.length xs.length hi = xs.length) → ∀ p o, H p = none → o.dict = none → Q (.ref p) (upd H p (kT o (cutV xs lo hi))))
theorem sl_tupF : SlR X (rSlF X.K) := by
  intro pins s σ H x v vl vu lo hi sl Q I rx hs pl pu h
  obtain ⟨a, xs, rfl, hx, q1, q2⟩ := h
  by_cases hw : HT.sIx xs.length 0 lo = 0 ∧ HT.sIx xs.length xs.length hi = xs.length
  · exact sl_tupA pins s σ H _ v vl vu lo hi sl Q I rx hs pl pu ⟨a, xs, rfl, hx, q1, fun z => absurd hw z⟩
  · cases rx
    obtain ⟨its, r, ht, hz⟩ := I.tuple hx
    have hlen : its.toArray.size = xs.length := by rw [List.size_toArray]; exact r.length.symm
    refine ⟨"tuple", _, PyProof.Rows.slot_tuple_getitem.lookup, ht.typeIs, ?_⟩
    refine HT.getItem_tuple_cut ht hs pl pu (by rw [hlen]; exact hw) ?_ (by rw [hlen]; exact hz)
    rw [hlen]
    exact ⟨.ref s.heap.objs.size, _, I.laid (t' := s.toks) (fun b ob q => Heap.get?_push_of_some _ q) (Nat.le_refl _)
      (push_kT ((r.drop (HT.sIx xs.length 0 lo)).take (HT.sIx xs.length xs.length hi - HT.sIx xs.length 0 lo)) (Nat.le_trans (cutV_length xs lo hi) hz) (Heap.get?_push_size _ rfl) rfl), rfl, q2 hw _ _ (I.hok.fresh (Nat.le_refl _)) rfl⟩
abbrev rTupleF (K : PySem.W.Frag) : List V → Hp → VK → Prop := fun xs H Q => ∃ p ys, xs = [.ref p] ∧ ((SqL K H p ys ∧ ∀ l o, H l = none → o.dict = none → Q (.ref l) (upd H l (kT o ys))) ∨ (SqT K H p ys ∧ Q (.ref p) H))
theorem call_tupleF : CallR X (.type "tuple") (rTupleF X.K) := by
  intro pins s σ H xs us Q I r h
  obtain ⟨p, ys, rfl, h⟩ := h
  rcases h with ⟨hq, q⟩ | ⟨hq, q⟩
  · obtain ⟨u, rfl, rx⟩ := vals1 r
    cases rx
    obtain ⟨its, r', pl, hz⟩ := I.list hq
    have hlen := r'.length
    refine call_tuple_list pl.isList (fun h' kp => ?_) (by simp only [List.size_toArray] <;> omega)
    have I1 : Inv X pins σ H { s with heap := h' } := I.kept (t' := s.toks) kp
    exact ⟨.ref h'.objs.size, _, I1.laid (t' := s.toks) (fun b o e => Heap.get?_push_of_some _ e) (Nat.le_refl _) (push_kT r' hz (Heap.get?_push_size _ rfl) rfl), rfl, q _ _ (I1.hok.fresh (Nat.le_refl _)) rfl⟩
  · exact call_tuple_of pins s σ H _ us Q I r ⟨p, ys, rfl, .inr ⟨hq, q⟩⟩
end
section
variable {X : Cx}
end
/-! ### plain data in the heap -/
def PlT (K : PySem.W.Frag) (H : Hp) (a : Addr) (xs : List V) : Prop := (∃ o, H a = some (kT o xs) ∧ o.dict = none) ∨
  ∃ (o : Obj) (its : Array Value) (n : Nat), K.lookup a = some o ∧ o.cls = .type "tuple" ∧ o.dict = none ∧ o.data = .seq its n ∧ its.size ≤ sizeLine ∧ Vals xs its.toList
theorem PlT.sq {K : PySem.W.Frag} {H : Hp} {a : Addr} {xs : List V} (h : PlT K H a xs) : SqT K H a xs := by
  rcases h with ⟨o, e, _⟩ | ⟨o, its, n, e1, e2, _, e3, e4, e5⟩
  · exact .inl (.inr ⟨o, e⟩)
  · exact .inr ⟨o, its, n, e1, e2, e3, e4, e5⟩
theorem PlT.mono {K : PySem.W.Frag} {H H' : Hp} {a : Addr} {xs : List V} (e : Same H H') (h : PlT K H a xs) : PlT K H' a xs := by
  rcases h with ⟨o, h, d⟩ | h
  · exact .inl ⟨o, e _ _ h, d⟩
  · exact .inr h
/-- a pair that an iterator made: nothing but its taking apart -/
def rawP (x y : PyData) : PyData := .dict [(.dict [], .dict []), (x, y)]
/-- a dict whose keys are tuples of ints (they stand at the addresses beside them): its values are not told -/
def th (ks : List Int) : Int := reduceHash (Builtin.Tuple.tupleHashOf (ks.map hashInt))
def dEp (a : Addr) (kbs : List (List Int × Addr)) (h : Heap) : Prop := (a == sysModules) = false ∧ kbs.length ≤ sizeLine ∧ ∃ xs : List (List Int × Addr × Value), xs.map (fun x => (x.1, x.2.1)) = kbs ∧
  ∃ o es ep, h.get? a = some o ∧ o.ExactDict ∧ o.data = .dict es ep ∧ es.toList = xs.map (fun x => (⟨th x.1, .ref x.2.1, x.2.2⟩ : DictEntry)) ∧ (xs.map (·.1)).Nodup
def dE (a : Addr) (kbs : List (List Int × Addr)) : HO := .ext (dEp a kbs)
def keyT (k : List Int) : PyData := .tuple (k.map .int)
def PdOk (K : PySem.W.Frag) (H : Hp) (a : Addr) (ks : List PyData) : Prop := ∃ kbs : List (List Int × Addr), H a = some (dE a kbs) ∧ (∀ p ∈ kbs, PlT K H p.2 (p.1.map V.int)) ∧ ks = kbs.map fun p => keyT p.1
theorem PdOk.mono {K : PySem.W.Frag} {H H' : Hp} {a : Addr} {ks : List PyData} (e : Same H H') (h : PdOk K H a ks) : PdOk K H' a ks := by
  obtain ⟨kbs, h1, h2, h3⟩ := h
  exact ⟨kbs, e _ _ h1, fun p hp => (h2 p hp).mono e, h3⟩
/-! a dict whose keys are tuples of numbers, of such tuples ..: the keys, where they stand, the values -/
mutual
def nkOk : NestedKey → Bool
  | .none => true
  | .num _ => true
  | .text _ => false
  | .tup ks => nkOks ks
def nkOks : List NestedKey → Bool
  | [] => true
  | k :: ks => nkOk k && nkOks ks
end
mutual
def nkH : NestedKey → Int
  | .none => reduceHash 0xFCA86420
  | .num i => hashInt i
  | .text _ => 0
  | .tup ks => reduceHash (Builtin.Tuple.tupleHashOf (nkHs ks))
def nkHs : List NestedKey → List Int
  | [] => []
  | k :: ks => nkH k :: nkHs ks
end
def isTupK : NestedKey → Bool
  | .tup _ => true
  | _ => false
def keyOk (k : NestedKey) : Bool := nkOk k && isTupK k && decide (k.depth ≤ 8)
def RK (p : NestedKey × Addr × V) (q : NestedKey × Addr × Value) : Prop := p.1 = q.1 ∧ p.2.1 = q.2.1 ∧ RelV p.2.2 q.2.2
def dVp (a : Addr) (kbs : List (NestedKey × Addr × V)) (h : Heap) : Prop := (a == sysModules) = false ∧ kbs.length ≤ sizeLine ∧ (∀ p ∈ kbs, keyOk p.1 = true) ∧ ∃ xs : List (NestedKey × Addr × Value), Paired RK kbs xs ∧
  ∃ o es ep, h.get? a = some o ∧ o.ExactDict ∧ o.data = .dict es ep ∧ es.toList = xs.map (fun x => (⟨nkH x.1, .ref x.2.1, x.2.2⟩ : DictEntry)) ∧ (xs.map (·.1)).Nodup
def dV (a : Addr) (kbs : List (NestedKey × Addr × V)) : HO := .ext (dVp a kbs)
/-- a caught exception: its class, its dict -/
def excHO (a : Addr) (cls : Value) (d : Addr) : HO := .ext fun h => ∃ o, h.get? a = some o ∧ o.cls = cls ∧ o.dict = some d ∧ ∃ vs, o.data = .fields vs
mutual
inductive Dp (K : PySem.W.Frag) (H : Hp) : V → PyData → Prop
  | non : Dp K H .non .none
  | bl (b : Bool) : Dp K H (.bl b) (.bool b)
  | int (i : Int) : Dp K H (.int i) (.int i)
  | str (x : Str) : Dp K H (.str x) (.str x)
  | lst {a : Addr} {xs : List V} {ds : List PyData} : SqL K H a xs → DpAll K H xs ds → Dp K H (.ref a) (.list ds)
  | tup {a : Addr} {xs : List V} {ds : List PyData} : PlT K H a xs → DpAll K H xs ds → Dp K H (.ref a) (.tuple ds)
  | raw {a : Addr} {x y : V} {d e : PyData} : SqT K H a [x, y] → Dp K H x d → Dp K H y e → Dp K H (.ref a) (.dict [(.dict [], .dict []), (d, e)])
  | pdc {a : Addr} {ks : List PyData} : PdOk K H a ks → Dp K H (.ref a) (.dict [(.none, .list ks)])
  | exc {a d : Addr} {v : V} {c f : Str} {x : PyData} : H a = some (excHO a (.ref (He.ga K c)) d) → H d = some (.xd [(f, v)]) → Dp K H v x → Dp K H (.ref a) (.dict [(.bool true, .str c), (.str f, x)])
  | dki {a : Addr} {o : Obj} {ws : List (Key × V)} {ks : List Int} {kd ds : List PyData} : H a = some (.frz o (.dK ws)) → ws.map (·.1) = ks.map Sum.inl → kd = ks.map PyData.int → DpAll K H (ws.map (·.2)) ds → Dp K H (.ref a) (.dict [(.bool false, .list kd), (.bool false, .list ds)])
  | dti {a : Addr} {kbs : List (NestedKey × Addr × V)} {kd ds : List PyData} : H a = some (dV a kbs) → kd = kbs.map (fun p => p.1.data) → DpAll K H (kbs.map fun p => V.ref p.2.1) kd → DpAll K H (kbs.map (·.2.2)) ds → Dp K H (.ref a) (.dict [(.bool false, .list kd), (.bool true, .list ds)])
  | ins {a dx : Addr} {c : Str} {fs : List (Str × V)} {nd ds : List PyData} : H a = some (.ins (He.ga K c) dx fs) → H dx = some (.own a) → nd = fs.map (fun p => PyData.str p.1) → DpAll K H (fs.map (·.2)) ds → Dp K H (.ref a) (.dict [(.bool true, .str c), (.list nd, .list ds)])
  | hnd {a : Addr} {i : Int} : i = ((a : Nat) : Int) → Dp K H (.ref a) (.dict [(.none, .int i)])
inductive DpAll (K : PySem.W.Frag) (H : Hp) : List V → List PyData → Prop
  | nil : DpAll K H [] []
  | cons {v : V} {vs : List V} {d : PyData} {ds : List PyData} : Dp K H v d → DpAll K H vs ds → DpAll K H (v :: vs) (d :: ds)
end
mutual
theorem dp_l2 {K : PySem.W.Frag} {H : Hp} : ∀ (d : PyData) (v : V), d.canLay0 = true → Dp K H v d → L2.Dp K H v d
  | .none, _, _, q => by cases q; exact .non
  | .bool b, _, _, q => by cases q; exact .bl b
  | .int i, _, _, q => by cases q; exact .int i
  | .str x, _, _, q => by cases q; exact .str x
  | .list ds, _, h, q => by
    cases q with
    | lst hs ha => exact .lst hs (dp_l2All ds _ (by simpa [PyData.canLay0] using h) ha)
  | .tuple ds, _, h, q => by
    cases q with
    | tup hs ha => exact .tup hs.sq (dp_l2All ds _ (by simpa [PyData.canLay0] using h) ha)
  | .dict _, _, h, q => by simp [PyData.canLay0] at h
theorem dp_l2All {K : PySem.W.Frag} {H : Hp} : ∀ (ds : List PyData) (vs : List V), PyData.canLayAll0 ds = true → DpAll K H vs ds → L2.DpAll K H vs ds
  | [], _, _, q => by cases q; exact .nil
  | d :: ds, _, h, q => by
    have h : d.canLay0 = true ∧ PyData.canLayAll0 ds = true := by simpa [PyData.canLayAll0] using h
    cases q with
    | cons a b => exact .cons (dp_l2 d _ h.1 a) (dp_l2All ds _ h.2 b)
end
theorem lay0_shaped {d : PyData} (h : SeqAt.shaped d = true) : d.canLay0 = true := by
  unfold SeqAt.shaped at h
  simp at h
  exact h.1
end TL
set_option Elab.async false
set_option linter.all false
set_option maxRecDepth 100000
set_option maxHeartbeats 4000000
/-! the tree layer: values are plain data -/
namespace TL
open PySem PySem.Spec PyProof.Rows L2

abbrev D := PyData

mutual
theorem dp_mono {K : PySem.W.Frag} {F F' : Hp} (h : Same F F') : ∀ (d : D) (v : V), Dp K F v d → Dp K F' v d
  | .none, _, q => by cases q; exact .non
  | .bool b, _, q => by cases q; exact .bl b
  | .int i, _, q => by cases q; exact .int i
  | .str x, _, q => by cases q; exact .str x
  | .list ds, _, q => by
    cases q with
    | lst hs ha => exact .lst (h.seq hs) (dp_monoAll h ds _ ha)
  | .tuple ds, _, q => by
    cases q with
    | tup hs ha => exact .tup (hs.mono h) (dp_monoAll h ds _ ha)
  | .dict [(.dict [], .dict []), (d, e)], _, q => by
    cases q with
    | raw hs a b => exact .raw (seqT h hs) (dp_mono h d _ a) (dp_mono h e _ b)
  | .dict [(.none, .list ks)], _, q => by
    cases q with
    | pdc hp => exact .pdc (hp.mono h)
  | .dict [(.bool true, .str c), (.str f, d)], _, q => by
    cases q with
    | exc h1 h2 a => exact .exc (h _ _ h1) (h _ _ h2) (dp_mono h d _ a)
  | .dict [(.bool false, .list kd), (.bool false, .list ds)], _, q => by
    cases q with
    | dki h1 h2 h3 a => exact .dki (h _ _ h1) h2 h3 (dp_monoAll h ds _ a)
  | .dict [(.bool false, .list kd), (.bool true, .list ds)], _, q => by
    cases q with
    | dti h1 h2 h3 a => exact .dti (h _ _ h1) h2 (dp_monoAll h kd _ h3) (dp_monoAll h ds _ a)
  | .dict [(.bool true, .str c), (.list nd, .list ds)], _, q => by
    cases q with
    | ins h1 h2 h3 a => exact .ins (h _ _ h1) (h _ _ h2) h3 (dp_monoAll h ds _ a)
  | .dict [(.none, .int i)], _, q => by
    cases q with
    | hnd e => exact .hnd e
theorem dp_monoAll {K : PySem.W.Frag} {F F' : Hp} (h : Same F F') : ∀ (ds : List D) (vs : List V), DpAll K F vs ds → DpAll K F' vs ds
  | [], _, q => by cases q; exact .nil
  | d :: ds, _, q => by
    cases q with
    | cons a b => exact .cons (dp_mono h d _ a) (dp_monoAll h ds _ b)
theorem seqT {K : PySem.W.Frag} {H H' : Hp} {a : Addr} {xs : List V} (e : Same H H') (h : SqT K H a xs) : SqT K H' a xs := by
  rcases h with (h | ⟨o, h⟩) | h
  · exact .inl (.inl (e _ _ h))
  · exact .inl (.inr ⟨o, e _ _ h⟩)
  · exact .inr h
end
theorem dpAll_len {K : PySem.W.Frag} {F : Hp} : ∀ {vs : List V} {ds : List D}, DpAll K F vs ds → vs.length = ds.length
  | _, _, .nil => rfl
  | _, _, .cons _ b => congrArg Nat.succ (dpAll_len b)
theorem dpAll_get {K : PySem.W.Frag} {F : Hp} : ∀ {vs : List V} {ds : List D} {i : Nat} {d : D}, DpAll K F vs ds → ds[i]? = some d → ∃ v, vs[i]? = some v ∧ Dp K F v d
  | _, _, _, _, .nil, e => by simp at e
  | _, _, 0, _, .cons a _, e => by simp at e; subst e; exact ⟨_, rfl, a⟩
  | _, _, i + 1, _, .cons _ b, e => by
    obtain ⟨v, h1, h2⟩ := dpAll_get (i := i) b (by simpa using e)
    exact ⟨v, by simpa using h1, h2⟩
theorem dpAll_append {K : PySem.W.Frag} {F : Hp} : ∀ {vs : List V} {ds : List D} {ws : List V} {es : List D}, DpAll K F vs ds → DpAll K F ws es → DpAll K F (vs ++ ws) (ds ++ es)
  | _, _, _, _, .nil, h => h
  | _, _, _, _, .cons a b, h => .cons a (dpAll_append b h)
theorem dpAll_take {K : PySem.W.Frag} {F : Hp} : ∀ {vs : List V} {ds : List D} (n : Nat), DpAll K F vs ds → DpAll K F (vs.take n) (ds.take n)
  | _, _, 0, _ => .nil
  | _, _, _ + 1, .nil => .nil
  | _, _, n + 1, .cons a b => .cons a (dpAll_take n b)
theorem dpAll_drop {K : PySem.W.Frag} {F : Hp} : ∀ {vs : List V} {ds : List D} (n : Nat), DpAll K F vs ds → DpAll K F (vs.drop n) (ds.drop n)
  | _, _, 0, h => h
  | _, _, _ + 1, .nil => .nil
  | _, _, n + 1, .cons _ b => dpAll_drop n b
theorem dpAll_set {K : PySem.W.Frag} {F : Hp} {v : V} {d : D} (h : Dp K F v d) : ∀ {vs : List V} {ds : List D} (i : Nat), DpAll K F vs ds → DpAll K F (vs.set i v) (ds.set i d)
  | _, _, _, .nil => .nil
  | _, _, 0, .cons _ b => .cons h b
  | _, _, i + 1, .cons a b => .cons a (dpAll_set h i b)
/-- an exception that leaves -/
structure XE where
  cls : Str
  fld : Str
  val : D
def XRep (K : PySem.W.Frag) (F' H' : Hp) (x : XE) (cls : Value) (dd : Option Addr) : Prop := cls = .ref (He.ga K x.cls) ∧ ∃ d v, dd = some d ∧ F' d = some (.xd [(x.fld, v)]) ∧ Dp K F' v x.val
/-! ### what a name holds -/
inductive Sl where
  | d (x : D)
  | ow (xs : List D)
  | box
  | raw (v : V)
  | dk (kvs : List (Key × D))
  | dt (kvs : List (List Key × D))
  | odk (kvs : List (Key × D))
  | odt (kvs : List (NestedKey × D))
  | nl (as : List Addr) (xss : List (List D))
def Sl.own : Sl → Bool
  | .ow _ => true
  | .odk _ => true
  | .odt _ => true
  | .nl _ _ => true
  | _ => false
/-- the places within -/
def Sl.inn : Sl → List Addr
  | .nl as _ => as
  | _ => []
/-- a place of the thing that a name holds -/
def At (s : Sl) (o : Option (Option V)) (b : Addr) : Prop := o = some (some (.ref b)) ∨ b ∈ s.inn
/-- the pairs of a dict -/
def KD {κ : Type} (K : PySem.W.Frag) (F : Hp) : List (κ × V) → List (κ × D) → Prop := Paired fun (p : κ × V) (q : κ × D) => p.1 = q.1 ∧ Dp K F p.2 q.2
theorem KD.mono {κ : Type} {K : PySem.W.Frag} {F F' : Hp} (s : Same F F') {ws : List (κ × V)} {kvs : List (κ × D)} (h : KD K F ws kvs) : KD K F' ws kvs := Paired.mapP h fun p q z => ⟨z.1, dp_mono s q.2 p.2 z.2⟩
/-- the pairs of a dict whose keys stand in the heap; it's not the box -/
def KOp (K : PySem.W.Frag) (F : Hp) (p : NestedKey × Addr × V) (q : NestedKey × D) : Prop := p.1 = q.1 ∧ Dp K F (.ref p.2.1) q.1.data ∧ Dp K F p.2.2 q.2
/-- what may change beside: the law's box, what is kept -/
class Mode where
  S : Type
  b : S → Option Addr
  K : S → PySem.W.Frag
  vol : S → Nat → Addr → Prop
  ok : S → Nat → Hp → Hp → Prop
  isb : ∀ {s : S} {n : Nat} {a : Addr}, b s = some a → vol s n a
  sm : ∀ {s : S} {n : Nat} {H F : Hp}, ok s n H F → Same F H
  at_ : ∀ {s : S} {n : Nat} {H F : Hp} {c : Addr}, ok s n H F → vol s n c → F c = none ∧ ∃ φ, H c = some (.ext φ)
  mono : ∀ {s : S} {n : Nat} {H F H' F' : Hp}, ok s n H F → Same F F' → Same F' H' → (∀ c, vol s n c → H' c = H c ∧ F' c = F c) → ok s n H' F'
section
variable [Mode]
abbrev Bx := Mode.S
abbrev Vol (bx : Bx) (n : Nat) (c : Addr) : Prop := Mode.vol bx n c
def BoxOk (bx : Bx) (n : Nat) (H F : Hp) : Prop := Mode.ok bx n H F
theorem BoxOk.sm {bx : Bx} {n : Nat} {H F : Hp} (x : BoxOk bx n H F) : Same F H := Mode.sm x
theorem BoxOk.at2 {bx : Bx} {n : Nat} {H F : Hp} (x : BoxOk bx n H F) {c : Addr} (v : Vol bx n c) : F c = none ∧ ∃ φ, H c = some (.ext φ) := Mode.at_ x v
theorem BoxOk.at_ {bx : Bx} {n : Nat} {H F : Hp} (x : BoxOk bx n H F) {c : Addr} (v : Vol bx n c) : ∃ φ, H c = some (.ext φ) := (x.at2 v).2
theorem BoxOk.mono {bx : Bx} {n : Nat} {H F H' F' : Hp} (x : BoxOk bx n H F) (s : Same F F') (s' : Same F' H') (h : ∀ c, Vol bx n c → H' c = H c ∧ F' c = F c) : BoxOk bx n H' F' := Mode.mono x s s' h
theorem BoxOk.chg {bx : Bx} {n : Nat} {H F : Hp} (x : BoxOk bx n H F) {a : Addr} {o u : HO} (h : H a = some o) (e : ∀ φ, o ≠ .ext φ) (f : F a = none) : BoxOk bx n (L2.upd H a u) F := by
  refine x.mono (fun _ _ z => z) (fun c w z => ?_) fun c v => ⟨?_, rfl⟩
  · rw [upd_ne (ne_of_none z f)]; exact x.sm c w z
  · obtain ⟨φ, q⟩ := x.at_ v
    exact upd_ne fun z => by subst z; rw [h] at q; exact e φ (Option.some.inj q)
theorem BoxOk.frz {bx : Bx} {n : Nat} {H F : Hp} (x : BoxOk bx n H F) {a : Addr} {o : HO} (h : H a = some o) (e : ∀ φ, o ≠ .ext φ) (f : F a = none) : BoxOk bx n H (upd F a o) := by
  refine x.mono (fun c u z => by rw [upd_ne (ne_of_none z f)]; exact z) (fun c u z => ?_) fun c v => ⟨rfl, ?_⟩
  · by_cases q : c = a
    · subst q; rw [upd_same] at z; cases z; exact h
    · rw [upd_ne q] at z; exact x.sm c u z
  · obtain ⟨φ, q⟩ := x.at_ v
    exact upd_ne fun z => by subst z; rw [h] at q; exact e φ (Option.some.inj q)
theorem BoxOk.no {bx : Bx} {n : Nat} {H F : Hp} (x : BoxOk bx n H F) {c : Addr} {o : HO} (h : H c = some o) (e : ∀ φ, o ≠ .ext φ) : ¬ Vol bx n c := fun v => by
  obtain ⟨φ, q⟩ := x.at_ v
  rw [h] at q
  exact e φ (Option.some.inj q)
theorem BoxOk.upd {bx : Bx} {n : Nat} {H F : Hp} (x : BoxOk bx n H F) {a : Addr} {u : HO} (v : ¬ Vol bx n a) (f : F a = none) : BoxOk bx n (L2.upd H a u) F := by
  refine x.mono (fun _ _ z => z) (fun c w z => ?_) fun c y => ⟨upd_ne fun z => by subst z; exact v y, rfl⟩
  rw [upd_ne (ne_of_none z f)]; exact x.sm c w z
theorem BoxOk.nn {bx : Bx} {n : Nat} {H F : Hp} (x : BoxOk bx n H F) {c : Addr} (h : H c = none) : ¬ Vol bx n c := fun v => by
  obtain ⟨φ, q⟩ := x.at_ v
  rw [h] at q
  cases q
end
variable [Mode]
def KO (K : PySem.W.Frag) (bx : Bx) (a : Addr) (F : Hp) (kbs : List (NestedKey × Addr × V)) (kvs : List (NestedKey × D)) : Prop := (∀ n, ¬ Vol bx n a) ∧ Paired (KOp K F) kbs kvs
theorem KO.mono {K : PySem.W.Frag} {bx : Bx} {a : Addr} {F F' : Hp} (s : Same F F') {kbs : List (NestedKey × Addr × V)} {kvs : List (NestedKey × D)} (h : KO K bx a F kbs kvs) : KO K bx a F' kbs kvs := ⟨h.1, Paired.mapP h.2 fun p q z => ⟨z.1, dp_mono s _ _ z.2.1, dp_mono s _ _ z.2.2⟩⟩
abbrev Ev := List (Option Sl)
/-- kinds of results: frozen, new list, borrowed -/
inductive Kd where
  | fz | nw | bw
  | nn (k : Nat)
  | het
/-- new lists and tuples to a depth of k, no two at one place; d: what they hold -/
def FrA (P : V → D → List Addr → Prop) : List V → List D → List Addr → Prop
  | [], [], fp => fp = []
  | v :: vs, d :: ds, fp => ∃ f1 f2, fp = f1 ++ f2 ∧ P v d f1 ∧ FrA P vs ds f2 ∧ ∀ a ∈ f1, a ∉ f2
  | _, _, _ => False
def NodeAt (H : Hp) (a : Addr) (d : D) (vs : List V) (ds : List D) : Prop := (d = .list ds ∧ H a = some (.lst vs)) ∨ (d = .tuple ds ∧ ∃ o, H a = some (kT o vs))
def FrT (H0 H : Hp) : Nat → V → D → List Addr → Prop
  | 0, _, _, fp => fp = []
  | k + 1, v, d, fp => ∃ a vs ds fp', v = .ref a ∧ fp = a :: fp' ∧ H0 a = none ∧ NodeAt H a d vs ds ∧ a ∉ fp' ∧ FrA (FrT H0 H k) vs ds fp'
theorem FrA.mono {P Q : V → D → List Addr → Prop} : ∀ {vs : List V} {ds : List D} {fp : List Addr}, FrA P vs ds fp → (∀ v d f, P v d f → (∀ a ∈ f, a ∈ fp) → Q v d f) → FrA Q vs ds fp
  | [], [], _, h, _ => h
  | v :: vs, d :: ds, _, ⟨f1, f2, e, h1, h2, h3⟩, w => ⟨f1, f2, e, w v d f1 h1 fun a ha => by rw [e]; exact List.mem_append_left _ ha, FrA.mono h2 fun u x f hu hf => w u x f hu fun a ha => by rw [e]; exact List.mem_append_right _ (hf a ha), h3⟩
  | [], _ :: _, _, h, _ => h.elim
  | _ :: _, [], _, h, _ => h.elim
theorem FrA.len {P : V → D → List Addr → Prop} : ∀ {vs : List V} {ds : List D} {fp : List Addr}, FrA P vs ds fp → vs.length = ds.length
  | [], [], _, _ => rfl
  | v :: vs, d :: ds, _, ⟨f1, f2, e, h1, h2, h3⟩ => congrArg Nat.succ (FrA.len h2)
  | [], _ :: _, _, h => h.elim
  | _ :: _, [], _, h => h.elim
theorem NodeAt.some {H : Hp} {a : Addr} {d : D} {vs : List V} {ds : List D} (h : NodeAt H a d vs ds) : ∃ u, H a = some u ∧ ∀ φ, u ≠ .ext φ := by
  rcases h with ⟨_, h⟩ | ⟨_, o, h⟩
  · exact ⟨_, h, fun φ z => nomatch z⟩
  · exact ⟨_, h, fun φ z => nomatch z⟩
theorem FrT.at {H0 H : Hp} : ∀ {k : Nat} {v : V} {d : D} {fp : List Addr}, FrT H0 H k v d fp → ∀ a ∈ fp, H0 a = none ∧ ∃ u, H a = some u ∧ ∀ φ, u ≠ .ext φ
  | 0, _, _, _, h, a, ha => by
    have h : _ = [] := h
    rw [h] at ha
    cases ha
  | k + 1, v, d, fp, ⟨b, vs, ds, fp', e, ef, h0, h1, _, h2⟩, a, ha => by
    rw [ef] at ha
    rcases List.mem_cons.mp ha with rfl | ha
    · exact ⟨h0, h1.some⟩
    · have all : ∀ {us : List V} {es : List D} {g : List Addr}, FrA (FrT H0 H k) us es g → ∀ a ∈ g, H0 a = none ∧ ∃ u, H a = some u ∧ ∀ φ, u ≠ .ext φ := by
        intro us
        induction us with
        | nil =>
          intro es g z a ha
          cases es with
          | nil => rw [show g = [] from z] at ha; cases ha
          | cons e es => exact z.elim
        | cons u us ih =>
          intro es g z a ha
          cases es with
          | nil => exact z.elim
          | cons e es =>
            obtain ⟨f1, f2, e, g1, g2, _⟩ := z
            rw [e] at ha
            rcases List.mem_append.mp ha with ha | ha
            · exact FrT.at g1 a ha
            · exact ih g2 a ha
      exact all h2 a ha
theorem FrT.mono {H0 H0' H H' : Hp} : ∀ {k : Nat} {v : V} {d : D} {fp : List Addr}, FrT H0 H k v d fp → (∀ a ∈ fp, H0 a = none → H0' a = none) → (∀ a ∈ fp, H' a = H a) → FrT H0' H' k v d fp
  | 0, _, _, _, h, _, _ => h
  | k + 1, v, d, fp, ⟨b, vs, ds, fp', e, ef, h0, h1, h3, h2⟩, w0, w => by
    have mb : b ∈ fp := by rw [ef]; simp
    refine ⟨b, vs, ds, fp', e, ef, w0 b mb h0, by unfold NodeAt; rw [w b mb]; exact h1, h3, FrA.mono h2 fun u x f hu hf => FrT.mono hu (fun a ha => w0 a ?_) (fun a ha => w a ?_)⟩
    · rw [ef]; exact List.mem_cons_of_mem _ (hf a ha)
    · rw [ef]; exact List.mem_cons_of_mem _ (hf a ha)

/-- the law's box at b: three ints, the last one at most n -/
def boxP (b : Addr) (n : Nat) (h : Heap) : Prop := ∃ (x y z : Int) (t u v : Tok) (c : Nat), h.get? b = some { cls := .type "list", data := .seq #[.int x t, .int y u, .int z v] c } ∧
  0 ≤ x ∧ (0 ≤ y ∧ y < 2 ^ 62) ∧ 0 ≤ z ∧ z ≤ n

structure Adv (bx : Bx) (n n' : Nat) (H F H' F' : Hp) : Prop where
  keep : ∀ a o, H a = some o → ¬ Vol bx n a → H' a = some o
  old : ∀ a, H a ≠ none → F' a = F a
  sub : Same F' H'
  box : BoxOk bx n' H' F'
  grow : ∀ c, Vol bx n c → Vol bx n' c
  new : ∀ c, Vol bx n' c → Vol bx n c ∨ H c = none

structure Act where
  K : PySem.W.Frag
  H0 : Hp
  F0 : Hp
  bx : Bx
  n0 : Nat
structure Act.Ok (A : Act) : Prop where
  sub : Same A.F0 A.H0
  box : BoxOk A.bx A.n0 A.H0 A.F0
  bk : Mode.K A.bx = A.K

/-- own lists within an own list -/
def NLA (A : Act) (H F : Hp) : List Addr → List (List D) → Prop
  | [], [] => True
  | a :: as, xs :: xss => (A.H0 a = none ∧ F a = none ∧ ∃ vs, H a = some (.lst vs) ∧ DpAll A.K F vs xs) ∧ NLA A H F as xss
  | _, _ => False
theorem NLA.imp {A A' : Act} {H F H' F' : Hp} : ∀ {as : List Addr} {xss : List (List D)}, NLA A H F as xss → (∀ b ∈ as, ∀ vs xs, A.H0 b = none → F b = none → H b = some (.lst vs) → DpAll A.K F vs xs → A'.H0 b = none ∧ F' b = none ∧ H' b = some (.lst vs) ∧ DpAll A'.K F' vs xs) → NLA A' H' F' as xss
  | [], [], _, _ => trivial
  | a :: as, xs :: xss, ⟨⟨h1, h2, vs, h3, h4⟩, h5⟩, w => by
    obtain ⟨g1, g2, g3, g4⟩ := w a (by simp) vs xs h1 h2 h3 h4
    exact ⟨⟨g1, g2, vs, g3, g4⟩, h5.imp fun b hb => w b (List.mem_cons_of_mem _ hb)⟩
  | [], _ :: _, h, _ => h.elim
  | _ :: _, [], h, _ => h.elim
theorem NLA.len {A : Act} {H F : Hp} : ∀ {as : List Addr} {xss : List (List D)}, NLA A H F as xss → as.length = xss.length
  | [], [], _ => rfl
  | _ :: _, _ :: _, h => congrArg Nat.succ (NLA.len h.2)
  | [], _ :: _, h => h.elim
  | _ :: _, [], h => h.elim
theorem NLA.at_ {A : Act} {H F : Hp} : ∀ {as : List Addr} {xss : List (List D)} {k : Nat} {b : Addr}, NLA A H F as xss → as[k]? = some b → ∃ xs vs, xss[k]? = some xs ∧ A.H0 b = none ∧ F b = none ∧ H b = some (.lst vs) ∧ DpAll A.K F vs xs
  | a :: as, xs :: xss, 0, b, ⟨⟨h1, h2, vs, h3, h4⟩, h5⟩, e => by
    simp at e
    subst e
    exact ⟨xs, vs, rfl, h1, h2, h3, h4⟩
  | a :: as, xs :: xss, k + 1, b, h, e => by
    obtain ⟨ys, vs, e1, r⟩ := NLA.at_ (k := k) h.2 (by simpa using e)
    exact ⟨ys, vs, by simpa using e1, r⟩
  | [], [], _, _, _, e => by simp at e
  | [], _ :: _, _, _, h, _ => h.elim
  | _ :: _, [], _, _, h, _ => h.elim
theorem NLA.mem {A : Act} {H F : Hp} {as : List Addr} {xss : List (List D)} {b : Addr} (h : NLA A H F as xss) (hb : b ∈ as) : A.H0 b = none ∧ F b = none ∧ ∃ vs, H b = some (.lst vs) := by
  obtain ⟨k, hk, e⟩ := List.mem_iff_getElem.mp hb
  obtain ⟨xs, vs, _, h1, h2, h3, _⟩ := h.at_ (k := k) (b := b) (by rw [List.getElem?_eq_getElem hk, e])
  exact ⟨h1, h2, vs, h3⟩
def SlOk (A : Act) (H F : Hp) : Sl → V → Prop
  | .d x, v => Dp A.K F v x
  | .ow xs, v => ∃ a vs, v = .ref a ∧ A.H0 a = none ∧ F a = none ∧ H a = some (.lst vs) ∧ DpAll A.K F vs xs
  | .box, v => ∃ b, v = .ref b ∧ Mode.b A.bx = some b
  | .raw w, v => v = w
  | .dk kvs, v => ∃ a ws, v = .ref a ∧ F a = some (.dK ws) ∧ KD A.K F ws kvs
  | .dt kvs, v => ∃ a ws, v = .ref a ∧ F a = some (.dT ws) ∧ KD A.K F ws kvs
  | .odk kvs, v => ∃ a ws, v = .ref a ∧ A.H0 a = none ∧ F a = none ∧ H a = some (.dK ws) ∧ KD A.K F ws kvs
  | .odt kvs, v => ∃ a ws, v = .ref a ∧ A.H0 a = none ∧ F a = none ∧ H a = some (dV a ws) ∧ KO A.K A.bx a F ws kvs
  | .nl as xss, v => ∃ a, v = .ref a ∧ (a :: as).Nodup ∧ A.H0 a = none ∧ F a = none ∧ H a = some (.lst (as.map V.ref)) ∧ NLA A H F as xss
structure Rel (A : Act) (τ : Ev) (n : Nat) (σ : L2.St) (H F : Hp) : Prop where
  ok : A.Ok
  len : τ.length = σ.length
  adv : Adv A.bx A.n0 n A.H0 A.F0 H F
  sl : ∀ (i : Nat) (s : Sl), τ[i]? = some (some s) → ∃ v, σ[i]? = some (some v) ∧ SlOk A H F s v
  dis : ∀ (i j : Nat) (a : Addr) (s s' : Sl), i ≠ j → τ[i]? = some (some s) → s.own = true → τ[j]? = some (some s') → s'.own = true → At s σ[i]? a → ¬ At s' σ[j]? a

theorem Adv.refl {bx : Bx} {n : Nat} {H F : Hp} (s : Same F H) (b : BoxOk bx n H F) : Adv bx n n H F H F := ⟨fun _ _ h _ => h, fun _ _ => rfl, s, b, fun _ h => h, fun _ h => .inl h⟩
theorem Adv.trans {bx : Bx} {n1 n2 n3 : Nat} {H1 F1 H2 F2 H3 F3 : Hp} (a : Adv bx n1 n2 H1 F1 H2 F2) (b : Adv bx n2 n3 H2 F2 H3 F3) : Adv bx n1 n3 H1 F1 H3 F3 := by
  refine ⟨fun c o h x => b.keep c o (a.keep c o h x) (fun y => ?_), fun c h => ?_, b.sub, b.box, fun c h => b.grow c (a.grow c h), fun c h => ?_⟩
  · rcases a.new c y with z | z
    · exact x z
    · rw [h] at z; cases z
  rotate_left
  · rcases b.new c h with z | z
    · exact a.new c z
    · by_cases y : Vol bx n1 c
      · exact .inl y
      · cases e : H1 c with
        | none => exact .inr rfl
        | some o => rw [a.keep c o e y] at z; cases z
  have h2 : H2 c ≠ none := by
    by_cases x : Vol bx n1 c
    · obtain ⟨φ, e⟩ := a.box.at_ (a.grow c x)
      rw [e]; exact fun z => nomatch z
    · obtain ⟨o, e⟩ := Option.ne_none_iff_exists'.mp h
      rw [a.keep c o e x]
      exact fun z => nomatch z
  rw [b.old c h2, a.old c h]
/-- what was frozen stays so -/
theorem Adv.fro {bx : Bx} {n n' : Nat} {H F H' F' : Hp} (a : Adv bx n n' H F H' F') (s : Same F H) : Same F F' := fun c o h => by
  rw [a.old c (by rw [s c o h]; exact fun z => nomatch z)]
  exact h
/-- nothing but new things -/
structure PAdv (H F H' F' : Hp) : Prop where
  keep : Same H H'
  old : ∀ a, H a ≠ none → F' a = F a
  sub : Same F' H'
theorem PAdv.refl {H F : Hp} (s : Same F H) : PAdv H F H F := ⟨fun _ _ h => h, fun _ _ => rfl, s⟩
theorem PAdv.adv {bx : Bx} {n : Nat} {H F H' F' : Hp} (a : PAdv H F H' F') (b : BoxOk bx n H F) : Adv bx n n H F H' F' :=
  ⟨fun c o h _ => a.keep c o h, a.old, a.sub, b.mono (fun c o h => by
      rw [a.old c (by rw [b.sm c o h]; exact fun z => nomatch z)]; exact h) a.sub (fun c h => by
      obtain ⟨φ, e⟩ := b.at_ h
      exact ⟨(a.keep c _ e).trans e.symm, a.old c (by rw [e]; exact fun z => nomatch z)⟩), fun _ h => h, fun _ h => .inl h⟩
theorem PAdv.trans {H1 F1 H2 F2 H3 F3 : Hp} (a : PAdv H1 F1 H2 F2) (b : PAdv H2 F2 H3 F3) : PAdv H1 F1 H3 F3 := by
  refine ⟨fun c o h => b.keep c o (a.keep c o h), fun c h => ?_, b.sub⟩
  obtain ⟨o, e⟩ := Option.ne_none_iff_exists'.mp h
  rw [b.old c (by rw [a.keep c o e]; exact fun z => nomatch z), a.old c h]
theorem PAdv.fro {H F H' F' : Hp} (a : PAdv H F H' F') (s : Same F H) : Same F F' := fun c o h => by
  rw [a.old c (by rw [s c o h]; exact fun z => nomatch z)]
  exact h
/-- a new frozen object -/
theorem PAdv.new {H F : Hp} {p : Addr} {o : HO} (s : Same F H) (hp : H p = none) : PAdv H F (upd H p o) (upd F p o) := by
  refine ⟨fun c u h => ?_, fun c h => ?_, fun c u h => ?_⟩
  · rw [upd_ne (ne_of_none h hp)]; exact h
  · have : c ≠ p := fun z => by subst z; exact h hp
    rw [upd_ne this]
  · by_cases z : c = p
    · subst z; rw [upd_same] at h ⊢; exact h
    · rw [upd_ne z] at h ⊢; exact s c u h
/-- a new object that is not frozen -/
theorem PAdv.new' {H F : Hp} {p : Addr} {o : HO} (s : Same F H) (hp : H p = none) : PAdv H F (upd H p o) F := by
  refine ⟨fun c u h => ?_, fun c h => rfl, fun c u h => ?_⟩
  · rw [upd_ne (ne_of_none h hp)]; exact h
  · have : c ≠ p := fun z => by subst z; rw [s c u h] at hp; cases hp
    rw [upd_ne this]; exact s c u h

theorem Rel.same {A : Act} {τ : Ev} {n : Nat} {σ : L2.St} {H F : Hp} (R : Rel A τ n σ H F) : Same F H := R.adv.sub
theorem Rel.box {A : Act} {τ : Ev} {n : Nat} {σ : L2.St} {H F : Hp} (R : Rel A τ n σ H F) : BoxOk A.bx n H F := R.adv.box
theorem SlOk.adv {A : Act} {n n' : Nat} {H F H' F' : Hp} {s : Sl} {v : V} (a : Adv A.bx n n' H F H' F') (sb : Same F H) (bx : BoxOk A.bx n H F) (h : SlOk A H F s v) : SlOk A H' F' s v := by
  cases s with
  | d x => exact dp_mono (a.fro sb) x v h
  | ow xs =>
    obtain ⟨c, vs, e, h0, hf, hl, hd⟩ := h
    have hb : ¬ Vol A.bx n c := bx.no hl fun _ e => nomatch e
    refine ⟨c, vs, e, h0, ?_, a.keep c _ hl hb, dp_monoAll (a.fro sb) xs vs hd⟩
    rw [a.old c (by rw [hl]; exact fun z => nomatch z)]; exact hf
  | box => exact h
  | raw w => exact h
  | dk kvs =>
    obtain ⟨c, ws, e, hf, hd⟩ := h
    exact ⟨c, ws, e, a.fro sb c _ hf, hd.mono (a.fro sb)⟩
  | dt kvs =>
    obtain ⟨c, ws, e, hf, hd⟩ := h
    exact ⟨c, ws, e, a.fro sb c _ hf, hd.mono (a.fro sb)⟩
  | odk kvs =>
    obtain ⟨c, ws, e, h0, hf, hl, hd⟩ := h
    have hb : ¬ Vol A.bx n c := bx.no hl fun _ e => nomatch e
    refine ⟨c, ws, e, h0, ?_, a.keep c _ hl hb, hd.mono (a.fro sb)⟩
    rw [a.old c (by rw [hl]; exact fun z => nomatch z)]; exact hf
  | odt kvs =>
    obtain ⟨c, ws, e, h0, hf, hl, hd⟩ := h
    have hb : ¬ Vol A.bx n c := hd.1 n
    refine ⟨c, ws, e, h0, ?_, a.keep c _ hl hb, hd.mono (a.fro sb)⟩
    rw [a.old c (by rw [hl]; exact fun z => nomatch z)]; exact hf
  | nl as xss =>
    obtain ⟨c, e, nd, h0, hf, hl, hd⟩ := h
    have hb : ¬ Vol A.bx n c := bx.no hl fun _ e => nomatch e
    refine ⟨c, e, nd, h0, ?_, a.keep c _ hl hb, hd.imp fun b _ vs xs g1 g2 g3 g4 => ⟨g1, ?_, a.keep b _ g3 fun z => ?_, dp_monoAll (a.fro sb) xs vs g4⟩⟩
    · rw [a.old c (by rw [hl]; exact fun z => nomatch z)]; exact hf
    · rw [a.old b (by rw [g3]; exact fun z => nomatch z)]; exact g2
    · exact bx.no g3 (fun _ e => nomatch e) z
theorem Rel.step {A : Act} {τ : Ev} {n n' : Nat} {σ : L2.St} {H F H' F' : Hp} (R : Rel A τ n σ H F) (a : Adv A.bx n n' H F H' F') : Rel A τ n' σ H' F' := by
  refine ⟨R.ok, R.len, R.adv.trans a, fun i s h => ?_, R.dis⟩
  obtain ⟨v, e, q⟩ := R.sl i s h
  exact ⟨v, e, q.adv a R.same R.box⟩

/-! ### a new list; the lists in it are new too, no two at one place -/
def HetI (H0 H : Hp) (v : V) (d : D) (fp : List Addr) : Prop := (∃ b ws es, d = .list es ∧ v = .ref b ∧ fp = [b] ∧ H0 b = none ∧ H b = some (.lst ws) ∧ ws.length = es.length) ∨ ((∀ es, d ≠ .list es) ∧ fp = [])
theorem HetI.at {H0 H : Hp} {v : V} {d : D} {fp : List Addr} (h : HetI H0 H v d fp) : ∀ a ∈ fp, H0 a = none ∧ ∃ u, H a = some u ∧ ∀ φ, u ≠ .ext φ := fun a ha => by
  rcases h with ⟨b, ws, es, _, _, rfl, h0, h1, _⟩ | ⟨_, rfl⟩
  · obtain rfl : a = b := by simpa using ha
    exact ⟨h0, _, h1, fun φ z => nomatch z⟩
  · cases ha
theorem HetI.mono {H0 H0' H H' : Hp} {v : V} {d : D} {fp : List Addr} (h : HetI H0 H v d fp) (w0 : ∀ a ∈ fp, H0 a = none → H0' a = none) (w : ∀ a ∈ fp, H' a = H a) : HetI H0' H' v d fp := by
  rcases h with ⟨b, ws, es, e1, e2, rfl, h0, h1, h2⟩ | ⟨e1, rfl⟩
  · exact .inl ⟨b, ws, es, e1, e2, rfl, w0 b (by simp) h0, (w b (by simp)).trans h1, h2⟩
  · exact .inr ⟨e1, rfl⟩
theorem hetA_at {H0 H : Hp} : ∀ {vs : List V} {ds : List D} {fp : List Addr}, FrA (HetI H0 H) vs ds fp → ∀ a ∈ fp, H0 a = none ∧ ∃ u, H a = some u ∧ ∀ φ, u ≠ .ext φ
  | [], [], fp, h, a, ha => by rw [show fp = [] from h] at ha; cases ha
  | v :: vs, d :: ds, fp, ⟨f1, f2, e, h1, h2, _⟩, a, ha => by
    rw [e] at ha
    rcases List.mem_append.mp ha with ha | ha
    · exact h1.at a ha
    · exact hetA_at h2 a ha
  | [], _ :: _, _, h, _, _ => h.elim
  | _ :: _, [], _, h, _, _ => h.elim
def HetR (K : PySem.W.Frag) (H0 H F : Hp) (v : V) (d : D) : Prop := ∃ es a vs fp, d = .list es ∧ v = .ref a ∧ H0 a = none ∧ H a = some (.lst vs) ∧ a ∉ fp ∧ FrA (HetI H0 H) vs es fp ∧ DpAll K F vs es
theorem HetR.mono {K : PySem.W.Frag} {H0 H0' H H' F F' : Hp} {v : V} {d : D} (h : HetR K H0 H F v d) (s : Same F F') (w0 : ∀ a, H0 a = none → H0' a = none) (w : ∀ a, H0 a = none → (∃ u, H a = some u ∧ ∀ φ, u ≠ .ext φ) → H' a = H a) : HetR K H0' H' F' v d := by
  obtain ⟨es, a, vs, fp, e1, e2, h0, h1, h2, h3, h4⟩ := h
  refine ⟨es, a, vs, fp, e1, e2, w0 a h0, (w a h0 ⟨_, h1, fun φ z => nomatch z⟩).trans h1, h2, h3.mono fun v d f hv hf => hv.mono (fun a _ z => w0 a z) fun a ha => ?_, dp_monoAll s _ _ h4⟩
  obtain ⟨z1, z2⟩ := hv.at a ha
  exact w a z1 z2
/-! ### results -/
def RepK (K : PySem.W.Frag) : Kd → (H0 H F : Hp) → V → D → Prop
  | .fz, _, _, F, v, d => Dp K F v d
  | .nw, H0, H, F, v, d => ∃ a vs xs, d = .list xs ∧ v = .ref a ∧ H0 a = none ∧ F a = none ∧ H a = some (.lst vs) ∧ DpAll K F vs xs
  | .bw, _, H, F, v, d => Dp K F v d ∨ ∃ a vs xs, d = .list xs ∧ v = .ref a ∧ H a = some (.lst vs) ∧ DpAll K F vs xs
  | .nn k, H0, H, F, v, d => Dp K F v d ∧ ∃ fp, FrT H0 H k v d fp
  | .het, H0, H, F, v, d => Dp K F v d ∧ HetR K H0 H F v d
theorem RepK.bw {K : PySem.W.Frag} {k : Kd} {H0 H F : Hp} {v : V} {d : D} (h : RepK K k H0 H F v d) : RepK K .bw H0 H F v d := by
  cases k with
  | fz => exact .inl h
  | nw =>
    obtain ⟨a, vs, xs, e1, e2, _, _, h1, h2⟩ := h
    exact .inr ⟨a, vs, xs, e1, e2, h1, h2⟩
  | bw => exact h
  | nn k => exact .inl h.1
  | het => exact .inl h.1
/-- read in the whole heap -/
theorem bw_dp {K : PySem.W.Frag} {H0 H F : Hp} {v : V} {d : D} (s : Same F H) (h : RepK K .bw H0 H F v d) : Dp K H v d := by
  rcases h with h | ⟨a, vs, xs, rfl, rfl, h1, h2⟩
  · exact dp_mono s d v h
  · exact .lst (.inl (.inl h1)) (dp_monoAll s xs vs h2)
theorem bw_l2 {K : PySem.W.Frag} {H0 H F : Hp} {v : V} {d : D} (s : Same F H) (c : d.canLay0 = true) (h : RepK K .bw H0 H F v d) : L2.Dp K H v d := dp_l2 d v c (bw_dp s h)
theorem bw_list {K : PySem.W.Frag} {H0 H F : Hp} {v : V} {xs : List D} (s : Same F H) (h : RepK K .bw H0 H F v (.list xs)) : ∃ a vs, v = .ref a ∧ SqL K H a vs ∧ DpAll K F vs xs := by
  rcases h with h | ⟨a, vs, ys, e, rfl, h1, h2⟩
  · cases h with
    | lst hs ha => exact ⟨_, _, rfl, s.seq hs, ha⟩
  · cases e
    exact ⟨a, vs, rfl, .inl (.inl h1), h2⟩
theorem bw_tup {K : PySem.W.Frag} {H0 H F : Hp} {v : V} {xs : List D} (s : Same F H) (h : RepK K .bw H0 H F v (.tuple xs)) : ∃ a vs, v = .ref a ∧ SqT K H a vs ∧ DpAll K F vs xs := by
  rcases h with h | ⟨a, vs, ys, e, rfl, h1, h2⟩
  · cases h with
    | tup hs ha => exact ⟨_, _, rfl, seqT s hs.sq, ha⟩
  · cases e
theorem bw_int {K : PySem.W.Frag} {H0 H F : Hp} {v : V} {i : Int} (h : RepK K .bw H0 H F v (.int i)) : v = .int i := by
  rcases h with h | ⟨a, vs, ys, e, rfl, h1, h2⟩
  · cases h; rfl
  · cases e
theorem bw_bool {K : PySem.W.Frag} {H0 H F : Hp} {v : V} {i : Bool} (h : RepK K .bw H0 H F v (.bool i)) : v = .bl i := by
  rcases h with h | ⟨a, vs, ys, e, rfl, h1, h2⟩
  · cases h; rfl
  · cases e
theorem bw_str {K : PySem.W.Frag} {H0 H F : Hp} {v : V} {x : Str} (h : RepK K .bw H0 H F v (.str x)) : v = .str x := by
  rcases h with h | ⟨a, vs, ys, e, rfl, h1, h2⟩
  · cases h; rfl
  · cases e
theorem bw_adv {K : PySem.W.Frag} {bx : Bx} {n n' : Nat} {H0 H F H' F' : Hp} {v : V} {d : D} (h : RepK K .bw H0 H F v d) (a : Adv bx n n' H F H' F') (s : Same F H) (bxh : BoxOk bx n H F) : RepK K .bw H0 H' F' v d := by
  rcases h with h | ⟨c, vs, ys, e, e2, h1, h2⟩
  · exact .inl (dp_mono (a.fro s) d v h)
  · refine .inr ⟨c, vs, ys, e, e2, a.keep c _ h1 (bxh.no h1 fun _ e => nomatch e), dp_monoAll (a.fro s) ys vs h2⟩
/-- a new list, frozen -/
theorem nw_fz {K : PySem.W.Frag} {H0 H F : Hp} {v : V} {d : D} (s : Same F H) (h : RepK K .nw H0 H F v d) : ∃ F', (∀ a, H0 a ≠ none → F' a = F a) ∧ Same F' H ∧ Same F F' ∧ (∀ bx n, BoxOk bx n H F → BoxOk bx n H F') ∧ Dp K F' v d := by
  obtain ⟨a, vs, xs, rfl, rfl, h0, hf, h1, h2⟩ := h
  have sf : Same F (upd F a (.lst vs)) := fun c o e => by rw [upd_ne (ne_of_none e hf)]; exact e
  have sm : Same (upd F a (.lst vs)) H := fun c o e => by
    by_cases z : c = a
    · subst z; rw [upd_same] at e; cases e; exact h1
    · rw [upd_ne z] at e; exact s c o e
  refine ⟨upd F a (.lst vs), fun c hc => ?_, sm, sf, fun bx n x => x.mono sf sm fun c hc => ⟨rfl, ?_⟩, .lst (.inl (.inl upd_same)) (dp_monoAll sf xs vs h2)⟩
  · rw [upd_ne]
    intro z; subst z; exact hc h0
  · obtain ⟨φ, e⟩ := x.at_ hc
    exact upd_ne fun z => by subst z; rw [h1] at e; cases e

/-! ### expressions -/
abbrev EM := Ev → Nat → (D → Nat → Prop) → Prop
abbrev CM := Ev → Nat → (Bool → Nat → Prop) → Prop
abbrev AM := Ev → Nat → (List Sl → Nat → Prop) → Prop
def tE (K : PySem.W.Frag) (k : Kd) (m : EM) : TE := fun σ H Q => ∃ A τ n F P, A.K = K ∧ Rel A τ n σ H F ∧ m τ n P ∧ ∀ d n' v H' F', P d n' → Adv A.bx n n' H F H' F' → RepK K k H H' F' v d → Q v H'
def tT (K : PySem.W.Frag) (m : CM) : TT := fun σ H Q => ∃ A τ n F P, A.K = K ∧ Rel A τ n σ H F ∧ m τ n P ∧ ∀ b n' H' F', P b n' → Adv A.bx n n' H F H' F' → Q b H'
def SlArg (K : PySem.W.Frag) (bx : Bx) (F : Hp) : Sl → V → Prop
  | .d x, v => Dp K F v x
  | .ow _, _ => False
  | .box, v => ∃ b, v = .ref b ∧ Mode.b bx = some b
  | .raw w, v => v = w
  | _, _ => False
def tA (K : PySem.W.Frag) (m : AM) : TA := fun σ H Q => ∃ A τ n F P, A.K = K ∧ Rel A τ n σ H F ∧ m τ n P ∧ ∀ ss n' vs H' F', P ss n' → Adv A.bx n n' H F H' F' → Paired (SlArg K A.bx F') ss vs → Q vs H'
structure E2 (X : Cx) (k : Kd) (e : Expr) (m : EM) : Prop where
  pe : PE X e (tE X.K k m)
structure T2 (X : Cx) (e : Expr) (m : CM) : Prop where
  pt : PT X e (tT X.K m)
structure A2 (X : Cx) (es : List Expr) (m : AM) : Prop where
  pa : PA X es (tA X.K m)
theorem pe_weak {X : Cx} {e : Expr} {t t' : TE} (h : PE X e t) (w : ∀ σ H Q, t' σ H Q → t σ H Q) : PE X e t' := ⟨fun pins s σ H Q I q => h.run pins s σ H Q I (w σ H Q q)⟩
theorem pt_weak {X : Cx} {e : Expr} {t t' : TT} (h : PT X e t) (w : ∀ σ H Q, t' σ H Q → t σ H Q) : PT X e t' := ⟨fun pins s σ H Q I q => h.run pins s σ H Q I (w σ H Q q)⟩
theorem pa_weak {X : Cx} {e : List Expr} {t t' : TA} (h : PA X e t) (w : ∀ σ H Q, t' σ H Q → t σ H Q) : PA X e t' := ⟨fun pos pins s σ H Q I q => h.run pos pins s σ H Q I (w σ H Q q)⟩

/-- any result may be read -/
theorem E2.bw {X : Cx} {k : Kd} {e : Expr} {m : EM} (h : E2 X k e m) : E2 X .bw e m := ⟨pe_weak h.pe fun σ H Q ⟨A, τ, n, F, P, eK, R, hm, hq⟩ => ⟨A, τ, n, F, P, eK, R, hm, fun d n' v H' F' p a r => hq d n' v H' F' p a r.bw⟩⟩
/-- a new list, frozen -/
theorem E2.fz {X : Cx} {e : Expr} {m : EM} (h : E2 X .nw e m) : E2 X .fz e m := ⟨pe_weak h.pe fun σ H Q ⟨A, τ, n, F, P, eK, R, hm, hq⟩ => ⟨A, τ, n, F, P, eK, R, hm, fun d n' v H' F' p a r => by
  obtain ⟨F2, h1, h2, h3, hB, h4⟩ := nw_fz a.sub r
  exact hq d n' v H' F2 p ⟨a.keep, fun c hc => (h1 c hc).trans (a.old c hc), h2, hB _ _ a.box, a.grow, a.new⟩ h4⟩⟩

/-! ### names, constants -/
def mVar (i : Nat) : EM := fun τ n Q => ∃ x, τ[i]? = some (some (.d x)) ∧ Q x n
def mVarO (i : Nat) : EM := fun τ n Q => ∃ xs, τ[i]? = some (some (.ow xs)) ∧ Q (.list xs) n
def mC (d : D) : EM := fun _ n Q => Q d n
section
variable {X : Cx}
theorem e_var {i : Nat} {e : Expr} (h : PE X e (tVar i)) : E2 X .fz e (mVar i) := ⟨pe_weak h fun σ H Q ⟨A, τ, n, F, P, eK, R, ⟨x, e, p⟩, hq⟩ => by
  obtain ⟨v, e1, e2⟩ := R.sl i _ e
  refine ⟨v, e1, hq x n v H F p (Adv.refl R.same R.box) ?_⟩
  rw [← eK]
  exact e2⟩
theorem e_varO {i : Nat} {e : Expr} (h : PE X e (tVar i)) : E2 X .bw e (mVarO i) := ⟨pe_weak h fun σ H Q ⟨A, τ, n, F, P, eK, R, ⟨x, e, p⟩, hq⟩ => by
  obtain ⟨v, e1, e2⟩ := R.sl i _ e
  refine ⟨v, e1, hq _ n v H F p (Adv.refl R.same R.box) ?_⟩
  obtain ⟨a, vs, ev, _, _, h1, h2⟩ := e2
  exact .inr ⟨a, vs, x, rfl, ev, h1, eK ▸ h2⟩⟩
theorem e_c {e : Expr} {v : V} {d : D} (h : PE X e (tC v)) (r : ∀ F, Dp X.K F v d) : E2 X .fz e (mC d) := ⟨pe_weak h fun σ H Q ⟨A, τ, n, F, P, eK, R, p, hq⟩ => hq d n v H F p (Adv.refl R.same R.box) (r F)⟩
theorem e_int {i j pos} : E2 X .fz (.Constant (.int i) j pos) (mC (.int i)) := e_c pe_int fun _ => .int i
theorem e_bl {b j pos} : E2 X .fz (.Constant (.bool b) j pos) (mC (.bool b)) := e_c pe_bl fun _ => .bl b
theorem e_non {j pos} : E2 X .fz (.Constant .none j pos) (mC .none) := e_c pe_non fun _ => .non
/-! ### sequencing -/
theorem tE_run {K : PySem.W.Frag} {k : Kd} {m : EM} {A : Act} {τ : Ev} {n : Nat} {σ : L2.St} {H F : Hp} {Q : VK} (eK : A.K = K) (R : Rel A τ n σ H F) {P : D → Nat → Prop} (hm : m τ n P)
    (hq : ∀ d n' v H' F', P d n' → Adv A.bx n n' H F H' F' → RepK K k H H' F' v d → Q v H') : tE K k m σ H Q := ⟨A, τ, n, F, P, eK, R, hm, hq⟩

/-! ### two operands, a plain answer -/
abbrev Op1 := D → (D → Prop) → Prop
abbrev Op2 := D → D → (D → Prop) → Prop
def m1 (f : Op1) (ma : EM) : EM := fun τ n Q => ma τ n fun x n1 => f x fun d => Q d n1
def m2 (f : Op2) (ma mb : EM) : EM := fun τ n Q => ma τ n fun x n1 => mb τ n1 fun y n2 => f x y fun d => Q d n2
/-- a reading of values does what f does to data -/
def Does2 (K : PySem.W.Frag) (k : Kd) (f : Op2) (r : R2) : Prop := ∀ (H F : Hp) (vx vy : V) (x y : D) (P : D → Prop) (Q : VK), Same F H → RepK K .bw H H F vx x → RepK K .bw H H F vy y → f x y P →
  (∀ d v H' F', P d → PAdv H F H' F' → RepK K k H H' F' v d → Q v H') → r vx vy H Q
theorem RepK.h0 {K : PySem.W.Frag} {k : Kd} {H1 H2 H F : Hp} {v : V} {d : D} (s : ∀ a, H2 a = none → H1 a = none) (h : RepK K k H2 H F v d) : RepK K k H1 H F v d := by
  cases k with
  | fz => exact h
  | nw =>
    obtain ⟨a, vs, xs, e1, e2, h0, h1⟩ := h
    exact ⟨a, vs, xs, e1, e2, s a h0, h1⟩
  | bw => exact h
  | nn k =>
    obtain ⟨h1, fp, h2⟩ := h
    exact ⟨h1, fp, h2.mono (fun a _ z => s a z) fun _ _ => rfl⟩
  | het => exact ⟨h.1, h.2.mono (Same.refl F) s fun _ _ _ => rfl⟩
theorem Adv.none_back {bx : Bx} {n n' : Nat} {H F H' F' : Hp} (a : Adv bx n n' H F H' F') (c : Addr) (h : H' c = none) : H c = none := by
  cases e : H c with
  | none => rfl
  | some o =>
    by_cases x : Vol bx n c
    · obtain ⟨φ, q⟩ := a.box.at_ (a.grow c x)
      rw [q] at h; cases h
    · rw [a.keep c o e x] at h; cases h
theorem tOp_m2 {K : PySem.W.Frag} {k : Kd} {f : Op2} {r : R2} {ma mb : EM} (hf : Does2 K k f r) {σ : L2.St} {H : Hp} {Q : VK} (h : tE K k (m2 f ma mb) σ H Q) : tOp r (tE K .bw ma) (tE K .bw mb) σ H Q := by
  obtain ⟨A, τ, n, F, P, eK, R, hm, hq⟩ := h
  refine tE_run eK R hm fun x n1 v1 H1 F1 p1 a1 r1 => ?_
  refine tE_run eK (R.step a1) p1 fun y n2 v2 H2 F2 p2 a2 r2 => ?_
  have a12 := a1.trans a2
  have R2 := R.step a12
  refine hf H2 F2 v1 v2 x y _ _ R2.same (bw_adv (H0 := H2) r1 a2 (R.step a1).same (R.step a1).box) r2 p2 fun d v H3 F3 p3 a3 r3 => ?_
  exact hq d n2 v H3 F3 p3 (a12.trans (a3.adv R2.box)) (r3.h0 fun a h => a12.none_back a h)
end
end TL
set_option Elab.async false
set_option linter.all false
set_option maxRecDepth 100000
set_option maxHeartbeats 4000000
namespace TL
variable [Mode]
open PySem PySem.Spec PyProof.Rows L2
section
variable {X : Cx} {K : PySem.W.Frag}

/-! ### new objects -/
theorem new_tup {H F : Hp} {p : Addr} {o : Obj} {vs : List V} {ds : List D} (s : Same F H) (hp : H p = none) (ho : o.dict = none) (h : DpAll K F vs ds) : PAdv H F (upd H p (kT o vs)) (upd F p (kT o vs)) ∧ Dp K (upd F p (kT o vs)) (.ref p) (.tuple ds) := by
  have a : PAdv H F (upd H p (kT o vs)) (upd F p (kT o vs)) := PAdv.new s hp
  exact ⟨a, .tup (.inl ⟨o, upd_same, ho⟩) (dp_monoAll (a.fro s) ds vs h)⟩
theorem new_raw {H F : Hp} {p : Addr} {x y : V} {d e : D} (s : Same F H) (hp : H p = none) (h1 : Dp K F x d) (h2 : Dp K F y e) : PAdv H F (upd H p (.tup [x, y])) (upd F p (.tup [x, y])) ∧ Dp K (upd F p (.tup [x, y])) (.ref p) (rawP d e) := by
  have a : PAdv H F (upd H p (.tup [x, y])) (upd F p (.tup [x, y])) := PAdv.new s hp
  exact ⟨a, .raw (.inl (.inl upd_same)) (dp_mono (a.fro s) d x h1) (dp_mono (a.fro s) e y h2)⟩
theorem new_nw {H F : Hp} {p : Addr} {vs : List V} {ds : List D} (s : Same F H) (hp : H p = none) (h : DpAll K F vs ds) : PAdv H F (upd H p (.lst vs)) F ∧ RepK K .nw H (upd H p (.lst vs)) F (.ref p) (.list ds) := by
  refine ⟨PAdv.new' s hp, p, vs, ds, rfl, rfl, hp, ?_, upd_same, h⟩
  cases e : F p with
  | none => rfl
  | some o => rw [s p o e] at hp; cases hp

/-! ### operators -/
variable {a b c : Expr} {ma mb mc : EM} {pos : Pos}
theorem e_bin {op : Operator} {r : R2} {k : Kd} {f : Op2} (ho : OpR X (binaryOp op) r) (hf : Does2 X.K k f r) (ha : E2 X .bw a ma) (hb : E2 X .bw b mb) : E2 X k (.BinOp a op b pos) (m2 f ma mb) :=
  ⟨pe_weak (pe_op ho ha.pe hb.pe) fun _ _ _ h => tOp_m2 hf h⟩
theorem e_cmp {op : CmpOp} {r : R2} {f : Op2} (ho : OpR X (compareOp op) r) (hf : Does2 X.K .fz f r) (ha : E2 X .bw a ma) (hb : E2 X .bw b mb) (hm : behindInMarks op b = false) : E2 X .fz (.Compare a [op] [b] pos) (m2 f ma mb) :=
  ⟨pe_weak (pe_cmpR ho ha.pe hb.pe hm) fun _ _ _ h => tOp_m2 hf h⟩
/-- a test of a value that is a truth -/
def mT (m : EM) : CM := fun τ n Q => m τ n fun d n' => ∃ b, d = .bool b ∧ Q b n'
theorem tT_mT {k : Kd} {m : EM} {σ : L2.St} {H : Hp} {Q : Bool → Hp → Prop} (h : tT K (mT m) σ H Q) : tE K k m σ H fun x H1 => ∃ c, x = .bl c ∧ Q c H1 := by
  obtain ⟨A, τ, n, F, P, eK, R, hm, hq⟩ := h
  refine ⟨A, τ, n, F, _, eK, R, hm, ?_⟩
  rintro d n' v H' F' ⟨b, rfl, p⟩ a r
  exact ⟨b, bw_bool r.bw, hq b n' H' F' p a⟩
theorem t_cmp {op : CmpOp} {r : R2} {f : Op2} (ho : OpR X (compareOp op) r) (hf : Does2 X.K .fz f r) (ha : E2 X .bw a ma) (hb : E2 X .bw b mb) (hm : behindInMarks op b = false) : T2 X (.Compare a [op] [b] pos) (mT (m2 f ma mb)) :=
  ⟨pt_weak (pt_cmpR ho ha.pe hb.pe hm) fun _ _ _ h => tOp_m2 hf (tT_mT h)⟩
theorem t_val (h : E2 X .fz a ma) (he : ∀ whole, isTrue a X.env whole = (do let v ← whole; standAt a.pos; holding [v] (truthy v)) := by intro _; rfl) : T2 X a (mT ma) :=
  ⟨pt_weak (pt_val h.pe he) fun _ _ _ h => tT_mT h⟩
/-! ### and, or, not, if -/
variable {ca cb : CM} {rest : List Expr}
def cAnd (a b : CM) : CM := fun τ n Q => a τ n fun c n1 => if c = true then b τ n1 Q else Q false n1
def cOr (a b : CM) : CM := fun τ n Q => a τ n fun c n1 => if c = true then Q true n1 else b τ n1 Q
def cNot (a : CM) : CM := fun τ n Q => a τ n fun c n1 => Q (!c) n1
def mAnd (a b : EM) : EM := fun τ n Q => a τ n fun d n1 => ∃ c, d = .bool c ∧ if c = true then b τ n1 Q else Q (.bool false) n1
def mNot (a : EM) : EM := fun τ n Q => a τ n fun d n1 => ∃ c, d = .bool c ∧ Q (.bool (!c)) n1
def mIf (c : CM) (a b : EM) : EM := fun τ n Q => c τ n fun b' n1 => if b' = true then a τ n1 Q else b τ n1 Q
/-- a test of and, or -/
structure W2 (X : Cx) (e : Expr) (m : CM) : Prop where
  pw : PW X e (tT X.K m)
theorem W2.t (h : W2 X a ca) : T2 X a ca := ⟨h.pw.pt⟩
theorem pw_weak {e : Expr} {t t' : TT} (h : PW X e t) (w : ∀ σ H Q, t' σ H Q → t σ H Q) : PW X e t' := ⟨fun wh pins s σ H Q I q => h.run wh pins s σ H Q I (w σ H Q q)⟩
theorem w_and1 (ha : T2 X a ca) : W2 X (.BoolOp .And [a] pos) ca := ⟨pw_and1 ha.pt⟩
theorem w_or1 (ha : T2 X a ca) : W2 X (.BoolOp .Or [a] pos) ca := ⟨pw_or1 ha.pt⟩
theorem tT_go {m : CM} {A : Act} {τ : Ev} {n : Nat} {σ : L2.St} {H F : Hp} {Q : Bool → Hp → Prop} (eK : A.K = K) (R : Rel A τ n σ H F) {P : Bool → Nat → Prop} (hm : m τ n P)
    (hq : ∀ d n' H' F', P d n' → Adv A.bx n n' H F H' F' → Q d H') : tT K m σ H Q := ⟨A, τ, n, F, P, eK, R, hm, hq⟩
theorem w_and (ha : T2 X a ca) (hb : W2 X (.BoolOp .And (b :: rest) pos) cb) : W2 X (.BoolOp .And (a :: b :: rest) pos) (cAnd ca cb) := by
  refine ⟨pw_weak (pw_and ha.pt hb.pw) fun σ H Q ⟨A, τ, n, F, P, eK, R, hm, hq⟩ => tT_go eK R hm fun d n1 H1 F1 p1 a1 => ?_⟩
  cases d with
  | true => exact iteT (tT_go eK (R.step a1) (by simpa using p1) fun d n2 H2 F2 p2 a2 => hq d n2 H2 F2 p2 (a1.trans a2))
  | false => exact iteF (hq false n1 H1 F1 (by simpa using p1) a1)
theorem w_or (ha : T2 X a ca) (hb : W2 X (.BoolOp .Or (b :: rest) pos) cb) : W2 X (.BoolOp .Or (a :: b :: rest) pos) (cOr ca cb) := by
  refine ⟨pw_weak (pw_or ha.pt hb.pw) fun σ H Q ⟨A, τ, n, F, P, eK, R, hm, hq⟩ => tT_go eK R hm fun d n1 H1 F1 p1 a1 => ?_⟩
  cases d with
  | false => exact iteF (tT_go eK (R.step a1) (by simpa using p1) fun d n2 H2 F2 p2 a2 => hq d n2 H2 F2 p2 (a1.trans a2))
  | true => exact iteT (hq true n1 H1 F1 (by simpa using p1) a1)
theorem t_not (ha : T2 X a ca) : T2 X (.UnaryOp .Not a pos) (cNot ca) :=
  ⟨pt_weak (pt_not ha.pt) fun σ H Q ⟨A, τ, n, F, P, eK, R, hm, hq⟩ => tT_go eK R hm fun d n1 H1 F1 p1 a1 => hq (!d) n1 H1 F1 p1 a1⟩
theorem e_one {op} {k : Kd} (h : E2 X k a ma) : E2 X k (.BoolOp op [a] pos) ma := ⟨pe_one h.pe⟩
theorem e_and (ha : E2 X .fz a ma) (hb : E2 X .fz (.BoolOp .And (b :: rest) pos) mb) : E2 X .fz (.BoolOp .And (a :: b :: rest) pos) (mAnd ma mb) := by
  refine ⟨pe_weak (pe_and ha.pe hb.pe) fun σ H Q ⟨A, τ, n, F, P, eK, R, hm, hq⟩ => tE_run eK R hm ?_⟩
  rintro d n1 v H1 F1 ⟨c, rfl, p1⟩ a1 r1
  refine ⟨c, bw_bool r1.bw, ?_⟩
  cases c with
  | true => exact iteT (tE_run eK (R.step a1) (by simpa using p1) fun d n2 v H2 F2 p2 a2 r2 => hq d n2 v H2 F2 p2 (a1.trans a2) r2)
  | false => exact iteF (hq (.bool false) n1 _ H1 F1 (by simpa using p1) a1 (.bl false))
theorem e_not (ha : E2 X .fz a ma) : E2 X .fz (.UnaryOp .Not a pos) (mNot ma) := by
  refine ⟨pe_weak (pe_not ha.pe) fun σ H Q ⟨A, τ, n, F, P, eK, R, hm, hq⟩ => tE_run eK R hm ?_⟩
  rintro d n1 v H1 F1 ⟨c, rfl, p1⟩ a1 r1
  exact ⟨c, bw_bool r1.bw, hq _ n1 _ H1 F1 p1 a1 (.bl (!c))⟩
theorem e_if {k : Kd} (hc : T2 X c ca) (ha : E2 X k a ma) (hb : E2 X k b mb) : E2 X k (.IfExp c a b pos) (mIf ca ma mb) := by
  refine ⟨pe_weak (pe_ifExp hc.pt ha.pe hb.pe) fun σ H Q ⟨A, τ, n, F, P, eK, R, hm, hq⟩ => tT_go eK R hm fun d n1 H1 F1 p1 a1 => ?_⟩
  cases d with
  | true => exact iteT (tE_run eK (R.step a1) (by simpa using p1) fun d n2 v H2 F2 p2 a2 r2 => hq d n2 v H2 F2 p2 (a1.trans a2) (r2.h0 fun c h => a1.none_back c h))
  | false => exact iteF (tE_run eK (R.step a1) (by simpa using p1) fun d n2 v H2 F2 p2 a2 r2 => hq d n2 v H2 F2 p2 (a1.trans a2) (r2.h0 fun c h => a1.none_back c h))

/-! ### ints -/
def dI2 (g : Int → Int → D) : Op2 := fun x y P => ∃ i j, x = .int i ∧ y = .int j ∧ P (g i j)
def dI2c (C : Int → Int → Prop) (g : Int → Int → D) : Op2 := fun x y P => ∃ i j, x = .int i ∧ y = .int j ∧ C i j ∧ P (g i j)
theorem does_I0 {g : Int → Int → D} {gv : Int → Int → V} (hg : ∀ i j F, Dp K F (gv i j) (g i j)) : Does2 K .fz (dI2 g) (rI0 gv) := by
  rintro H F vx vy x y P Q s rx ry ⟨i, j, rfl, rfl, p⟩ hq
  exact ⟨i, j, bw_int rx, bw_int ry, hq _ _ H F p (PAdv.refl s) (hg i j F)⟩
theorem does_I {C : Int → Int → Prop} {g : Int → Int → D} {gv : Int → Int → V} (hg : ∀ i j F, Dp K F (gv i j) (g i j)) : Does2 K .fz (dI2c C g) (rI C gv) := by
  rintro H F vx vy x y P Q s rx ry ⟨i, j, rfl, rfl, c, p⟩ hq
  exact ⟨i, j, bw_int rx, bw_int ry, c, hq _ _ H F p (PAdv.refl s) (hg i j F)⟩
abbrev dAdd : Op2 := dI2 fun i j => .int (i + j)
abbrev dSub : Op2 := dI2 fun i j => .int (i - j)
abbrev dMul : Op2 := dI2c IntMulOk fun i j => .int (i * j)
abbrev dMod : Op2 := dI2c (fun _ j => 0 < j) fun i j => .int (i % j)
def CPowB (i j : Int) : Prop := 0 ≤ j ∧ (Builtin.Int.intBits i : Int) * j ≤ 2 ^ 27
abbrev dPow : Op2 := dI2c CPowB fun i j => .int (i ^ j.toNat)
abbrev dLt : Op2 := dI2 fun i j => .bool (decide (i < j))
abbrev dLe : Op2 := dI2 fun i j => .bool (decide (i ≤ j))
abbrev dGt : Op2 := dI2 fun i j => .bool (decide (j < i))
abbrev dGe : Op2 := dI2 fun i j => .bool (decide (j ≤ i))
theorem e_add (ha : E2 X .bw a ma) (hb : E2 X .bw b mb) : E2 X .fz (.BinOp a .Add b pos) (m2 dAdd ma mb) := e_bin op_add (does_I0 fun _ _ _ => .int _) ha hb
theorem e_sub (ha : E2 X .bw a ma) (hb : E2 X .bw b mb) : E2 X .fz (.BinOp a .Sub b pos) (m2 dSub ma mb) := e_bin op_sub (does_I0 fun _ _ _ => .int _) ha hb
theorem op_mulO : OpR X (binaryOp .Mult) (rI IntMulOk fun i j => .int (i * j)) := opI fun _ _ _ _ _ _ _ hc q => mul_int q hc
theorem e_mul (ha : E2 X .bw a ma) (hb : E2 X .bw b mb) : E2 X .fz (.BinOp a .Mult b pos) (m2 dMul ma mb) := e_bin op_mulO (does_I fun _ _ _ => .int _) ha hb
theorem e_mod (ha : E2 X .bw a ma) (hb : E2 X .bw b mb) : E2 X .fz (.BinOp a .Mod b pos) (m2 dMod ma mb) := e_bin op_mod (does_I fun _ _ _ => .int _) ha hb
theorem op_powB : OpR X (binaryOp .Pow) (rI CPowB fun i j => .int (i ^ j.toNat)) := opI fun _ _ _ _ _ _ _ hc q => PyProof.Rows.pow_int hc.1 hc.2 q
theorem e_pow (ha : E2 X .bw a ma) (hb : E2 X .bw b mb) : E2 X .fz (.BinOp a .Pow b pos) (m2 dPow ma mb) := e_bin op_powB (does_I fun _ _ _ => .int _) ha hb
theorem e_gt (ha : E2 X .bw a ma) (hb : E2 X .bw b mb) : E2 X .fz (.Compare a [.Gt] [b] pos) (m2 dGt ma mb) := e_cmp op_gt (does_I0 fun _ _ _ => .bl _) ha hb (nomark _)
theorem e_ge (ha : E2 X .bw a ma) (hb : E2 X .bw b mb) : E2 X .fz (.Compare a [.GtE] [b] pos) (m2 dGe ma mb) := e_cmp op_ge (does_I0 fun _ _ _ => .bl _) ha hb (nomark _)
theorem t_lt (ha : E2 X .bw a ma) (hb : E2 X .bw b mb) : T2 X (.Compare a [.Lt] [b] pos) (mT (m2 dLt ma mb)) := t_cmp op_lt (does_I0 fun _ _ _ => .bl _) ha hb (nomark _)
theorem t_le (ha : E2 X .bw a ma) (hb : E2 X .bw b mb) : T2 X (.Compare a [.LtE] [b] pos) (mT (m2 dLe ma mb)) := t_cmp op_le (does_I0 fun _ _ _ => .bl _) ha hb (nomark _)
theorem t_gt (ha : E2 X .bw a ma) (hb : E2 X .bw b mb) : T2 X (.Compare a [.Gt] [b] pos) (mT (m2 dGt ma mb)) := t_cmp op_gt (does_I0 fun _ _ _ => .bl _) ha hb (nomark _)
def dNeg : Op1 := fun x P => ∃ i, x = .int i ∧ P (.int (-i))
theorem e_neg (ha : E2 X .bw a ma) : E2 X .fz (.UnaryOp .USub a pos) (m1 dNeg ma) := by
  refine ⟨pe_weak (pe_un un_neg ha.pe) fun σ H Q ⟨A, τ, n, F, P, eK, R, hm, hq⟩ => tE_run eK R hm ?_⟩
  rintro d n1 v H1 F1 ⟨i, rfl, p⟩ a1 r1
  exact ⟨i, bw_int r1, hq _ n1 _ H1 F1 p a1 (.int _)⟩

/-! ### equality of data -/
def dEq : Op2 := fun x y P => (SeqAt.shaped x = true ∧ SeqAt.shaped y = true) ∧ P (.bool (PyData.eqv x y))
def dNe : Op2 := fun x y P => (SeqAt.shaped x = true ∧ SeqAt.shaped y = true) ∧ P (.bool (!PyData.eqv x y))
theorem does_eq : Does2 K .fz dEq (rEqD K) := by
  rintro H F vx vy x y P Q s rx ry ⟨⟨h1, h2⟩, p⟩ hq
  exact ⟨x, y, bw_l2 s (lay0_shaped h1) rx, bw_l2 s (lay0_shaped h2) ry, h1, h2, hq _ _ H F p (PAdv.refl s) (.bl _)⟩
theorem does_ne : Does2 K .fz dNe (rNeD K) := by
  rintro H F vx vy x y P Q s rx ry ⟨⟨h1, h2⟩, p⟩ hq
  exact ⟨x, y, bw_l2 s (lay0_shaped h1) rx, bw_l2 s (lay0_shaped h2) ry, h1, h2, hq _ _ H F p (PAdv.refl s) (.bl _)⟩
theorem e_eq {k : Nat} (hr : Room k X.A) (ha : E2 X .bw a ma) (hb : E2 X .bw b mb) : E2 X .fz (.Compare a [.Eq] [b] pos) (m2 dEq ma mb) := e_cmp (op_eqD hr.units) does_eq ha hb (nomark _)
theorem t_eq {k : Nat} (hr : Room k X.A) (ha : E2 X .bw a ma) (hb : E2 X .bw b mb) : T2 X (.Compare a [.Eq] [b] pos) (mT (m2 dEq ma mb)) := t_cmp (op_eqD hr.units) does_eq ha hb (nomark _)
theorem t_ne {k : Nat} (hr : Room k X.A) (ha : E2 X .bw a ma) (hb : E2 X .bw b mb) : T2 X (.Compare a [.NotEq] [b] pos) (mT (m2 dNe ma mb)) := t_cmp (op_neD hr.units) does_ne ha hb (nomark _)
/-! ### displays -/
def aNil : Ev → Nat → (List D → Nat → Prop) → Prop := fun _ n Q => Q [] n
def aCons (m : EM) (r : Ev → Nat → (List D → Nat → Prop) → Prop) : Ev → Nat → (List D → Nat → Prop) → Prop := fun τ n Q => m τ n fun d n1 => r τ n1 fun ds n2 => Q (d :: ds) n2
abbrev DM := Ev → Nat → (List D → Nat → Prop) → Prop
def tD (K : PySem.W.Frag) (m : DM) : TA := fun σ H Q => ∃ A τ n F P, A.K = K ∧ Rel A τ n σ H F ∧ m τ n P ∧ ∀ ds n' vs H' F', P ds n' → Adv A.bx n n' H F H' F' → DpAll K F' vs ds → Q vs H'
structure D2 (X : Cx) (es : List Expr) (m : DM) : Prop where
  pa : PA X es (tD X.K m)
theorem d_nil : D2 X [] aNil := ⟨pa_weak pa_nil fun σ H Q ⟨A, τ, n, F, P, eK, R, p, hq⟩ => hq [] n [] H F p (Adv.refl R.same R.box) .nil⟩
theorem d_cons {es : List Expr} {m : DM} (ha : E2 X .fz a ma) (hr : D2 X es m) (hs : starEach (a :: es) X.env = (false, eval a X.env) :: starEach es X.env := by rfl) : D2 X (a :: es) (aCons ma m) := by
  refine ⟨pa_weak (pa_cons ha.pe hr.pa hs) fun σ H Q ⟨A, τ, n, F, P, eK, R, hm, hq⟩ => tE_run eK R hm fun d n1 v H1 F1 p1 a1 r1 => ?_⟩
  refine ⟨A, τ, n1, F1, _, eK, R.step a1, p1, fun ds n2 vs H2 F2 p2 a2 r2 => ?_⟩
  exact hq (d :: ds) n2 (v :: vs) H2 F2 p2 (a1.trans a2) (.cons (dp_mono (a2.fro a1.sub) d v r1) r2)
def mTup (m : DM) : EM := fun τ n Q => m τ n fun ds n' => ds.length ≤ sizeLine ∧ Q (.tuple ds) n'
def mLst (m : DM) : EM := fun τ n Q => m τ n fun ds n' => ds.length ≤ sizeLine ∧ Q (.list ds) n'
theorem e_tup {es : List Expr} {m : DM} {x1} (h : D2 X es m) : E2 X .fz (.Tuple es x1 pos) (mTup m) := by
  refine ⟨pe_weak (pe_tupF h.pa) fun σ H Q ⟨A, τ, n, F, P, eK, R, hm, hq⟩ => ⟨A, τ, n, F, _, eK, R, hm, ?_⟩⟩
  rintro ds n' vs H' F' ⟨z, p⟩ a1 r
  refine ⟨by rw [dpAll_len r]; exact z, fun q o hp ho => ?_⟩
  obtain ⟨b1, b2⟩ := new_tup a1.sub hp ho r
  exact hq _ n' _ _ _ p (a1.trans (b1.adv (R.step a1).box)) b2
theorem e_lst {es : List Expr} {m : DM} (h : D2 X es m) : E2 X .nw (.List es pos) (mLst m) := by
  refine ⟨pe_weak (pe_lst h.pa) fun σ H Q ⟨A, τ, n, F, P, eK, R, hm, hq⟩ => ⟨A, τ, n, F, _, eK, R, hm, ?_⟩⟩
  rintro ds n' vs H' F' ⟨z, p⟩ a1 r
  refine ⟨by rw [dpAll_len r]; exact z, fun q hp => ?_⟩
  obtain ⟨b1, b2⟩ := new_nw a1.sub hp r
  exact hq _ n' _ _ _ p (a1.trans (b1.adv (R.step a1).box)) (b2.h0 fun c h => a1.none_back c h)

/-! ### items, slices -/
theorem dpAll_atI {F : Hp} {vs : List V} {ds : List D} {i : Int} {d : D} (h : DpAll K F vs ds) (e : atI ds i = some d) : ∃ v, atI vs i = some v ∧ Dp K F v d := by
  unfold atI at e ⊢
  rw [dpAll_len h]
  cases q : ixN ds.length i with
  | none => rw [q] at e; cases e
  | some j =>
    rw [q] at e
    exact dpAll_get (i := j) h (by simpa using e)
def dIx : Op2 := fun x y P => (∃ xs i d, x = .list xs ∧ y = .int i ∧ atI xs i = some d ∧ P d) ∨ (∃ xs i d, x = .tuple xs ∧ y = .int i ∧ atI xs i = some d ∧ P d) ∨
  ∃ z i c, x = .str z ∧ y = .int i ∧ z.length ≤ sizeLine ∧ atI z.cps.toList i = some c ∧ P (.str ⟨#[c]⟩)
theorem does_ix : Does2 K .fz dIx (rIx K) := by
  rintro H F vx vy x y P Q s rx ry (⟨xs, i, d, rfl, rfl, e, p⟩ | ⟨xs, i, d, rfl, rfl, e, p⟩ | ⟨z, i, c, rfl, rfl, hz, e, p⟩) hq
  · obtain ⟨l, vs, rfl, h1, h2⟩ := bw_list s rx
    obtain ⟨v, e2, h3⟩ := dpAll_atI h2 e
    exact .inl ⟨l, vs, i, v, rfl, bw_int ry, h1, e2, hq d v H F p (PAdv.refl s) h3⟩
  · obtain ⟨l, vs, rfl, h1, h2⟩ := bw_tup s rx
    obtain ⟨v, e2, h3⟩ := dpAll_atI h2 e
    exact .inr (.inl ⟨l, vs, i, v, rfl, bw_int ry, h1, e2, hq d v H F p (PAdv.refl s) h3⟩)
  · exact .inr (.inr ⟨z, i, c, bw_str rx, bw_int ry, hz, e, hq _ _ H F p (PAdv.refl s) (.str _)⟩)
theorem e_ix (ha : E2 X .bw a ma) (hb : E2 X .bw b mb) (hs : PlainIx b := by exact fun _ _ => rfl) : E2 X .fz (.Subscript a b pos) (m2 dIx ma mb) :=
  ⟨pe_weak (pe_ix ix_seq ha.pe hb.pe hs) fun _ _ _ h => tOp_m2 does_ix h⟩
/-- a slice's ends -/
abbrev OM := Ev → Nat → (Option Int → Nat → Prop) → Prop
def oNone : OM := fun _ n Q => Q none n
def oSome (m : EM) : OM := fun τ n Q => m τ n fun d n' => ∃ i, d = .int i ∧ Q (some i) n'
def tO (K : PySem.W.Frag) (m : OM) : TO := fun σ H Q => ∃ A τ n F P, A.K = K ∧ Rel A τ n σ H F ∧ m τ n P ∧ ∀ o n' H' F', P o n' → Adv A.bx n n' H F H' F' → Q o H'
structure O2 (X : Cx) (e : Option Expr) (m : OM) : Prop where
  po : PO X e (tO X.K m)
theorem po_weak {e : Option Expr} {t t' : TO} (h : PO X e t) (w : ∀ σ H Q, t' σ H Q → t σ H Q) : PO X e t' := ⟨fun pins s σ H Q I q => h.run pins s σ H Q I (w σ H Q q)⟩
theorem o_none : O2 X none oNone := ⟨po_weak po_none fun σ H Q ⟨A, τ, n, F, P, eK, R, p, hq⟩ => hq none n H F p (Adv.refl R.same R.box)⟩
theorem o_some (ha : E2 X .bw a ma) : O2 X (some a) (oSome ma) := by
  refine ⟨po_weak (po_some ha.pe) fun σ H Q ⟨A, τ, n, F, P, eK, R, hm, hq⟩ => tE_run eK R hm ?_⟩
  rintro d n1 v H1 F1 ⟨i, rfl, p⟩ a1 r1
  exact ⟨i, bw_int r1, hq _ n1 H1 F1 p a1⟩
def cutG {α : Type} (xs : List α) (lo hi : Option Int) : List α := (xs.drop (HT.sIx xs.length 0 lo)).take (HT.sIx xs.length xs.length hi - HT.sIx xs.length 0 lo)
theorem dpAll_cut {F : Hp} {vs : List V} {ds : List D} (h : DpAll K F vs ds) (lo hi : Option Int) : DpAll K F (cutV vs lo hi) (cutG ds lo hi) := by
  unfold cutV cutG
  rw [dpAll_len h]
  exact dpAll_take _ (dpAll_drop _ h)
theorem cutG_all {α : Type} {xs : List α} {lo hi : Option Int} (h : HT.sIx xs.length 0 lo = 0 ∧ HT.sIx xs.length xs.length hi = xs.length) : cutG xs lo hi = xs := by
  unfold cutG
  rw [h.1, h.2, List.drop_zero, Nat.sub_zero]
  exact List.take_length
def mSl (f : D → Option Int → Option Int → (D → Prop) → Prop) (ma : EM) (lo hi : OM) : EM := fun τ n Q => ma τ n fun x n1 => lo τ n1 fun l n2 => hi τ n2 fun u n3 => f x l u fun d => Q d n3
def dSlL : D → Option Int → Option Int → (D → Prop) → Prop := fun x lo hi P => ∃ xs, x = .list xs ∧ P (.list (cutG xs lo hi))
def dSlT : D → Option Int → Option Int → (D → Prop) → Prop := fun x lo hi P => ∃ xs, x = .tuple xs ∧ P (.tuple (cutG xs lo hi))
def dSl : D → Option Int → Option Int → (D → Prop) → Prop := fun x lo hi P => dSlT x lo hi P ∨ dSlL x lo hi P
def DoesSl (K : PySem.W.Frag) (k : Kd) (f : D → Option Int → Option Int → (D → Prop) → Prop) (r : V → Option Int → Option Int → Hp → VK → Prop) : Prop := ∀ (H F : Hp) (vx : V) (x : D) (l u : Option Int) (P : D → Prop) (Q : VK), Same F H → RepK K .bw H H F vx x → f x l u P →
  (∀ d v H' F', P d → PAdv H F H' F' → RepK K k H H' F' v d → Q v H') → r vx l u H Q
theorem e_slG {k : Kd} {f} {r : V → Option Int → Option Int → Hp → VK → Prop} {lo hi : Option Expr} {ml mh : OM} {p2 : Pos} (hr : SlR X r) (hf : DoesSl X.K k f r) (ha : E2 X .bw a ma) (hl : O2 X lo ml) (hh : O2 X hi mh) :
    E2 X k (.Subscript a (.Slice lo hi none p2) pos) (mSl f ma ml mh) := by
  refine ⟨pe_weak (pe_slice hr ha.pe hl.po hh.po) fun σ H Q ⟨A, τ, n, F, P, eK, R, hm, hq⟩ => tE_run eK R hm fun x n1 v1 H1 F1 p1 a1 r1 => ?_⟩
  refine ⟨A, τ, n1, F1, _, eK, R.step a1, p1, fun l n2 H2 F2 p2 a2 => ⟨A, τ, n2, F2, _, eK, R.step (a1.trans a2), p2, fun u n3 H3 F3 p3 a3 => ?_⟩⟩
  have a23 := a2.trans a3
  have a13 := a1.trans a23
  refine hf H3 F3 v1 x l u _ _ (R.step a13).same (bw_adv (H0 := H3) r1 a23 (R.step a1).same (R.step a1).box) p3 fun d v H4 F4 p4 a4 r4 => ?_
  exact hq d n3 v H4 F4 p4 (a13.trans (a4.adv (R.step a13).box)) (r4.h0 fun c h => a13.none_back c h)
theorem does_slL : DoesSl K .nw dSlL (rSlL K) := by
  rintro H F vx x l u P Q s rx ⟨xs, rfl, p⟩ hq
  obtain ⟨q, vs, rfl, h1, h2⟩ := bw_list s rx
  refine ⟨q, vs, rfl, h1, fun a hp => ?_⟩
  obtain ⟨b1, b2⟩ := new_nw s hp (dpAll_cut h2 l u)
  exact hq _ _ _ _ p b1 b2
theorem does_slT : DoesSl K .fz dSlT (rSlF K) := by
  rintro H F vx x l u P Q s rx ⟨xs, rfl, p⟩ hq
  have rx' := rx
  obtain ⟨q, vs, rfl, h1, h2⟩ := bw_tup s rx
  refine ⟨q, vs, rfl, h1, fun hw => ?_, fun _ a o hp ho => ?_⟩
  · rw [dpAll_len h2] at hw
    rw [cutG_all hw] at p
    refine hq _ _ H F p (PAdv.refl s) ?_
    rcases rx' with z | ⟨_, _, _, e, _⟩
    · exact z
    · cases e
  · obtain ⟨b1, b2⟩ := new_tup s hp ho (dpAll_cut h2 l u)
    exact hq _ _ _ _ p b1 b2
theorem e_slL {lo hi : Option Expr} {ml mh : OM} {p2 : Pos} (ha : E2 X .bw a ma) (hl : O2 X lo ml) (hh : O2 X hi mh) : E2 X .nw (.Subscript a (.Slice lo hi none p2) pos) (mSl dSlL ma ml mh) := e_slG sl_list does_slL ha hl hh
theorem does_fz {f} {r : V → Option Int → Option Int → Hp → VK → Prop} (h : DoesSl K .nw f r) : DoesSl K .fz f r := by
  intro H F vx x l u P Q s rx p hq
  refine h H F vx x l u P Q s rx p fun d v H' F' pd a r => ?_
  obtain ⟨F2, h1, h2, h3, hB, h4⟩ := nw_fz a.sub r
  exact hq d v H' F2 pd ⟨a.keep, fun c hc => (h1 c hc).trans (a.old c hc), h2⟩ h4
theorem e_sl {lo hi : Option Expr} {ml mh : OM} {p2 : Pos} (ha : E2 X .bw a ma) (hl : O2 X lo ml) (hh : O2 X hi mh) : E2 X .fz (.Subscript a (.Slice lo hi none p2) pos) (mSl dSl ma ml mh) :=
  e_slG (sl_tupF.or sl_list) (fun H F vx x l u P Q s rx p hq => p.elim (fun p => .inl (does_slT H F vx x l u P Q s rx p hq)) fun p => .inr (does_fz does_slL H F vx x l u P Q s rx p hq)) ha hl hh
end
end TL
set_option Elab.async false
set_option linter.all false
set_option maxRecDepth 100000
set_option maxHeartbeats 4000000
namespace TL
variable [Mode]
open PySem PySem.Spec PyProof.Rows L2
section
variable {X : Cx} {K : PySem.W.Frag}

/-! ### names are stored -/
def slOf : Kd → D → Sl
  | .nw, .list xs => .ow xs
  | _, d => .d d
theorem Rel.h0some {A : Act} {τ : Ev} {n : Nat} {σ : L2.St} {H F : Hp} (R : Rel A τ n σ H F) {a : Addr} (h : H a = none) : A.H0 a = none := by
  cases e : A.H0 a with
  | none => rfl
  | some o =>
    by_cases x : Vol A.bx A.n0 a
    · obtain ⟨φ, q⟩ := R.box.at_ (R.adv.grow a x)
      rw [q] at h; cases h
    · rw [R.adv.keep a o e x] at h; cases h
/-- an own slot's thing stands in the heap -/
theorem Rel.own {A : Act} {τ : Ev} {n : Nat} {σ : L2.St} {H F : Hp} (R : Rel A τ n σ H F) {j : Nat} {s : Sl} {b : Addr} (e1 : τ[j]? = some (some s)) (e0 : s.own = true) (e2 : At s σ[j]? b) :
    A.H0 b = none ∧ F b = none ∧ H b ≠ none := by
  obtain ⟨v, h1, h⟩ := R.sl j _ e1
  rcases e2 with e2 | e2
  case inr =>
    cases s with
    | nl as xss =>
      obtain ⟨_, _, _, _, _, _, hd⟩ := h
      obtain ⟨g1, g2, vs, g3⟩ := hd.mem e2
      exact ⟨g1, g2, by rw [g3]; exact fun z => nomatch z⟩
    | _ => cases e2
  rw [e2] at h1
  cases h1
  cases s with
  | nl as xss =>
    obtain ⟨c, e, nd, h0, hf, hl, hd⟩ := h
    cases e
    exact ⟨h0, hf, by rw [hl]; exact fun z => nomatch z⟩
  | d x => cases e0
  | box => cases e0
  | raw w => cases e0
  | dk w => cases e0
  | dt w => cases e0
  | ow xs =>
    obtain ⟨c, ws, e, h0, hf, hl, hd⟩ := h
    cases e
    exact ⟨h0, hf, by rw [hl]; exact fun z => nomatch z⟩
  | odk xs =>
    obtain ⟨c, ws, e, h0, hf, hl, hd⟩ := h
    cases e
    exact ⟨h0, hf, by rw [hl]; exact fun z => nomatch z⟩
  | odt xs =>
    obtain ⟨c, ws, e, h0, hf, hl, hd⟩ := h
    cases e
    exact ⟨h0, hf, by rw [hl]; exact fun z => nomatch z⟩
/-- a thing is stored at slot i -/
theorem Rel.setS {A : Act} {τ : Ev} {n : Nat} {σ : L2.St} {H F : Hp} {v : V} {s : Sl} (i : Nat) (R : Rel A τ n σ H F) (hsl : SlOk A H F s v)
    (ho : s.own = true → ∀ (j : Nat) (s' : Sl) (b : Addr), j ≠ i → τ[j]? = some (some s') → s'.own = true → At s' σ[j]? b → ¬ At s (some (some v)) b) : Rel A (τ.set i (some s)) n (σ.set i (some v)) H F := by
  refine ⟨R.ok, by rw [List.length_set, List.length_set]; exact R.len, R.adv, fun j s' e => ?_, fun j l a s1 s2 hjl e1 o1 e2 o2 e3 e4 => ?_⟩
  · by_cases z : j = i
    · subst z
      have hj : j < τ.length := by
        have := (List.getElem?_eq_some_iff.mp e).1
        rwa [List.length_set] at this
      rw [List.getElem?_set_self hj] at e
      cases e
      exact ⟨v, List.getElem?_set_self (by rw [← R.len]; exact hj), hsl⟩
    · rw [List.getElem?_set_ne (Ne.symm z)] at e
      obtain ⟨w, h1, h2⟩ := R.sl j s' e
      exact ⟨w, by rw [List.getElem?_set_ne (Ne.symm z)]; exact h1, h2⟩
  · by_cases zj : j = i
    · subst zj
      have hj : j < τ.length := by
        have := (List.getElem?_eq_some_iff.mp e1).1
        rwa [List.length_set] at this
      rw [List.getElem?_set_self hj] at e1
      rw [List.getElem?_set_self (by rw [← R.len]; exact hj)] at e3
      rw [List.getElem?_set_ne hjl] at e2 e4
      cases e1
      exact ho o1 l s2 a (Ne.symm hjl) e2 o2 e4 e3
    · rw [List.getElem?_set_ne (Ne.symm zj)] at e1 e3
      by_cases zl : l = i
      · subst zl
        have hl : l < τ.length := by
          have := (List.getElem?_eq_some_iff.mp e2).1
          rwa [List.length_set] at this
        rw [List.getElem?_set_self hl] at e2
        rw [List.getElem?_set_self (by rw [← R.len]; exact hl)] at e4
        cases e2
        exact ho o2 j s1 a zj e1 o1 e3 e4
      · rw [List.getElem?_set_ne (Ne.symm zl)] at e2 e4
        exact R.dis j l a s1 s2 hjl e1 o1 e2 o2 e3 e4
/-- a result is stored at slot i; Hs: the heap ahead of the result -/
theorem Rel.set {A : Act} {τ : Ev} {n : Nat} {σ : L2.St} {H F Hs : Hp} {k : Kd} {v : V} {d : D} (i : Nat) (R : Rel A τ n σ H F) (hk : k ≠ .bw) (hs : ∀ a, Hs a = none → A.H0 a = none)
    (ho : ∀ (j : Nat) (s : Sl) (b : Addr), j ≠ i → τ[j]? = some (some s) → s.own = true → At s σ[j]? b → Hs b ≠ none)
    (r : RepK A.K k Hs H F v d) : Rel A (τ.set i (some (slOf k d))) n (σ.set i (some v)) H F := by
  cases k with
  | fz => exact R.setS i r fun z => by cases z
  | nw =>
    obtain ⟨a, vs, xs, rfl, rfl, h0, hf, h1, h2⟩ := r
    exact R.setS i ⟨a, vs, rfl, hs a h0, hf, h1, h2⟩ fun _ j s b hj e1 e2 e3 e4 => by
      rcases e4 with e4 | e4
      · cases e4; exact ho j s a hj e1 e2 e3 h0
      · cases e4
  | bw => exact absurd rfl hk
  | nn k => exact R.setS i r.1 fun z => by cases z
  | het => exact R.setS i r.1 fun z => by cases z

/-! ### statements -/
theorem takesF {X : Cx} : Takes X (fun _ _ _ _ => False) := fun _ _ ⟨_, _, _, _, _, _, _, _, _, _, _, _, _, _, _, _, z⟩ => z.elim
structure En where
  nx : Ev → Nat → Prop
  rt : D → Nat → Prop
  bk : Ev → Nat → Prop := fun _ _ => False
  ct : Ev → Nat → Prop := fun _ _ => False
  xx : Ev → XE → Nat → Prop := fun _ _ _ => False
abbrev SM := En → Ev → Nat → Prop
structure EnOk (A : Act) (kr : Kd) (W : WX) (F : Hp) (E : En) (Dd : L2.Ends) : Prop where
  nx : ∀ τ n σ H F', E.nx τ n → Rel A τ n σ H F' → Same F F' → Dd.nx σ H
  bk : ∀ τ n σ H F', E.bk τ n → Rel A τ n σ H F' → Same F F' → Dd.bk σ H
  ct : ∀ τ n σ H F', E.ct τ n → Rel A τ n σ H F' → Same F F' → Dd.ct σ H
  rt : ∀ d n v H F', E.rt d n → Adv A.bx A.n0 n A.H0 A.F0 H F' → RepK A.K kr A.H0 H F' v d → Dd.rt v H
  xx : ∀ τ x n σ H F' cls dd, E.xx τ x n → Rel A τ n σ H F' → Same F F' → XRep A.K F' H x cls dd → W cls dd σ H
theorem EnOk.sub {A : Act} {kr : Kd} {W : WX} {F F2 : Hp} {E : En} {Dd : L2.Ends} (e : EnOk A kr W F E Dd) (s : Same F F2) : EnOk A kr W F2 E Dd :=
  ⟨fun τ n σ H F' p R q => e.nx τ n σ H F' p R (s.trans q), fun τ n σ H F' p R q => e.bk τ n σ H F' p R (s.trans q), fun τ n σ H F' p R q => e.ct τ n σ H F' p R (s.trans q), e.rt, fun τ x n σ H F' cls dd p R q => e.xx τ x n σ H F' cls dd p R (s.trans q)⟩
def tS (K : PySem.W.Frag) (kr : Kd) (W : WX) (m : SM) : TS := fun Dd σ H => ∃ A τ n F E, A.K = K ∧ Rel A τ n σ H F ∧ m E τ n ∧ EnOk A kr W F E Dd
structure S2 (X : Cx) (kr : Kd) (sts : List Stmt) (m : SM) : Prop where
  ps : ∀ W : WX, Takes X W → PSs X sts (tS X.K kr W m)
structure P2 (X : Cx) (kr : Kd) (st : Stmt) (m : SM) : Prop where
  ps : ∀ W : WX, Takes X W → PS X st (tS X.K kr W m)
theorem ps_weak {st : Stmt} {t t' : TS} (h : PS X st t) (w : ∀ Dd σ H, t' Dd σ H → t Dd σ H) : PS X st t' := ⟨fun pins s σ H Dd I q => h.run pins s σ H Dd I (w Dd σ H q)⟩
theorem pss_weak {st : List Stmt} {t t' : TS} (h : PSs X st t) (w : ∀ Dd σ H, t' Dd σ H → t Dd σ H) : PSs X st t' := ⟨fun pins s σ H Dd I q => h.run pins s σ H Dd I (w Dd σ H q)⟩
variable {kr : Kd} {st : Stmt} {rest : List Stmt} {m m' : SM} {a b : Expr} {ma mb : EM} {pos : Pos}
def sNext : SM := fun E τ n => E.nx τ n
def sSeq (m m' : SM) : SM := fun E τ n => m { E with nx := fun τ' n' => m' E τ' n' } τ n
theorem s_nil : S2 X kr [] sNext := ⟨fun Wx tk => pss_weak pss_nil fun Dd σ H ⟨A, τ, n, F, E, eK, R, p, e⟩ => e.nx τ n σ H F p R (Same.refl F)⟩
theorem s_cons (h : P2 X kr st m) (h' : S2 X kr rest m') : S2 X kr (st :: rest) (sSeq m m') :=
  ⟨fun Wx tk => pss_weak (pss_cons (h.ps Wx tk) (h'.ps Wx tk)) fun Dd σ H ⟨A, τ, n, F, E, eK, R, p, e⟩ => ⟨A, τ, n, F, _, eK, R, p, fun τ1 n1 σ1 H1 F1 p1 R1 s1 => ⟨A, τ1, n1, F1, E, eK, R1, p1, e.sub s1⟩, e.bk, e.ct, e.rt, e.xx⟩⟩
theorem s_one (h : P2 X kr st m) : S2 X kr [st] m := ⟨fun Wx tk => pss_one (h.ps Wx tk)⟩
/-- an owned list is frozen -/
def sFrz (i : Nat) (m : SM) : SM := fun E τ n => ∃ xs, τ[i]? = some (some (.ow xs)) ∧ m E (τ.set i (some (.d (.list xs)))) n
theorem Rel.frz {A : Act} {τ : Ev} {n : Nat} {σ : L2.St} {H F : Hp} (R : Rel A τ n σ H F) {i : Nat} {xs : List D} (e : τ[i]? = some (some (.ow xs))) : ∃ F', Same F F' ∧ Rel A (τ.set i (some (.d (.list xs)))) n σ H F' := by
  obtain ⟨v, h1, a, vs, rfl, h2, h3, h4, h5⟩ := R.sl i _ e
  have sf : Same F (upd F a (.lst vs)) := fun c o z => by rw [upd_ne (ne_of_none z h3)]; exact z
  have hi : i < τ.length := (List.getElem?_eq_some_iff.mp e).1
  refine ⟨upd F a (.lst vs), sf, R.ok, by rw [List.length_set]; exact R.len, ⟨R.adv.keep, fun c hc => ?_, fun c o z => ?_, R.box.frz h4 (fun _ e => nomatch e) h3, R.adv.grow, R.adv.new⟩, fun j s z => ?_, fun j l b s1 s2 hjl e1 o1 e2 o2 e3 e4 => ?_⟩
  · rw [upd_ne (fun z => by subst z; exact hc h2)]; exact R.adv.old c hc
  · by_cases q : c = a
    · subst q; rw [upd_same] at z; cases z; exact h4
    · rw [upd_ne q] at z; exact R.same c o z
  · by_cases q : j = i
    · subst q
      rw [List.getElem?_set_self hi] at z
      cases z
      exact ⟨_, h1, .lst (.inl (.inl upd_same)) (dp_monoAll sf xs vs h5)⟩
    · rw [List.getElem?_set_ne (Ne.symm q)] at z
      obtain ⟨w, g1, g2⟩ := R.sl j s z
      refine ⟨w, g1, ?_⟩
      cases s with
      | d x => exact dp_mono sf x w g2
      | ow ys =>
        obtain ⟨c, ws, rfl, k1, k2, k3, k4⟩ := g2
        refine ⟨c, ws, rfl, k1, ?_, k3, dp_monoAll sf ys ws k4⟩
        rw [upd_ne]
        · exact k2
        · intro w; subst w; exact R.dis j i c _ _ q z rfl e rfl (.inl g1) (.inl h1)
      | box => exact g2
      | raw u => exact g2
      | dk kvs =>
        obtain ⟨c, ws, rfl, k1, k2⟩ := g2
        exact ⟨c, ws, rfl, sf c _ k1, k2.mono sf⟩
      | dt kvs =>
        obtain ⟨c, ws, rfl, k1, k2⟩ := g2
        exact ⟨c, ws, rfl, sf c _ k1, k2.mono sf⟩
      | odk ys =>
        obtain ⟨c, ws, rfl, k1, k2, k3, k4⟩ := g2
        refine ⟨c, ws, rfl, k1, ?_, k3, k4.mono sf⟩
        rw [upd_ne]
        · exact k2
        · intro w; subst w; exact R.dis j i c _ _ q z rfl e rfl (.inl g1) (.inl h1)
      | odt ys =>
        obtain ⟨c, ws, rfl, k1, k2, k3, k4⟩ := g2
        refine ⟨c, ws, rfl, k1, ?_, k3, k4.mono sf⟩
        rw [upd_ne]
        · exact k2
        · intro w; subst w; exact R.dis j i c _ _ q z rfl e rfl (.inl g1) (.inl h1)
      | nl as xss =>
        obtain ⟨c, rfl, nd, k1, k2, k3, k4⟩ := g2
        have ne : ∀ b, At (.nl as xss) σ[j]? b → b ≠ a := fun b hb w => by subst w; exact R.dis j i b _ _ q z rfl e rfl hb (.inl h1)
        refine ⟨c, rfl, nd, k1, ?_, k3, k4.imp fun b hb ws ys p1 p2 p3 p4 => ⟨p1, ?_, p3, dp_monoAll sf ys ws p4⟩⟩
        · rw [upd_ne (ne c (.inl g1))]
          exact k2
        · rw [upd_ne (ne b (.inr hb))]
          exact p2
  · have nj : j ≠ i := fun q => by subst q; rw [List.getElem?_set_self hi] at e1; cases e1; cases o1
    have nl : l ≠ i := fun q => by subst q; rw [List.getElem?_set_self hi] at e2; cases e2; cases o2
    rw [List.getElem?_set_ne (Ne.symm nj)] at e1
    rw [List.getElem?_set_ne (Ne.symm nl)] at e2
    exact R.dis j l b s1 s2 hjl e1 o1 e2 o2 e3 e4
theorem s_frz {sts : List Stmt} (i : Nat) (h : S2 X kr sts m) : S2 X kr sts (sFrz i m) := by
  refine ⟨fun Wx tk => pss_weak (h.ps Wx tk) fun Dd σ H ⟨A, τ, n, F, E, eK, R, ⟨xs, e, p⟩, ed⟩ => ?_⟩
  obtain ⟨F', s, R'⟩ := R.frz e
  exact ⟨A, _, n, F', E, eK, R', p, ed.sub s⟩
def sRet (m : EM) : SM := fun E τ n => m τ n E.rt
theorem p_ret (h : E2 X kr a ma) : P2 X kr (.Return (some a) pos) (sRet ma) := by
  refine ⟨fun Wx tk => ps_weak (ps_ret h.pe) fun Dd σ H ⟨A, τ, n, F, E, eK, R, p, e⟩ => tE_run eK R p fun d n' v H' F' p1 a1 r1 => ?_⟩
  rw [← eK] at r1
  exact e.rt d n' v H' F' p1 (R.adv.trans a1) (r1.h0 fun c h => R.h0some h)
/-- the owned list of slot i is handed back -/
def sRetO (i : Nat) : SM := fun E τ n => ∃ xs, τ[i]? = some (some (.ow xs)) ∧ E.rt (.list xs) n
theorem p_retO {i : Nat} (h : PE X a (tVar i)) : P2 X .nw (.Return (some a) pos) (sRetO i) := by
  refine ⟨fun Wx tk => ps_weak (ps_ret h) fun Dd σ H ⟨A, τ, n, F, E, eK, R, ⟨xs, e, p⟩, ed⟩ => ?_⟩
  obtain ⟨v, h1, a, vs, rfl, h2, h3, h4, h5⟩ := R.sl i _ e
  exact ⟨_, h1, ed.rt _ n _ H F p R.adv ⟨a, vs, xs, rfl, rfl, h2, h3, h4, h5⟩⟩
def sIf (c : CM) (m m' : SM) : SM := fun E τ n => c τ n fun b n1 => if b = true then m E τ n1 else m' E τ n1
theorem p_if {c : Expr} {cc : CM} {as bs : List Stmt} (hc : T2 X c cc) (ha : S2 X kr as m) (hb : S2 X kr bs m') : P2 X kr (.If c as bs pos) (sIf cc m m') := by
  refine ⟨fun Wx tk => ps_weak (ps_if hc.pt (ha.ps Wx tk) (hb.ps Wx tk)) fun Dd σ H ⟨A, τ, n, F, E, eK, R, p, e⟩ => tT_go eK R p fun d n1 H1 F1 p1 a1 => ?_⟩
  cases d with
  | true => exact iteT ⟨A, τ, n1, F1, E, eK, R.step a1, by simpa using p1, e.sub (a1.fro R.same)⟩
  | false => exact iteF ⟨A, τ, n1, F1, E, eK, R.step a1, by simpa using p1, e.sub (a1.fro R.same)⟩
/-! ### targets -/
abbrev GM := D → Ev → Nat → (Ev → Nat → Prop) → Prop
abbrev GMs := List D → Ev → Nat → (Ev → Nat → Prop) → Prop
/-- no new own slot -/
def OwnSame (τ τ' : Ev) : Prop := ∀ (i : Nat) (s : Sl), τ'[i]? = some (some s) → s.own = true → τ[i]? = some (some s)
theorem OwnSame.refl (τ : Ev) : OwnSame τ τ := fun _ _ e _ => e
theorem OwnSame.trans {τ τ1 τ2 : Ev} (a : OwnSame τ τ1) (b : OwnSame τ1 τ2) : OwnSame τ τ2 := fun i s e o => a i s (b i s e o) o
theorem OwnSame.set {τ : Ev} (i : Nat) (d : D) : OwnSame τ (τ.set i (some (.d d))) := fun j s e o => by
  by_cases z : j = i
  · subst z
    have hj : j < τ.length := by
      have := (List.getElem?_eq_some_iff.mp e).1
      rwa [List.length_set] at this
    rw [List.getElem?_set_self hj] at e
    cases e
    cases o
  · rwa [List.getElem?_set_ne (Ne.symm z)] at e
def tG (K : PySem.W.Frag) (ws : List Nat) (g : GM) : TG := fun v σ H Q => ∃ A τ n F P d, A.K = K ∧ Rel A τ n σ H F ∧ Dp K F v d ∧ g d τ n P ∧ ∀ τ' n' σ' H' F', P τ' n' → Rel A τ' n' σ' H' F' → Same F F' → Adv A.bx n n' H F H' F' → ((∀ vs, (∀ i ∈ ws, i ∈ vs) → wipe σ' vs = wipe σ vs) ∧ OwnSame τ τ') → Q σ' H'
def tGs (K : PySem.W.Frag) (ws : List Nat) (g : GMs) : TGs := fun vs σ H Q => ∃ A τ n F P ds, A.K = K ∧ Rel A τ n σ H F ∧ DpAll K F vs ds ∧ g ds τ n P ∧ ∀ τ' n' σ' H' F', P τ' n' → Rel A τ' n' σ' H' F' → Same F F' → Adv A.bx n n' H F H' F' → ((∀ vs, (∀ i ∈ ws, i ∈ vs) → wipe σ' vs = wipe σ vs) ∧ OwnSame τ τ') → Q σ' H'
structure G2 (X : Cx) (ws : List Nat) (e : Expr) (g : GM) : Prop where
  pg : PG X e (tG X.K ws g)
structure Gs2 (X : Cx) (ws : List Nat) (es : List Expr) (g : GMs) : Prop where
  pg : PGs X es (tGs X.K ws g)
theorem wipe_set {σ : L2.St} {i : Nat} {x : Option V} : ∀ {vs : List Nat}, i ∈ vs → wipe (σ.set i x) vs = wipe σ vs
  | [], h => by cases h
  | v :: vs, h => by
    unfold wipe
    by_cases hv : i ∈ vs
    · rw [wipe_set hv]
    · have e : i = v := (List.mem_cons.mp h).resolve_right hv
      subst e
      rw [wipe_out hv, List.set_set]
where
  wipe_out {σ : L2.St} {i : Nat} {x : Option V} : ∀ {vs : List Nat}, i ∉ vs → wipe (σ.set i x) vs = (wipe σ vs).set i x
    | [], _ => rfl
    | v :: vs, h => by
      unfold wipe
      have h1 : i ≠ v := fun e => h (by simp [e])
      have h2 : i ∉ vs := fun e => h (List.mem_cons_of_mem _ e)
      rw [wipe_out h2, List.set_comm _ _ h1]
theorem pg_weak {e : Expr} {t t' : TG} (h : PG X e t) (w : ∀ v σ H Q, t' v σ H Q → t v σ H Q) : PG X e t' := ⟨fun pins s σ H v u Q I r q => h.run pins s σ H v u Q I r (w v σ H Q q)⟩
theorem pgs_weak {e : List Expr} {t t' : TGs} (h : PGs X e t) (w : ∀ v σ H Q, t' v σ H Q → t v σ H Q) : PGs X e t' := ⟨fun pins s σ H v u Q I r q => h.run pins s σ H v u Q I r (w v σ H Q q)⟩
def gN (i : Nat) : GM := fun d τ n Q => Q (τ.set i (some (.d d))) n
def gsNil : GMs := fun ds τ n Q => ds = [] ∧ Q τ n
def gsCons (g : GM) (r : GMs) : GMs := fun ds τ n Q => ∃ d ds', ds = d :: ds' ∧ g d τ n fun τ1 n1 => r ds' τ1 n1 Q
def parts : D → Option (List D)
  | .tuple ds => some ds
  | .dict [(.dict [], .dict []), (x, y)] => some [x, y]
  | _ => none
def gT (k : Nat) (g : GMs) : GM := fun d τ n Q => ∃ ds, parts d = some ds ∧ ds.length = k ∧ g ds τ n Q
theorem g_name {i : Nat} {e : Expr} (h : PG X e (gName i)) : G2 X [i] e (gN i) := ⟨pg_weak h fun v σ H Q ⟨A, τ, n, F, P, d, eK, R, r, p, hq⟩ => by
  rw [← eK] at r
  exact hq _ n _ H F p (R.set (k := .fz) (Hs := H) i (by intro z; cases z) (fun a h => R.h0some h) (fun j s b _ e1 e0 e2 => (R.own e1 e0 e2).2.2) r) (Same.refl F) (Adv.refl R.same R.box) ⟨fun vs h => wipe_set (h i (by simp)), OwnSame.set i d⟩⟩
theorem gs_nil : Gs2 X [] [] gsNil := ⟨pgs_weak pgs_nil fun vs σ H Q ⟨A, τ, n, F, P, ds, eK, R, r, ⟨e, p⟩, hq⟩ => by
  subst e
  cases r
  exact ⟨rfl, hq τ n σ H F p R (Same.refl F) (Adv.refl R.same R.box) ⟨fun _ _ => rfl, OwnSame.refl τ⟩⟩⟩
theorem gs_cons {e : Expr} {es : List Expr} {g : GM} {r : GMs} {w1 w2 : List Nat} (h : G2 X w1 e g) (hr : Gs2 X w2 es r) (hs : (assignEach (e :: es) X.env).map (·.2) = assign e X.env :: (assignEach es X.env).map (·.2) := by rfl) : Gs2 X (w1 ++ w2) (e :: es) (gsCons g r) :=
  ⟨pgs_weak (pgs_cons h.pg hr.pg hs) fun vs σ H Q ⟨A, τ, n, F, P, ds, eK, R, rp, ⟨d, ds', e, p⟩, hq⟩ => by
    subst e
    cases rp with
    | cons r1 r2 =>
      exact ⟨_, _, rfl, A, τ, n, F, _, d, eK, R, r1, p, fun τ1 n1 σ1 H1 F1 p1 R1 s1 a1 x1 => ⟨A, τ1, n1, F1, P, ds', eK, R1, dp_monoAll s1 ds' _ r2, p1, fun τ2 n2 σ2 H2 F2 p2 R2 s2 a2 x2 => hq τ2 n2 σ2 H2 F2 p2 R2 (s1.trans s2) (a1.trans a2) ⟨fun vs h => (x2.1 vs fun i z => h i (List.mem_append_right _ z)).trans (x1.1 vs fun i z => h i (List.mem_append_left _ z)), x1.2.trans x2.2⟩⟩⟩⟩
theorem g_tup {es : List Expr} {k len : Nat} {g : GMs} {ws : List Nat} (hc : X.calm = true) (h : Gs2 X ws es g) (hn : (assignEach es X.env).length = len := by rfl) (hst : (assignEach es X.env).findIdx? (·.1) = none := by rfl) : G2 X ws (.Tuple es k pos) (gT len g) :=
  ⟨pg_weak (pg_tup hc h.pg hn hst) fun v σ H Q ⟨A, τ, n, F, P, d, eK, R, r, ⟨ds, e, l, p⟩, hq⟩ => by
    cases r with
    | tup hs ha => cases e; exact ⟨_, _, rfl, seqT R.same hs.sq, (dpAll_len ha).trans l, A, τ, n, F, P, _, eK, R, ha, p, hq⟩
    | raw hs a b => cases e; exact ⟨_, _, rfl, seqT R.same hs, l, A, τ, n, F, P, _, eK, R, .cons a (.cons b .nil), p, hq⟩
    | _ => cases e⟩

/-! ### stores -/
def sAsg (m : EM) (g : GM) : SM := fun E τ n => m τ n fun d n1 => g d τ n1 E.nx
theorem p_asg {tg : Expr} {g : GM} {ws : List Nat} (h : E2 X .fz a ma) (hg : G2 X ws tg g) (hs : swapsWithSole [tg] a pos.line X.env = pure false := by rfl) (hw : swappedStores [tg] a X.env = pure none := by rfl)
    (h1 : (assignEach [tg] X.env).map (·.2) = [assign tg X.env] := by rfl) : P2 X kr (.Assign [tg] a pos) (sAsg ma g) :=
  ⟨fun Wx tk => ps_weak (ps_asg h.pe hg.pg hs hw h1) fun Dd σ H ⟨A, τ, n, F, E, eK, R, p, e⟩ => tE_run eK R p fun d n1 v H1 F1 p1 a1 r1 =>
    ⟨A, τ, n1, F1, _, d, eK, R.step a1, r1, p1, fun τ' n' σ' H' F' p' R' s' a' _ => e.nx τ' n' σ' H' F' p' R' ((a1.fro R.same).trans s')⟩⟩
/-- a name gets a result -/
def sSet (k : Kd) (i : Nat) (m : EM) : SM := fun E τ n => m τ n fun d n1 => E.nx (τ.set i (some (slOf k d))) n1
theorem Rel.set1 {A : Act} {τ : Ev} {n n1 : Nat} {σ : L2.St} {H F H1 F1 : Hp} {k : Kd} {v : V} {d : D} (i : Nat) (R : Rel A τ n σ H F) (hk : k ≠ .bw) (a1 : Adv A.bx n n1 H F H1 F1) (r : RepK A.K k H H1 F1 v d) :
    Rel A (τ.set i (some (slOf k d))) n1 (σ.set i (some v)) H1 F1 :=
  (R.step a1).set (Hs := H) i hk (fun a h => R.h0some h) (fun j s b _ e1 e0 e2 => (R.own e1 e0 e2).2.2) r
theorem p_set {k : Kd} {i : Nat} {x : Str} {pos' : Pos} (hk : k ≠ .bw) (hN : X.N.Nodup) (hi : X.N[i]? = some x) (hx : Loc X.env.scope x) (h : E2 X k a ma) (hs : swapsWith a (some (.Name x pos')) pos.line X.env = pure false := by rfl)
    (hf : X.fn x = true ∨ X.env.scope.names.lookup x = some .local := by first | exact .inl rfl | exact .inr rfl | assumption) : P2 X kr (.Assign [.Name x pos'] a pos) (sSet k i ma) :=
  ⟨fun Wx tk => ps_weak (ps_set hN hi hx h.pe hs hf) fun Dd σ H ⟨A, τ, n, F, E, eK, R, p, e⟩ => tE_run eK R p fun d n1 v H1 F1 p1 a1 r1 => by
    rw [← eK] at r1
    exact e.nx _ n1 _ H1 F1 p1 (R.set1 i hk a1 r1) (a1.fro R.same)⟩
/-- two names at once -/
def sPar (k1 k2 : Kd) (i j : Nat) (ma mb : EM) : SM := fun E τ n => ma τ n fun x n1 => mb τ n1 fun y n2 => E.nx ((τ.set i (some (slOf k1 x))).set j (some (slOf k2 y))) n2
theorem p_par {k1 k2 : Kd} {i j : Nat} {x y : Str} {px py pt : Pos} {kt q2 pt2} (hk1 : k1 ≠ .bw) (hk2 : k2 ≠ .bw) (hc : X.calm = true) (hN : X.N.Nodup) (hi : X.N[i]? = some x) (hj : X.N[j]? = some y) (hij : i ≠ j)
    (hx : X.env.scope.names.lookup x = some .local) (hy : X.env.scope.names.lookup y = some .local) (ha : E2 X k1 a ma) (hb : E2 X k2 b mb)
    (hw : swappedStores [.Tuple [.Name x px, .Name y py] kt pt] (.Tuple [a, b] q2 pt2) X.env = pure (some [x, y]) := by rfl)
    (hs : swapsWithSole [.Tuple [.Name x px, .Name y py] kt pt] (.Tuple [a, b] q2 pt2) pos.line X.env = pure false := by rfl)
    (s1 : starEach [a, b] X.env = (false, eval a X.env) :: starEach [b] X.env := by rfl) (s2 : starEach [b] X.env = (false, eval b X.env) :: starEach [] X.env := by rfl) :
    P2 X kr (.Assign [.Tuple [.Name x px, .Name y py] kt pt] (.Tuple [a, b] q2 pt2) pos) (sPar k1 k2 i j ma mb) := by
  refine ⟨fun Wx tk => ps_weak (ps_par hc hN hi hj hij hx hy (pa_cons ha.pe (pa_cons hb.pe pa_nil s2) s1) hw hs) fun Dd σ H ⟨A, τ, n, F, E, eK, R, p, e⟩ => ?_⟩
  refine tE_run eK R p fun d1 n1 v1 H1 F1 p1 a1 r1 => tE_run eK (R.step a1) p1 fun d2 n2 v2 H2 F2 p2 a2 r2 => ?_
  rw [← eK] at r1 r2
  have a12 := a1.trans a2
  refine ⟨v1, v2, rfl, e.nx _ n2 _ H2 F2 p2 ?_ (a12.fro R.same)⟩
  have R1 : Rel A (τ.set i (some (slOf k1 d1))) n2 (σ.set i (some v1)) H2 F2 := (R.set1 i hk1 a1 r1).step a2
  refine R1.set (Hs := H1) j hk2 (fun a h => R.h0some (a1.none_back a h)) (fun l s b hl e1 e0 e2 => ((R.set1 i hk1 a1 r1).own e1 e0 e2).2.2) r2
def sPar3 (k1 k2 k3 : Kd) (i j l : Nat) (ma mb mc : EM) : SM := fun E τ n => ma τ n fun x n1 => mb τ n1 fun y n2 => mc τ n2 fun z n3 => E.nx (((τ.set i (some (slOf k1 x))).set j (some (slOf k2 y))).set l (some (slOf k3 z))) n3
/-- name op= e -/
def sAug (f : Op2) (i : Nat) (m : EM) : SM := fun E τ n => ∃ x, τ[i]? = some (some (.d x)) ∧ m τ n fun y n1 => f x y fun z => E.nx (τ.set i (some (.d z))) n1
theorem p_aug {op : Operator} {r : R2} {f : Op2} {i : Nat} {x : Str} {pos' : Pos} (hN : X.N.Nodup) (hi : X.N[i]? = some x) (hx : Loc X.env.scope x) (ho : OpR X (inplaceOp op) r) (hf : Does2 X.K .fz f r) (h : E2 X .bw a ma)
    (hfn : X.fn x = true ∨ X.env.scope.names.lookup x = some .local := by first | exact .inl rfl | exact .inr rfl | assumption) : P2 X kr (.AugAssign (.Name x pos') op a pos) (sAug f i ma) :=
  ⟨fun Wx tk => ps_weak (ps_aug (ti := r) hN hi hx h.pe (fun pins s σ H x y v u Q I r1 r2 q => ho pins s σ H x y v u Q I r1 r2 q) hfn) fun Dd σ H ⟨A, τ, n, F, E, eK, R, ⟨d, e0, p⟩, e⟩ => by
    obtain ⟨v, h1, h2⟩ := R.sl i _ e0
    refine ⟨v, h1, tE_run eK R p fun y n1 vy H1 F1 p1 a1 r1 => ?_⟩
    rw [← eK] at r1 hf
    refine hf H1 F1 v vy d y _ _ (R.step a1).same (.inl (dp_mono (a1.fro R.same) d v h2)) r1 p1 fun z vz H2 F2 p2 a2 r2 => ?_
    have a12 := a1.trans (a2.adv (R.step a1).box)
    exact e.nx _ n1 _ H2 F2 p2 (R.set1 (k := .fz) i (by intro z; cases z) a12 r2) (a12.fro R.same)⟩
theorem p_iadd {i : Nat} {x : Str} {pos' : Pos} (hN : X.N.Nodup) (hi : X.N[i]? = some x) (hx : Loc X.env.scope x) (h : E2 X .bw a ma)
    (hfn : X.fn x = true ∨ X.env.scope.names.lookup x = some .local := by first | exact .inl rfl | exact .inr rfl | assumption) : P2 X kr (.AugAssign (.Name x pos') .Add a pos) (sAug dAdd i ma) := p_aug hN hi hx iop_add (does_I0 fun _ _ _ => .int _) h hfn
theorem p_isub {i : Nat} {x : Str} {pos' : Pos} (hN : X.N.Nodup) (hi : X.N[i]? = some x) (hx : Loc X.env.scope x) (h : E2 X .bw a ma)
    (hfn : X.fn x = true ∨ X.env.scope.names.lookup x = some .local := by first | exact .inl rfl | exact .inr rfl | assumption) : P2 X kr (.AugAssign (.Name x pos') .Sub a pos) (sAug dSub i ma) := p_aug hN hi hx iop_sub (does_I0 fun _ _ _ => .int _) h hfn
end
end TL
set_option Elab.async false
set_option linter.all false
set_option maxRecDepth 100000
set_option maxHeartbeats 4000000
namespace TL
variable [Mode]
open PySem PySem.Spec PyProof.Rows L2
/-! ### enumerate(t) of a tuple -/
theorem meets_enum_new1 {v : Value} {o : Obj} {H : Heap → Prop} (B : Begins v o H) :
    Meets (Builtin.«enumerate.__new__» ⟨[.type "enumerate", v], []⟩) (fun _ R s => H s.heap ∧
      R (.ok (.ret (.ref (s.heap.push o).objs.size))) { s with heap := (s.heap.push o).push { cls := .type "enumerate", data := .fields #[.none, .bool false, .ref s.heap.objs.size, rawInt 0, .none, .none] } }) :=
  .of_wp fun prog w A R s h => by
    obtain ⟨hp, g, d, tk, os⟩ := s; obtain ⟨h1, h⟩ := h
    have hsub := sub_enumerate
    have q1 : ∀ {A' : Around} {E : Value → Shared → Prop} {Q : Value → Shared → Prop}, Q (.ref hp.objs.size) ⟨hp.push o, g, d, tk, os⟩ → wpAny (model prog w) A' (pyIter v) Q E ⟨hp, g, d, tk, os⟩ :=
      fun q => B.iter prog w _ _ ⟨hp, g, d, tk, os⟩ _ h1 q
    wp_walk using q1
    refine wpAny_stack_any fun st => wpAny_pure ?_
    split
    · rename_i c _ _ _ _ _
      cases (c == Value.type "enumerate")
      · wp_walk using q1
        exact ⟨_, rfl, h⟩
      · wp_walk using q1
        exact ⟨_, rfl, h⟩
    · wp_walk using q1
      exact ⟨_, rfl, h⟩
theorem call_enum1 {prog : Program} {w : World} {A : Around} {E : Value → Shared → Prop} {s : Shared} {v : Value} {o : Obj} {H : Heap → Prop} {Q : Value → Shared → Prop} (B : Begins v o H) (h1 : H s.heap)
    (h : ∀ h', IsEnum h' (s.heap.objs.size + 1) s.heap.objs.size 0 .none → h'.get? s.heap.objs.size = some o → h'.objs.size = s.heap.objs.size + 2 →
      (∀ b o, s.heap.get? b = some o → h'.get? b = some o) → Q (.ref (s.heap.objs.size + 1)) { s with heap := h' }) :
    wpAny (model prog w) A (call (.type "enumerate") [v]) Q E s := by
  refine callType_new F.called_enumerate (by decide) (F.typeCall_enumerate_1 _) (F.newCall_enumerate_1 _) (fun obj => F.args_object_init_2 obj _) F.entry_enumerate_new
    (meets_enum_new1 B) ⟨h1, ?_⟩
  have hz : (s.heap.push o).objs.size = s.heap.objs.size + 1 := Heap.size_push ..
  show _ ∧ _
  rw [hz]
  have he : IsEnum ((s.heap.push o).push { cls := .type "enumerate", data := .fields #[.none, .bool false, .ref s.heap.objs.size, rawInt 0, .none, .none] }) (s.heap.objs.size + 1) s.heap.objs.size 0 .none := by
    have := Heap.get?_push_size (s.heap.push o) (o := { cls := .type "enumerate", data := .fields #[.none, .bool false, .ref s.heap.objs.size, rawInt 0, .none, .none] }) rfl
    rw [hz] at this; exact this
  refine ⟨⟨_, he, rfl⟩, h _ he (Heap.get?_push_of_some _ (Heap.get?_push_size _ B.free)) (by rw [Heap.size_push, hz]) fun b o x => Heap.get?_push_of_some _ (Heap.get?_push_of_some _ x)⟩
theorem enum_endT {prog : Program} {w : World} {A : Around} {E : Value → Shared → Prop} {s : Shared} {e it t : Addr} {i : Nat} {k : Int} {items : Array Value} {old : Value} {Q : Option Value → Shared → Prop}
    (hh : A.handled = none) (he : IsEnum s.heap e it k old) (hit : s.heap.IsTupleIter it t i) (ht : s.heap.IsTuple t items) (hx : items[i]? = none)
    (hQ : ∀ h', Heap.ExtBut it s.heap h' → Q none { s with heap := h' }) : wpAny (model prog w) A (pyNext (.ref e)) Q E s := by
  have hT : s.TypeIs (.ref e) "enumerate" := ⟨_, he, rfl⟩
  unfold pyNext
  refine wpAny_bind (wpAny_attempt (wpAny_callSpecial?_slot (name := Str.ofString "__next__") hT F.slot_enumerate_next
    (wpAny_call_entry F.slot_enumerate_next hT F.entry_enumerate_next ?_ (F.args_enumerate_next_1 _))))
  show wpAny _ _ (field (.ref e) 2 >>= _) _ _ _
  refine wpAny_bind (wpAny_field he rfl (x := .ref it) rfl ?_)
  refine wpAny_bind (wpAny_nextOf_tuple_end (by show A.handled = none; exact hh) hit ht hx fun h' x he' hx' => ?_)
  obtain ⟨o, ho, hc⟩ := hx'
  refine wpAny_bind (wpAny_isInstance (T := "StopIteration") (b := true) ⟨o, ho, hc⟩ isSubtype_stop ?_)
  exact wpAny_pure (hQ _ he')
/-- the tuple at a, each item in a new pair -/
def IteT (K : PySem.W.Frag) (a : Addr) : It :=
  ⟨fun i H => ∃ (xs : List V) (x : V), SqT K H a xs ∧ xs[i]? = some x, fun i H v H' => ∃ T x, v = .ref T ∧ H T = none ∧ H' = upd H T (.tup [.int (i : Nat), x]) ∧ ∀ xs, SqT K H a xs → xs[i]? = some x, fun i H => ∃ xs : List V, SqT K H a xs ∧ xs.length ≤ i⟩
theorem turn_enumT {P : Program} {w : World} {K : PySem.W.Frag} {elts : List Expr} {kk : Nat} {tpos : Pos} (a e it : Addr) (hai : a ≠ it) (hae : a ≠ e) :
    Turn P w K (.Tuple elts kk tpos) (IteT K a) [e, it] e (fun i h => (∃ old, IsEnum h e it ((i : Nat) : Int) old) ∧ h.IsTupleIter it a i ∧ e ≠ it) where
  mem := by simp
  obj := fun i h st b hb => by
    obtain ⟨⟨old, he⟩, ⟨o, ho, hc, hd⟩, _⟩ := st
    have e' : b = e ∨ b = it := by simpa using hb
    rcases e' with z | z
    · rw [z]; exact ⟨_, he, fun v q => nomatch q⟩
    · rw [z]; exact ⟨o, ho, fun v q => by rw [hd] at q; cases q⟩
  keep := fun i h h' st k => let ⟨⟨old, he⟩, hi, hne⟩ := st; ⟨⟨old, k e (by simp) _ he⟩, hi.at fun o q => k it (by simp) o q, hne⟩
  item := by
    intro X hP hw hK hc i pins s σ H E I hf st hg
    subst hP hw hK
    obtain ⟨⟨old, he⟩, hit, hne⟩ := st
    obtain ⟨xs, x, hq, hx⟩ := hg
    obtain ⟨its, rv, p, hz⟩ := I.tuple hq
    obtain ⟨u, hu, ru⟩ := rv.get hx
    have hel : e < s.heap.objs.size := Heap.lt_size he
    have hil : it < s.heap.objs.size := by obtain ⟨_, q, _⟩ := hit; exact Heap.lt_size q
    have hlt : i < its.toArray.size := by
      have := (List.getElem?_eq_some_iff.mp hu).1
      simpa using this
    refine wpAny_pyNext_enum_itemD (Draws.tuple (A := X.A.in1) (by show X.A.handled = none; exact I.ok.hd hc) it a hai its.toArray) he ⟨hit, (show s.heap.IsTuple a its.toArray from p)⟩ hlt hne (by simp [hne, Ne.symm hae]) fun y h' tk hy ho hit' hT hsz hk => ?_
    have hyu : y = u := by
      have h1 : its.toArray[i]? = some y := hy
      have h2 : its.toArray[i]? = some u := by simpa using hu
      rw [h1] at h2
      exact Option.some.inj h2
    subst hyu
    refine ⟨_, rfl, wpAny_letOwnedTupleGo_enum (s := { s with heap := h', toks := tk + 1 }) ho fun h'' he' sb => ?_⟩
    have hT2 : h''.get? s.heap.objs.size = some { cls := .type "tuple", data := .seq #[.int i tk, y] } := (sb.2 _ (Nat.ne_of_gt hel)).trans hT
    have new : ObjOk X.prog X.w (upd H s.heap.objs.size (.tup [.int (i : Nat), x])) h'' s.heap.objs.size (.tup [.int (i : Nat), x]) :=
      ⟨by show 2 ≤ sizeLine; decide, [.int i tk, y], .cons ⟨_, rfl⟩ (.cons ru .nil), ⟨_, hT2, rfl, _, rfl⟩⟩
    have I1 : Inv X pins σ (upd H s.heap.objs.size (.tup [.int (i : Nat), x])) { s with heap := h'', toks := tk + 1 } :=
      I.turnedNew (ch := [e, it]) (fun b ob hb q => (sb.2 b (fun z => hb (by simp [z]))).trans (hk b ob (fun z => hb (by simp [z])) (fun z => hb (by simp [z])) q)) hf (Nat.le_refl _) new
    refine ⟨.ref s.heap.objs.size, _, I1, rfl, ⟨_, x, rfl, I.hok.fresh (Nat.le_refl _), rfl, fun ys hy => by rw [I.tuple_inj hy hq]; exact hx⟩, ⟨⟨y, ?_⟩, hit'.1.at fun o q => (sb.2 it (Ne.symm hne)).trans q, hne⟩, fun b hb => ?_⟩
    · have e1 : ((i + 1 : Nat) : Int) = (i : Int) + 1 := by omega
      rw [e1]; exact he'
    · have hb' : b < s.heap.objs.size := by
        have e' : b = e ∨ b = it := by simpa using hb
        rcases e' with z | z
        · rw [z]; exact hel
        · rw [z]; exact hil
      rw [upd_ne (Nat.ne_of_lt hb')]
      exact (hf b hb).1
  done := by
    intro X hP hw hK hc i pins s σ H E I hf st hg
    subst hP hw hK
    obtain ⟨⟨old, he⟩, hit, hne⟩ := st
    obtain ⟨xs, hq, hx⟩ := hg
    obtain ⟨its, rv, p, hz⟩ := I.tuple hq
    obtain ⟨f0, f1, f2, f3, f4, f5⟩ := hf it (by simp)
    have hl := rv.length
    exact enum_endT (I.ok.hd hc) he hit (show s.heap.IsTuple a its.toArray from p) (by simp; omega) fun h' eb => ⟨rfl, I.turned (t' := s.toks) (fun b o hb q => eb b o hb q) f0 f1 f3 f4 f5⟩
  self := fun A i s Q E st h => let ⟨⟨_, he⟩, _⟩ := st; wpAny_pyIter_enum he h

section
variable {X : Cx} {K : PySem.W.Frag} {tg : Expr}
/-- enumerate of a list or a tuple -/
def iEnumS (K : PySem.W.Frag) (ta : TA) : TI := fun σ H R => ta σ H fun vs H1 => ∃ a xs, vs = [.ref a] ∧ ((SqL K H1 a xs ∧ R (Ite K a) H1) ∨ (SqT K H1 a xs ∧ R (IteT K a) H1))
theorem pi_enumS {e : Expr} {ta : TA} {p pos tpos : Pos} {elts : List Expr} {kk : Nat} (hg : Gl X "enumerate") (hm : X.mg "enumerate" = none) (ha : PA X [e] ta) (hs : starEach [e] X.env = [(false, eval e X.env)] := by rfl) :
    PI X (.Tuple elts kk tpos) (.Call (.Name "enumerate" p) [e] [] pos) (iEnumS X.K ta) := by
  refine ⟨fun pins s σ H R I h => ?_⟩
  refine Call_ (ld_blt I hg hm boot_enumerate (PyProof.Rows.callWith_type1 (thn (ha.run pos pins s σ H _ I h) fun us s1 ⟨vs, H1, I1, r1, q1⟩ => ?_) hs rfl))
  obtain ⟨a, xs, ex, hq⟩ := q1
  subst ex
  cases r1 with
  | cons r rr =>
    cases rr
    cases r
    have fresh : ∀ b, b ∈ [s1.heap.objs.size + 1, s1.heap.objs.size] → FpOk X pins H1 b := fun b hb => by
      have e' : b = s1.heap.objs.size + 1 ∨ b = s1.heap.objs.size := by simpa using hb
      have hle : s1.heap.objs.size ≤ b := by
        rcases e' with z | z
        · rw [z]; exact Nat.le_add_right _ _
        · rw [z]; exact Nat.le_refl _
      exact I1.fpOk hle (I1.hok.fresh hle)
    rcases hq with ⟨hq, q⟩ | ⟨hq, q⟩
    · obtain ⟨its, rv, p', hz⟩ := I1.list hq
      refine call_enumerate_list p'.isList fun h' he hit hsz hk => wpAny_pyIter_enum he ?_
      have I2 : Inv X pins σ H1 { s1 with heap := h' } := I1.kept (t' := s1.toks) hk
      exact ⟨s1.heap.objs.size + 1, [s1.heap.objs.size + 1, s1.heap.objs.size], _, _, H1, rfl, I2, turn_enum a (s1.heap.objs.size + 1) s1.heap.objs.size, ⟨⟨.none, he⟩, hit, Nat.succ_ne_self _⟩, fresh, q⟩
    · obtain ⟨its, rv, p', hz⟩ := I1.tuple hq
      have hlt : a < s1.heap.objs.size := let ⟨o, ho, _⟩ := p'; Heap.lt_size ho
      refine call_enum1 (begins_tuple a its.toArray) p' fun h' he hit hsz hk => wpAny_pyIter_enum he ?_
      have I2 : Inv X pins σ H1 { s1 with heap := h' } := I1.kept (t' := s1.toks) hk
      exact ⟨s1.heap.objs.size + 1, [s1.heap.objs.size + 1, s1.heap.objs.size], _, _, H1, rfl, I2, turn_enumT a (s1.heap.objs.size + 1) s1.heap.objs.size (Nat.ne_of_lt hlt) (Nat.ne_of_lt (Nat.lt_succ_of_lt hlt)), ⟨⟨.none, he⟩, ⟨_, hit, rfl, rfl⟩, Nat.succ_ne_self _⟩, fresh, q⟩
/-- a list or a tuple is walked -/
def iSeq (K : PySem.W.Frag) (tl : TE) : TI := fun σ H R => tl σ H fun x H1 => ∃ a xs, x = .ref a ∧ ((SqL K H1 a xs ∧ R (Itl K a) H1) ∨ (SqT K H1 a xs ∧ R (Itt K a) H1))
theorem pi_seq {l : Expr} {tl : TE} (hl : PE X l tl) : PI X tg l (iSeq X.K tl) := by
  refine ⟨fun pins s σ H R I h => ?_⟩
  refine thn (hl.run pins s σ H _ I h) fun v s1 ⟨x, H1, I1, r1, q1⟩ => ?_
  obtain ⟨a, xs, e, hq⟩ := q1
  subst e
  cases r1
  have fresh : ∀ b, b ∈ [s1.heap.objs.size] → FpOk X pins H1 b := fun b hb => by
    have e : b = s1.heap.objs.size := by simpa using hb
    subst e
    exact I1.fpOk (Nat.le_refl _) (I1.hok.fresh (Nat.le_refl _))
  rcases hq with ⟨hq, q⟩ | ⟨hq, q⟩
  · obtain ⟨its, rv, p, hz⟩ := I1.list hq
    refine wpAny_pyIter_list p.isList ?_
    exact ⟨s1.heap.objs.size, [s1.heap.objs.size], _, _, H1, rfl, I1.kept (t' := s1.toks) fun b o e => Heap.get?_push_of_some _ e, turn_list a _, ⟨_, Heap.get?_push_size _ rfl, rfl, rfl⟩, fresh, q⟩
  · obtain ⟨its, rv, p, hz⟩ := I1.tuple hq
    refine wpAny_pyIter_tuple (show s1.heap.IsTuple a its.toArray from p) ?_
    exact ⟨s1.heap.objs.size, [s1.heap.objs.size], _, _, H1, rfl, I1.kept (t' := s1.toks) fun b o e => Heap.get?_push_of_some _ e, turn_tuple a _, ⟨_, Heap.get?_push_size _ rfl, rfl, rfl⟩, fresh, q⟩
end
end TL
set_option Elab.async false
set_option linter.all false
set_option maxRecDepth 100000
set_option maxHeartbeats 4000000
namespace TL
variable [Mode]
open PySem PySem.Spec PyProof.Rows L2
section
variable {X : Cx} {K : PySem.W.Frag} {tg iter : Expr} {a b : Expr} {ma mb mc : EM} {p pos tpos : Pos} {kr : Kd}

/-! ### what is walked -/
/-- J yields the items, as long as what was frozen at F1 is so -/
def YF (K : PySem.W.Frag) (J : It) (items : List D) (F1 : Hp) : Prop := ∀ (i : Nat) (H F : Hp), Same F1 F → Same F H →
  (∀ d, items[i]? = some d → J.go i H ∧ ∀ x H2, J.yld i H x H2 → ∃ F2, PAdv H F H2 F2 ∧ Dp K F2 x d) ∧ (items.length ≤ i → J.stop i H)
/-- .. as long as the heap H1 stands but for the box -/
def YH (K : PySem.W.Frag) (J : It) (items : List D) (bx : Bx) (n1 : Nat) (H1 F1 : Hp) : Prop := ∀ (i n : Nat) (H F : Hp), Adv bx n1 n H1 F1 H F →
  (∀ d, items[i]? = some d → J.go i H ∧ ∀ x H2, J.yld i H x H2 → ∃ F2, PAdv H F H2 F2 ∧ Dp K F2 x d) ∧ (items.length ≤ i → J.stop i H)
theorem YF.yh {J : It} {items : List D} {bx : Bx} {n1 : Nat} {H1 F1 : Hp} (h : YF K J items F1) (s : Same F1 H1) : YH K J items bx n1 H1 F1 := fun i n H F a => h i H F (a.fro s) a.sub
abbrev IM := Ev → Nat → (List D → Nat → Prop) → Prop
def tIF (K : PySem.W.Frag) (m : IM) : TI := fun σ H R => ∃ A τ n F P, A.K = K ∧ Rel A τ n σ H F ∧ m τ n P ∧ ∀ items n' J H' F', P items n' → Adv A.bx n n' H F H' F' → YF K J items F' → R J H'
def tIH (K : PySem.W.Frag) (m : IM) : TI := fun σ H R => ∃ A τ n F P, A.K = K ∧ Rel A τ n σ H F ∧ m τ n P ∧ ∀ items n' J H' F', P items n' → Adv A.bx n n' H F H' F' → YH K J items A.bx n' H' F' → R J H'
/-- what a for walks; what a comprehension walks -/
structure I2 (X : Cx) (tg iter : Expr) (m : IM) : Prop where
  pi : PI X tg iter (tIF X.K m)
structure J2 (X : Cx) (tg iter : Expr) (m : IM) : Prop where
  pi : PI X tg iter (tIH X.K m)
theorem pi_weak {t t' : TI} (h : PI X tg iter t) (w : ∀ σ H Q, t' σ H Q → t σ H Q) : PI X tg iter t' := ⟨fun pins s σ H Q I q => h.run pins s σ H Q I (w σ H Q q)⟩
theorem I2.j {m : IM} (h : I2 X tg iter m) : J2 X tg iter m := ⟨pi_weak h.pi fun σ H R ⟨A, τ, n, F, P, eK, Rl, hm, hq⟩ => ⟨A, τ, n, F, P, eK, Rl, hm, fun items n' J H' F' p a y => hq items n' J H' F' p a (y.yh a.sub)⟩⟩
/-- the items of a list or a tuple -/
def dItems (d : D) (P : List D → Prop) : Prop := (∃ xs, d = .list xs ∧ P xs) ∨ ∃ xs, d = .tuple xs ∧ P xs
def iIt (m : EM) : IM := fun τ n Q => m τ n fun d n' => dItems d fun xs => Q xs n'
theorem itl_yf {F : Hp} {a : Addr} {vs : List V} {items : List D} (h : SqL K F a vs) (hd : DpAll K F vs items) : YF K (Itl K a) items F := fun i H F2 s1 s2 => by
  have hH : SqL K H a vs := s2.seq (s1.seq h)
  refine ⟨fun d e => ?_, fun hl => ⟨vs, hH, by rw [dpAll_len hd]; exact hl⟩⟩
  obtain ⟨v, e1, e2⟩ := dpAll_get hd e
  refine ⟨⟨vs, v, hH, e1⟩, fun x H2 ⟨eH, hy⟩ => ?_⟩
  subst eH
  have := hy vs hH
  rw [e1] at this
  cases this
  exact ⟨F2, PAdv.refl s2, dp_mono s1 d _ e2⟩
theorem itt_yf {F : Hp} {a : Addr} {vs : List V} {items : List D} (h : SqT K F a vs) (hd : DpAll K F vs items) : YF K (Itt K a) items F := fun i H F2 s1 s2 => by
  have hH : SqT K H a vs := seqT s2 (seqT s1 h)
  refine ⟨fun d e => ?_, fun hl => ⟨vs, hH, by rw [dpAll_len hd]; exact hl⟩⟩
  obtain ⟨v, e1, e2⟩ := dpAll_get hd e
  refine ⟨⟨vs, v, hH, e1⟩, fun x H2 ⟨eH, hy⟩ => ?_⟩
  subst eH
  have := hy vs hH
  rw [e1] at this
  cases this
  exact ⟨F2, PAdv.refl s2, dp_mono s1 d _ e2⟩
theorem itl_yh {bx : Bx} {n : Nat} {H F : Hp} {a : Addr} {vs : List V} {items : List D} (h : H a = some (.lst vs)) (hd : DpAll K F vs items) (s : Same F H) (bxh : BoxOk bx n H F) : YH K (Itl K a) items bx n H F := fun i n2 H2 F2 ad => by
  have hH : SqL K H2 a vs := .inl (.inl (ad.keep a _ h (bxh.no h fun _ e => nomatch e)))
  refine ⟨fun d e => ?_, fun hl => ⟨vs, hH, by rw [dpAll_len hd]; exact hl⟩⟩
  obtain ⟨v, e1, e2⟩ := dpAll_get hd e
  refine ⟨⟨vs, v, hH, e1⟩, fun x H3 ⟨eH, hy⟩ => ?_⟩
  subst eH
  have := hy vs hH
  rw [e1] at this
  cases this
  exact ⟨F2, PAdv.refl ad.sub, dp_mono (ad.fro s) d _ e2⟩
/-- for x in e: e a frozen list or tuple -/
theorem i_seq (h : E2 X .fz iter ma) : I2 X tg iter (iIt ma) := by
  refine ⟨pi_weak (pi_seq h.pe) fun σ H R ⟨A, τ, n, F, P, eK, Rl, hm, hq⟩ => tE_run eK Rl hm ?_⟩
  rintro d n' v H' F' (⟨xs, rfl, p⟩ | ⟨xs, rfl, p⟩) ad r
  · cases r with
    | lst hs ha => exact ⟨_, _, rfl, .inl ⟨ad.sub.seq hs, hq xs n' _ H' F' p ad (itl_yf hs ha)⟩⟩
  · cases r with
    | tup hs ha => exact ⟨_, _, rfl, .inr ⟨seqT ad.sub hs.sq, hq xs n' _ H' F' p ad (itt_yf hs.sq ha)⟩⟩
/-- [.. for x in e], e read now -/
theorem j_seq (h : E2 X .bw iter ma) : J2 X tg iter (iIt ma) := by
  refine ⟨pi_weak (pi_seq h.pe) fun σ H R ⟨A, τ, n, F, P, eK, Rl, hm, hq⟩ => tE_run eK Rl hm ?_⟩
  rintro d n' v H' F' hd ad r
  rcases r with r | ⟨c, vs, ys, rfl, rfl, h1, h2⟩
  · rcases hd with ⟨xs, rfl, p⟩ | ⟨xs, rfl, p⟩
    · cases r with
      | lst hs ha => exact ⟨_, _, rfl, .inl ⟨ad.sub.seq hs, hq xs n' _ H' F' p ad ((itl_yf hs ha).yh ad.sub)⟩⟩
    · cases r with
      | tup hs ha => exact ⟨_, _, rfl, .inr ⟨seqT ad.sub hs.sq, hq xs n' _ H' F' p ad ((itt_yf hs.sq ha).yh ad.sub)⟩⟩
  · rcases hd with ⟨xs, e, p⟩ | ⟨xs, e, p⟩
    · cases e
      exact ⟨_, _, rfl, .inl ⟨.inl (.inl h1), hq ys n' _ H' F' p ad (itl_yh h1 h2 ad.sub (Rl.step ad).box)⟩⟩
    · cases e
/-- range -/
def rangeD (lo : Int) (n : Nat) : List D := (List.range n).map fun k => .int (lo + (k : Nat))
theorem rangeD_get (lo : Int) (n i : Nat) : (rangeD lo n)[i]? = if i < n then some (.int (lo + (i : Nat))) else none := by
  unfold rangeD
  rw [List.getElem?_map]
  by_cases h : i < n
  · rw [List.getElem?_range h, if_pos h]; rfl
  · rw [List.getElem?_eq_none (by simpa using Nat.le_of_not_lt h), if_neg h]; rfl
theorem rangeD_len (lo : Int) (n : Nat) : (rangeD lo n).length = n := by simp [rangeD]
theorem itr_yf {F : Hp} (lo : Int) (n : Nat) : YF K (Itr lo n) (rangeD lo n) F := fun i H F2 s1 s2 => by
  refine ⟨fun d e => ?_, fun hl => ?_⟩
  · rw [rangeD_get] at e
    by_cases hi : i < n
    · rw [if_pos hi] at e
      cases e
      refine ⟨hi, fun x H2 ⟨e1, e2⟩ => ?_⟩
      subst e1 e2
      exact ⟨F2, PAdv.refl s2, .int _⟩
    · rw [if_neg hi] at e; cases e
  · rw [rangeD_len] at hl; exact hl
def iR1 (m : EM) : IM := fun τ n Q => m τ n fun d n' => ∃ j, d = .int j ∧ (-(2 ^ 62) ≤ j ∧ j < 2 ^ 62) ∧ Q (rangeD 0 j.toNat) n'
def iR2 (m m' : EM) : IM := fun τ n Q => m τ n fun d n1 => m' τ n1 fun d' n2 => ∃ i j, d = .int i ∧ d' = .int j ∧ (-(2 ^ 62) ≤ i ∧ i < 2 ^ 62 ∧ -(2 ^ 62) ≤ j ∧ j < 2 ^ 62) ∧ Q (rangeD i (j - i).toNat) n2
theorem i_range1 (hg : Gl X "range") (hm : X.mg "range" = none) (h : E2 X .bw a ma) (hs : starEach [a] X.env = [(false, eval a X.env)] := by rfl) (hs' : starEach [a] X.env = (false, eval a X.env) :: starEach [] X.env := by rfl) : I2 X tg (.Call (.Name "range" p) [a] [] pos) (iR1 ma) := by
  refine ⟨pi_weak (pi_range1 hg hm (pa_cons h.pe pa_nil hs') hs) fun σ H R ⟨A, τ, n, F, P, eK, Rl, hm, hq⟩ => tE_run eK Rl hm ?_⟩
  rintro d n' v H' F' ⟨j, rfl, ⟨h1, h2⟩, q⟩ ad r
  exact ⟨j, by rw [bw_int r], h1, h2, hq _ n' _ H' F' q ad (itr_yf 0 j.toNat)⟩
theorem i_range2 (hg : Gl X "range") (hm : X.mg "range" = none) (h : E2 X .bw a ma) (h' : E2 X .bw b mb) (hs : starEach [a, b] X.env = [(false, eval a X.env), (false, eval b X.env)] := by rfl) (hs2 : starEach [b] X.env = [(false, eval b X.env)] := by rfl)
    (t1 : starEach [a, b] X.env = (false, eval a X.env) :: starEach [b] X.env := by rfl) (t2 : starEach [b] X.env = (false, eval b X.env) :: starEach [] X.env := by rfl) : I2 X tg (.Call (.Name "range" p) [a, b] [] pos) (iR2 ma mb) := by
  refine ⟨pi_weak (pi_range2 hg hm (pa_cons h.pe (pa_cons h'.pe pa_nil t2) t1) hs hs2) fun σ H R ⟨A, τ, n, F, P, eK, Rl, hm, hq⟩ => tE_run eK Rl hm fun d1 n1 v1 H1 F1 p1 a1 r1 => tE_run eK (Rl.step a1) p1 ?_⟩
  rintro d n' v H' F' ⟨i, j, rfl, rfl, q1, q⟩ ad r
  exact ⟨i, j, by rw [bw_int r1, bw_int r], q1, hq _ n' _ H' F' q (a1.trans ad) (itr_yf i (j - i).toNat)⟩
/-- range(a, b, -1) -/
def downD (hi : Int) (n : Nat) : List D := (List.range n).map fun k => .int (hi - (k : Nat))
def iR3 (m m' m'' : EM) : IM := fun τ n Q => m τ n fun d n1 => m' τ n1 fun d' n2 => m'' τ n2 fun d'' n3 => ∃ i j, d = .int i ∧ d' = .int j ∧ d'' = .int (-1) ∧ (-(2 ^ 62) ≤ i ∧ i < 2 ^ 62 ∧ -(2 ^ 62) ≤ j ∧ j < 2 ^ 62) ∧ Q (downD i (i - j).toNat) n3
theorem itc_yf {F : Hp} (hi : Int) (n : Nat) : YF K (Itc hi (-1) n) (downD hi n) F := fun i H F2 s1 s2 => by
  refine ⟨fun d e => ?_, fun hl => ?_⟩
  · unfold downD at e
    rw [List.getElem?_map] at e
    by_cases h : i < n
    · rw [List.getElem?_range h] at e
      cases e
      refine ⟨h, fun x H2 ⟨e1, e2⟩ => ?_⟩
      subst e1 e2
      refine ⟨F2, PAdv.refl s2, ?_⟩
      rw [show hi + (i : Int) * (-1) = hi - i by omega]
      exact .int _
    · rw [List.getElem?_eq_none (by simpa using Nat.le_of_not_lt h)] at e; cases e
  · have : n ≤ i := by simpa [downD] using hl
    exact this
theorem i_range3 {c : Expr} (hg : Gl X "range") (hm : X.mg "range" = none) (h : E2 X .bw a ma) (h' : E2 X .bw b mb) (h'' : E2 X .bw c mc) (hs : starEach [a, b, c] X.env = (false, eval a X.env) :: starEach [b, c] X.env := by rfl)
    (t2 : starEach [b, c] X.env = (false, eval b X.env) :: starEach [c] X.env := by rfl) (t3 : starEach [c] X.env = (false, eval c X.env) :: starEach [] X.env := by rfl)
    (hpl : (backTo pos (starEach [b, c] X.env)).any (·.1) = false := by rfl) : I2 X tg (.Call (.Name "range" p) [a, b, c] [] pos) (iR3 ma mb mc) := by
  refine ⟨pi_weak (pi_range3 hg hm (pa_cons h.pe (pa_cons h'.pe (pa_cons h''.pe pa_nil t3) t2) hs) hs hpl) fun σ H R ⟨A, τ, n, F, P, eK, Rl, hm, hq⟩ => tE_run eK Rl hm fun d1 n1 v1 H1 F1 p1 a1 r1 => tE_run eK (Rl.step a1) p1 fun d2 n2 v2 H2 F2 p2 a2 r2 => tE_run eK (Rl.step (a1.trans a2)) p2 ?_⟩
  rintro d n' v H' F' ⟨i, j, rfl, rfl, rfl, q1, q⟩ ad r
  exact ⟨i, j, -1, (i - j).toNat, by rw [bw_int r1, bw_int r2, bw_int r], RgC.neg q1.1 q1.2.1 q1.2.2.1 q1.2.2.2, hq _ n' _ H' F' q ((a1.trans a2).trans ad) (itc_yf i (i - j).toNat)⟩
/-- enumerate -/
def enumD : Nat → List D → List D
  | _, [] => []
  | k, x :: r => rawP (.int (k : Nat)) x :: enumD (k + 1) r
theorem enumD_get : ∀ (k : Nat) (xs : List D) (i : Nat), (enumD k xs)[i]? = (xs[i]?).map fun x => rawP (.int ((k + i : Nat) : Int)) x
  | _, [], _ => by simp [enumD]
  | k, x :: r, 0 => by simp [enumD]
  | k, x :: r, i + 1 => by
    rw [enumD, List.getElem?_cons_succ, List.getElem?_cons_succ, enumD_get (k + 1) r i, show k + 1 + i = k + (i + 1) by omega]
theorem enumD_len : ∀ (k : Nat) (xs : List D), (enumD k xs).length = xs.length
  | _, [] => rfl
  | k, _ :: r => congrArg Nat.succ (enumD_len (k + 1) r)
def iEn (m : EM) : IM := fun τ n Q => m τ n fun d n' => dItems d fun xs => Q (enumD 0 xs) n'
theorem pair_yield {H F : Hp} {T : Addr} {v1 v2 : V} {d1 d2 : D} (s : Same F H) (hT : H T = none) (h1 : Dp K F v1 d1) (h2 : Dp K F v2 d2) : ∃ F2, PAdv H F (upd H T (.tup [v1, v2])) F2 ∧ Dp K F2 (.ref T) (rawP d1 d2) := by
  obtain ⟨b1, b2⟩ := new_raw s hT h1 h2
  exact ⟨_, b1, b2⟩
theorem ite_yf {F : Hp} {a : Addr} {vs : List V} {items : List D} (h : SqL K F a vs) (hd : DpAll K F vs items) : YF K (Ite K a) (enumD 0 items) F := fun i H F2 s1 s2 => by
  have hH : SqL K H a vs := s2.seq (s1.seq h)
  refine ⟨fun d e => ?_, fun hl => ⟨vs, hH, by rw [dpAll_len hd]; rwa [enumD_len] at hl⟩⟩
  rw [enumD_get] at e
  cases q : items[i]? with
  | none => rw [q] at e; cases e
  | some x =>
    rw [q] at e
    cases e
    obtain ⟨v, e1, e2⟩ := dpAll_get hd q
    refine ⟨⟨vs, v, hH, e1⟩, ?_⟩
    rintro x' H2 ⟨T, w, rfl, hT, rfl, hy⟩
    have := hy vs hH
    rw [e1] at this
    cases this
    exact pair_yield s2 hT (by rw [Nat.zero_add]; exact .int _) (dp_mono s1 x _ e2)
theorem iteT_yf {F : Hp} {a : Addr} {vs : List V} {items : List D} (h : SqT K F a vs) (hd : DpAll K F vs items) : YF K (IteT K a) (enumD 0 items) F := fun i H F2 s1 s2 => by
  have hH : SqT K H a vs := seqT s2 (seqT s1 h)
  refine ⟨fun d e => ?_, fun hl => ⟨vs, hH, by rw [dpAll_len hd]; rwa [enumD_len] at hl⟩⟩
  rw [enumD_get] at e
  cases q : items[i]? with
  | none => rw [q] at e; cases e
  | some x =>
    rw [q] at e
    cases e
    obtain ⟨v, e1, e2⟩ := dpAll_get hd q
    refine ⟨⟨vs, v, hH, e1⟩, ?_⟩
    rintro x' H2 ⟨T, w, rfl, hT, rfl, hy⟩
    have := hy vs hH
    rw [e1] at this
    cases this
    exact pair_yield s2 hT (by rw [Nat.zero_add]; exact .int _) (dp_mono s1 x _ e2)
theorem ite_yh {bx : Bx} {n : Nat} {H F : Hp} {a : Addr} {vs : List V} {items : List D} (h : H a = some (.lst vs)) (hd : DpAll K F vs items) (s : Same F H) (bxh : BoxOk bx n H F) : YH K (Ite K a) (enumD 0 items) bx n H F := fun i n2 H2 F2 ad => by
  have hH : SqL K H2 a vs := .inl (.inl (ad.keep a _ h (bxh.no h fun _ e => nomatch e)))
  refine ⟨fun d e => ?_, fun hl => ⟨vs, hH, by rw [dpAll_len hd]; rwa [enumD_len] at hl⟩⟩
  rw [enumD_get] at e
  cases q : items[i]? with
  | none => rw [q] at e; cases e
  | some x =>
    rw [q] at e
    cases e
    obtain ⟨v, e1, e2⟩ := dpAll_get hd q
    refine ⟨⟨vs, v, hH, e1⟩, ?_⟩
    rintro x' H3 ⟨T, w, rfl, hT, rfl, hy⟩
    have := hy vs hH
    rw [e1] at this
    cases this
    exact pair_yield ad.sub hT (by rw [Nat.zero_add]; exact .int _) (dp_mono (ad.fro s) x _ e2)
theorem i_enum {elts : List Expr} {kk : Nat} (hg : Gl X "enumerate") (hm : X.mg "enumerate" = none) (h : E2 X .fz a ma) (hs : starEach [a] X.env = [(false, eval a X.env)] := by rfl) (hs' : starEach [a] X.env = (false, eval a X.env) :: starEach [] X.env := by rfl) :
    I2 X (.Tuple elts kk tpos) (.Call (.Name "enumerate" p) [a] [] pos) (iEn ma) := by
  refine ⟨pi_weak (pi_enumS hg hm (pa_cons h.pe pa_nil hs') hs) fun σ H R ⟨A, τ, n, F, P, eK, Rl, hm, hq⟩ => tE_run eK Rl hm ?_⟩
  rintro d n' v H' F' (⟨xs, rfl, q⟩ | ⟨xs, rfl, q⟩) ad r
  · cases r with
    | lst hs ha => exact ⟨_, _, rfl, .inl ⟨ad.sub.seq hs, hq _ n' _ H' F' q ad (ite_yf hs ha)⟩⟩
  · cases r with
    | tup hs ha => exact ⟨_, _, rfl, .inr ⟨seqT ad.sub hs.sq, hq _ n' _ H' F' q ad (iteT_yf hs.sq ha)⟩⟩
theorem j_enum {elts : List Expr} {kk : Nat} (hg : Gl X "enumerate") (hm : X.mg "enumerate" = none) (h : E2 X .bw a ma) (hs : starEach [a] X.env = [(false, eval a X.env)] := by rfl) (hs' : starEach [a] X.env = (false, eval a X.env) :: starEach [] X.env := by rfl) :
    J2 X (.Tuple elts kk tpos) (.Call (.Name "enumerate" p) [a] [] pos) (iEn ma) := by
  refine ⟨pi_weak (pi_enumS hg hm (pa_cons h.pe pa_nil hs') hs) fun σ H R ⟨A, τ, n, F, P, eK, Rl, hm, hq⟩ => tE_run eK Rl hm ?_⟩
  rintro d n' v H' F' hd ad r
  rcases r with r | ⟨c, vs, ys, rfl, rfl, h1, h2⟩
  · rcases hd with ⟨xs, rfl, q⟩ | ⟨xs, rfl, q⟩
    · cases r with
      | lst hs ha => exact ⟨_, _, rfl, .inl ⟨ad.sub.seq hs, hq _ n' _ H' F' q ad ((ite_yf hs ha).yh ad.sub)⟩⟩
    · cases r with
      | tup hs ha => exact ⟨_, _, rfl, .inr ⟨seqT ad.sub hs.sq, hq _ n' _ H' F' q ad ((iteT_yf hs.sq ha).yh ad.sub)⟩⟩
  · rcases hd with ⟨xs, e, q⟩ | ⟨xs, e, q⟩
    · cases e
      exact ⟨_, _, rfl, .inl ⟨.inl (.inl h1), hq _ n' _ H' F' q ad (ite_yh h1 h2 ad.sub (Rl.step ad).box)⟩⟩
    · cases e

/-! ### for -/
def forD : List D → GM → SM → En → Ev → Nat → Prop
  | [], _, _, E, τ, n => E.nx τ n
  | x :: r, g, b, E, τ, n => g x τ n fun τ1 n1 => b { E with nx := fun τ2 n2 => forD r g b E τ2 n2, ct := fun τ2 n2 => forD r g b E τ2 n2, bk := E.nx } τ1 n1
def sFor (mi : IM) (g : GM) (b : SM) : SM := fun E τ n => mi τ n fun items n1 => forD items g b E τ n1
theorem p_for {body : List Stmt} {mi : IM} {g : GM} {m : SM} {ws : List Nat} (hp : PassesOwn (model X.prog X.w) X.A X.env X.xe) (hc : X.calm = true) (hi : I2 X tg iter mi) (hg : G2 X ws tg g) (hb : S2 X kr body m)
    (hs : ∀ x, foldedSetIterable iter X.env x = pure x := by intro _; rfl) : P2 X kr (.For tg iter body [] pos) (sFor mi g m) := by
  refine ⟨fun Wx tk => ps_weak (ps_for hp hc hi.pi hg.pg (hb.ps Wx tk) hs) fun Dd σ H ⟨A, τ, n, F, E, eK, R, p, e⟩ => ⟨A, τ, n, F, _, eK, R, p, fun items n1 J H1 F1 p1 a1 y => ?_⟩⟩
  refine ⟨fun i k σ2 H2 => ∃ τ2 n2 F2, k = items.length - i ∧ i ≤ items.length ∧ Rel A τ2 n2 σ2 H2 F2 ∧ Same F1 F2 ∧ forD (items.drop i) g m E τ2 n2, ⟨items.length, τ, n1, F1, rfl, Nat.zero_le _, R.step a1, Same.refl F1, by rw [List.drop_zero]; exact p1⟩, ?_⟩
  rintro i k σ2 H2 ⟨τ2, n2, F2, rfl, hi, R2, s2, q⟩
  obtain ⟨y1, y2⟩ := y i H2 F2 s2 R2.same
  by_cases hl : i < items.length
  · have ed : items.drop i = items[i] :: items.drop (i + 1) := List.drop_eq_getElem_cons hl
    rw [ed] at q
    obtain ⟨g1, g2⟩ := y1 items[i] (List.getElem?_eq_getElem hl)
    refine .inr ⟨g1, fun σ' H' => ∃ τ3 n3 F3, Rel A τ3 n3 σ' H' F3 ∧ Same F2 F3 ∧ forD (items.drop (i + 1)) g m E τ3 n3, ?_, ?_⟩
    · rintro σ' H' ⟨τ3, n3, F3, R3, s3, q3⟩
      exact ⟨items.length - (i + 1), by omega, τ3, n3, F3, rfl, hl, R3, s2.trans s3, q3⟩
    · intro x H3 hy
      obtain ⟨F3, a3, d3⟩ := g2 x H3 hy
      have R3 := R2.step (a3.adv R2.box)
      have f23 := a3.fro R2.same
      refine ⟨A, τ2, n2, F3, _, items[i], eK, R3, d3, q, fun τ4 n4 σ4 H4 F4 p4 R4 s4 _ _ => ⟨A, τ4, n4, F4, _, eK, R4, p4, ?_⟩⟩
      have f14 : Same F F4 := (a1.fro R.same).trans (s2.trans (f23.trans s4))
      refine ⟨fun τ5 n5 σ5 H5 F5 p5 R5 s5 => ⟨τ5, n5, F5, R5, f23.trans (s4.trans s5), p5⟩, fun τ5 n5 σ5 H5 F5 p5 R5 s5 => e.nx τ5 n5 σ5 H5 F5 p5 R5 (f14.trans s5), fun τ5 n5 σ5 H5 F5 p5 R5 s5 => ⟨τ5, n5, F5, R5, f23.trans (s4.trans s5), p5⟩, e.rt, fun τ5 x5 n5 σ5 H5 F5 cls dd p5 R5 s5 => e.xx τ5 x5 n5 σ5 H5 F5 cls dd p5 R5 (f14.trans s5)⟩
  · have ei : i = items.length := by omega
    subst ei
    rw [List.drop_length] at q
    exact .inl ⟨y2 (Nat.le_refl _), e.nx τ2 n2 σ2 H2 F2 q R2 ((a1.fro R.same).trans s2)⟩

/-! ### while -/
def sWh (c : CM) (b : SM) : SM := fun E τ n => ∃ W : Nat → Ev → Nat → Prop, (∃ k, W k τ n) ∧ ∀ k τ n, W k τ n → c τ n fun t n1 => if t = true then b { E with nx := fun τ' n' => ∃ k', k' < k ∧ W k' τ' n', ct := fun τ' n' => ∃ k', k' < k ∧ W k' τ' n', bk := E.nx } τ n1 else E.nx τ n1
theorem p_while {c : Expr} {body : List Stmt} {cc : CM} {m : SM} (hp : PassesOwn (model X.prog X.w) X.A X.env X.xe) (hc : T2 X c cc) (hb : S2 X kr body m) : P2 X kr (.While c body [] pos) (sWh cc m) := by
  refine ⟨fun Wx tk => ps_weak (ps_while hp hc.pt (hb.ps Wx tk)) fun Dd σ H ⟨A, τ, n, F, E, eK, R, ⟨W, ⟨k0, w0⟩, turn⟩, e⟩ => ?_⟩
  refine ⟨fun k σ2 H2 => ∃ τ2 n2 F2, Rel A τ2 n2 σ2 H2 F2 ∧ Same F F2 ∧ W k τ2 n2, ⟨k0, τ, n, F, R, Same.refl F, w0⟩, ?_⟩
  rintro k σ2 H2 ⟨τ2, n2, F2, R2, s2, w2⟩
  refine tT_go eK R2 (turn k τ2 n2 w2) fun t n3 H3 F3 p3 a3 => ?_
  have R3 := R2.step a3
  have f3 := s2.trans (a3.fro R2.same)
  cases t with
  | true =>
    rw [if_pos rfl] at p3 ⊢
    refine ⟨fun σ' H' => ∃ k', k' < k ∧ ∃ τ4 n4 F4, Rel A τ4 n4 σ' H' F4 ∧ Same F F4 ∧ W k' τ4 n4, fun σ' H' h => h, A, τ2, n3, F3, _, eK, R3, p3, ?_⟩
    refine ⟨fun τ5 n5 σ5 H5 F5 ⟨k', h1, h2⟩ R5 s5 => ⟨k', h1, τ5, n5, F5, R5, f3.trans s5, h2⟩, fun τ5 n5 σ5 H5 F5 p5 R5 s5 => e.nx τ5 n5 σ5 H5 F5 p5 R5 (f3.trans s5), fun τ5 n5 σ5 H5 F5 ⟨k', h1, h2⟩ R5 s5 => ⟨k', h1, τ5, n5, F5, R5, f3.trans s5, h2⟩, e.rt, fun τ5 x5 n5 σ5 H5 F5 cls dd p5 R5 s5 => e.xx τ5 x5 n5 σ5 H5 F5 cls dd p5 R5 (f3.trans s5)⟩
  | false =>
    rw [if_neg Bool.false_ne_true] at p3 ⊢
    exact e.nx τ2 n3 σ2 H3 F3 p3 R3 f3
end
end TL
set_option Elab.async false
set_option linter.all false
set_option maxRecDepth 100000
set_option maxHeartbeats 4000000
namespace TL
variable [Mode]
open PySem PySem.Spec PyProof.Rows L2
section
variable {X : Cx} {K : PySem.W.Frag} {tg iter : Expr} {a b : Expr} {ma mb mc : EM} {p pos tpos : Pos} {kr : Kd}

/-! ### comprehensions -/
def wipeE (τ : Ev) : List Nat → Ev
  | [] => τ
  | v :: vs => (wipeE τ vs).set v none
theorem wipeE_len (τ : Ev) : ∀ vs, (wipeE τ vs).length = τ.length
  | [] => rfl
  | v :: vs => by unfold wipeE; rw [List.length_set, wipeE_len τ vs]
theorem wipeE_some {τ : Ev} {i : Nat} {s : Sl} : ∀ {vs : List Nat}, (wipeE τ vs)[i]? = some (some s) → τ[i]? = some (some s) ∧ i ∉ vs
  | [], h => ⟨h, by simp⟩
  | v :: vs, h => by
    unfold wipeE at h
    by_cases hi : v = i
    · subst hi
      by_cases hv : v < (wipeE τ vs).length
      · rw [List.getElem?_set_self hv] at h; cases h
      · rw [List.getElem?_eq_none (by simpa using hv)] at h; cases h
    · rw [List.getElem?_set_ne hi] at h
      obtain ⟨h1, h2⟩ := wipeE_some h
      exact ⟨h1, by simp only [List.mem_cons, not_or]; exact ⟨fun e => hi e.symm, h2⟩⟩
theorem wipe_get {σ : L2.St} {i : Nat} : ∀ {vs : List Nat}, i ∉ vs → (wipe σ vs)[i]? = σ[i]?
  | [], _ => rfl
  | v :: vs, h => by
    unfold wipe
    rw [List.getElem?_set_ne (fun e => h (by simp [e]))]
    exact wipe_get fun e => h (List.mem_cons_of_mem _ e)
theorem Rel.wipe {A : Act} {τ : Ev} {n : Nat} {σ : L2.St} {H F : Hp} (R : Rel A τ n σ H F) (vs : List Nat) : Rel A (wipeE τ vs) n (wipe σ vs) H F := by
  refine ⟨R.ok, by rw [wipeE_len, wipe_length]; exact R.len, R.adv, fun i s e => ?_, fun i j a s s' hij e1 o1 e2 o2 e3 e4 => ?_⟩
  · obtain ⟨h1, h2⟩ := wipeE_some e
    obtain ⟨v, g1, g2⟩ := R.sl i s h1
    exact ⟨v, by rw [wipe_get h2]; exact g1, g2⟩
  · obtain ⟨h1, h2⟩ := wipeE_some e1
    obtain ⟨h3, h4⟩ := wipeE_some e2
    rw [wipe_get h2] at e3
    rw [wipe_get h4] at e4
    exact R.dis i j a s s' hij h1 o1 h3 o2 e3 e4
structure C2 (X : Cx) (ifs : List Expr) (c : CM) : Prop where
  pt : PTs X ifs (tT X.K c)
def cYes : CM := fun _ n Q => Q true n
theorem pts_weak {ifs : List Expr} {t t' : TT} (h : PTs X ifs t) (w : ∀ σ H Q, t' σ H Q → t σ H Q) : PTs X ifs t' := ⟨fun pins s σ H Q I q => h.run pins s σ H Q I (w σ H Q q)⟩
theorem c_nil : C2 X [] cYes := ⟨pts_weak pts_nil fun σ H Q ⟨A, τ, n, F, P, eK, R, p, hq⟩ => hq true n H F p (Adv.refl R.same R.box)⟩
theorem c_one {c : Expr} {cc : CM} (h : T2 X c cc) : C2 X [c] cc := ⟨pts_one h.pt⟩
def lcD (g : GM) (c : CM) (me : EM) (τw : Ev) : List D → List D → Nat → (D → Nat → Prop) → Prop
  | [], acc, n, Q => Q (.list acc) n
  | x :: r, acc, n, Q => g x τw n fun τ1 n1 => c τ1 n1 fun b n2 => if b = true then me τ1 n2 fun y n3 => acc.length < sizeLine ∧ lcD g c me τw r (acc ++ [y]) n3 Q else lcD g c me τw r acc n2 Q
def mLc (mi : IM) (g : GM) (c : CM) (me : EM) (vs : List Nat) : EM := fun τ n Q => mi τ n fun items n1 => lcD g c me (wipeE τ vs) items [] n1 Q
/-- the new list under way -/
structure LcI (A : Act) (bx : Bx) (n1 : Nat) (H1 F1 : Hp) (D0 : Addr) (acc : List D) (n : Nat) (H F : Hp) : Prop where
  adv : Adv bx n1 n H1 F1 H F
  fr : F D0 = none
  at_ : ∃ vs, H D0 = some (.lst vs) ∧ DpAll A.K F vs acc
theorem LcI.step {A : Act} {bx : Bx} {n1 n n' : Nat} {H1 F1 H F H' F' : Hp} {D0 : Addr} {acc : List D} (L : LcI A bx n1 H1 F1 D0 acc n H F) (ad : Adv bx n n' H F H' F') : LcI A bx n1 H1 F1 D0 acc n' H' F' := by
  obtain ⟨vs, h1, h2⟩ := L.at_
  have hb : ¬ Vol bx _ D0 := L.adv.box.no h1 fun _ e => nomatch e
  refine ⟨L.adv.trans ad, ?_, vs, ad.keep D0 _ h1 hb, dp_monoAll (ad.fro L.adv.sub) acc vs h2⟩
  rw [ad.old D0 (by rw [h1]; exact fun z => nomatch z)]
  exact L.fr
theorem lc_read {A : Act} {τ : Ev} {n1 : Nat} {σ : L2.St} {H1 F1 : Hp} {vs : List Nat} {J : It} {items : List D} {g : GM} {c : CM} {me : EM} {ws : List Nat} {P : D → Nat → Prop} {Qd : Addr → Hp → Prop} (R : Rel A τ n1 σ H1 F1) (hw : ∀ i ∈ ws, i ∈ vs)
    (y : YH A.K J items A.bx n1 H1 F1) (h : lcD g c me (wipeE τ vs) items [] n1 P)
    (hq : ∀ D0 acc n' H' F', H1 D0 = none → P (.list acc) n' → LcI A A.bx n1 H1 F1 D0 acc n' H' F' → Qd D0 H') :
    ∀ D0, H1 D0 = none → ∃ W : Nat → Nat → Hp → Prop, (∃ m, W 0 m (upd H1 D0 (.lst []))) ∧ ∀ i m H, W i m H →
  (J.stop i H ∧ Qd D0 H) ∨ (J.go i H ∧ ∃ Nx : Hp → Prop, (∀ H', Nx H' → ∃ m', m' < m ∧ W (i + 1) m' H') ∧ ∀ x H', J.yld i H x H' → tG A.K ws g x (L2.wipe σ vs) H' fun σ2 H2 => L2.wipe σ2 vs = L2.wipe σ vs ∧ tT A.K c σ2 H2 fun b H3 =>
    if b = true then tE A.K .fz me σ2 H3 fun y H4 => ∃ acc, H4 D0 = some (.lst acc) ∧ acc.length < sizeLine ∧ Nx (upd H4 D0 (.lst (acc ++ [y]))) else Nx H3) := by
  intro D0 hD0
  have hF1 : F1 D0 = none := by
    cases e : F1 D0 with
    | none => rfl
    | some o => rw [R.same D0 o e] at hD0; cases hD0
  refine ⟨fun i m H => ∃ acc n F, m = items.length - i ∧ i ≤ items.length ∧ LcI A A.bx n1 H1 F1 D0 acc n H F ∧ lcD g c me (wipeE τ vs) (items.drop i) acc n P, ⟨items.length, [], n1, F1, rfl, Nat.zero_le _, ⟨(PAdv.new' R.same hD0).adv R.box, hF1, [], upd_same, .nil⟩, by rw [List.drop_zero]; exact h⟩, ?_⟩
  rintro i m H ⟨acc, n, F, rfl, hi, L, q⟩
  obtain ⟨y1, y2⟩ := y i n H F L.adv
  by_cases hl : i < items.length
  · have ed : items.drop i = items[i] :: items.drop (i + 1) := List.drop_eq_getElem_cons hl
    rw [ed] at q
    obtain ⟨g1, g2⟩ := y1 items[i] (List.getElem?_eq_getElem hl)
    refine .inr ⟨g1, fun H' => ∃ acc n F, LcI A A.bx n1 H1 F1 D0 acc n H' F ∧ lcD g c me (wipeE τ vs) (items.drop (i + 1)) acc n P, ?_, ?_⟩
    · rintro H' ⟨acc', n', F', L', q'⟩
      exact ⟨items.length - (i + 1), by omega, acc', n', F', rfl, hl, L', q'⟩
    · intro x H2 hy
      obtain ⟨F2, a2, d2⟩ := g2 x H2 hy
      have L2' := L.step (a2.adv (R.step L.adv).box)
      have R2 := (R.step L2'.adv).wipe vs
      refine ⟨A, wipeE τ vs, n, F2, _, items[i], rfl, R2, d2, q, fun τ3 n3 σ3 H3 F3 p3 R3 s3 a3 x3 => ⟨?_, ?_⟩⟩
      · rw [x3.1 vs hw]
        exact wipe_wipe σ vs
      · have L3 := L2'.step a3
        refine tT_go rfl R3 p3 fun t n4 H4 F4 p4 a4 => ?_
        have L4 := L3.step a4
        cases t with
        | true =>
          rw [if_pos rfl] at p4 ⊢
          refine tE_run rfl (R3.step a4) p4 fun d n5 v H5 F5 p5 a5 r5 => ?_
          obtain ⟨hz, p5⟩ := p5
          have L5 := L4.step a5
          obtain ⟨ws5, h51, h52⟩ := L5.at_
          refine ⟨ws5, h51, by rw [dpAll_len h52]; exact hz, acc ++ [d], n5, F5, ⟨⟨fun c o e hb => ?_, L5.adv.old, fun c o e => ?_, L5.adv.box.chg h51 (fun _ e => nomatch e) L5.fr, L5.adv.grow, L5.adv.new⟩, L5.fr, ws5 ++ [v], upd_same, dpAll_append h52 (.cons r5 .nil)⟩, p5⟩
          · rw [upd_ne (ne_of_none e hD0)]; exact L5.adv.keep c o e hb
          · rw [upd_ne (ne_of_none e L5.fr)]; exact L5.adv.sub c o e
        | false =>
          rw [if_neg Bool.false_ne_true] at p4 ⊢
          exact ⟨acc, n4, F4, L4, p4⟩
  · have ei : i = items.length := by omega
    subst ei
    rw [List.drop_length] at q
    exact .inl ⟨y2 (Nat.le_refl _), hq D0 acc n H F hD0 q L⟩
where
  wipe_wipe (σ : L2.St) (vs : List Nat) : L2.wipe (L2.wipe σ vs) vs = L2.wipe σ vs := by
    apply List.ext_getElem?
    intro i
    by_cases h : i ∈ vs
    · rw [wget σ vs h, wget (L2.wipe σ vs) vs h, wipe_length]
    · rw [wipe_get h]
  wget (σ : L2.St) : ∀ (vs : List Nat) {i : Nat}, i ∈ vs → (L2.wipe σ vs)[i]? = if i < σ.length then some none else none
    | [], i, h => by cases h
    | v :: vs, i, h => by
      unfold L2.wipe
      by_cases e : v = i
      · subst e
        by_cases hl : v < σ.length
        · rw [List.getElem?_set_self (by rw [wipe_length]; exact hl), if_pos hl]
        · rw [List.getElem?_eq_none (by rw [List.length_set, wipe_length]; omega), if_neg hl]
      · rw [List.getElem?_set_ne e]
        exact wget σ vs ((List.mem_cons.mp h).resolve_left (Ne.symm e))
theorem e_lc {elt : Expr} {ifs : List Expr} {scope : Scope} {own : List (Str × Nat)} {mi : IM} {g : GM} {c : CM} {me : EM} {ws : List Nat} (hc : X.calm = true) (hN : X.N.Nodup) (hi : J2 X tg iter mi) (ok : BlkOk X.N X.env.scope scope own)
    (hg : ∀ (s : Shared) (H : Hp) (C : Addr) (cl : List (Str × Addr)) (fp : List Addr), G2 (X.blk s H scope (compEnvC scope cl C X.env) fp) ws tg g) (ht : ∀ (s : Shared) (H : Hp) (C : Addr) (cl : List (Str × Addr)) (fp : List Addr), C2 (X.blk s H scope (compEnvC scope cl C X.env) fp) ifs c)
    (he : ∀ (s : Shared) (H : Hp) (C : Addr) (cl : List (Str × Addr)) (fp : List Addr), E2 (X.blk s H scope (compEnvC scope cl C X.env) fp) .fz elt me) (hw : ∀ i ∈ ws, i ∈ own.map (·.2) := by decide) (hs : ∀ x, foldedSetIterable iter X.env x = pure x := by intro _; rfl) :
    E2 X .nw (.ListComp elt [⟨tg, iter, ifs, 0⟩] scope pos) (mLc mi g c me (own.map (·.2))) := by
  refine ⟨pe_weak (pe_lc (te := tE X.K .fz me) (g := tG X.K ws g) (tt := tT X.K c) hc hN hi.pi ok (fun s H C cl fp => (hg s H C cl fp).pg) (fun s H C cl fp => (ht s H C cl fp).pt) (fun s H C cl fp => (he s H C cl fp).pe) hs) fun σ H Q ⟨A, τ, n, F, P, eK, R, hm, hq⟩ => ⟨A, τ, n, F, _, eK, R, hm, fun items n1 J H1 F1 p1 a1 y => ?_⟩⟩
  have eK' : A.K = X.K := eK
  have := lc_read (Qd := fun D0 H' => Q (.ref D0) H') (R.step a1) hw (eK'.symm ▸ y) p1 fun D0 acc n' H' F' hD p' L => by
    obtain ⟨vs, h1, h2⟩ := L.at_
    exact hq _ n' _ H' F' p' (a1.trans L.adv) ⟨D0, vs, acc, rfl, rfl, a1.none_back D0 hD, L.fr, h1, eK' ▸ h2⟩
  rw [eK'] at this
  exact this
/-- name = [..] of one line, the name a local -/
theorem p_setLc {k : Kd} {i : Nat} {y : Str} {py spos : Pos} {elt : Expr} {ifs : List Expr} {scope : Scope} {own : List (Str × Nat)} {mi : IM} {g : GM} {c : CM} {me : EM} {ws : List Nat} (hk : k = .fz ∨ k = .nw) (hc : X.calm = true) (hN : X.N.Nodup) (hy : X.N[i]? = some y) (hyl : X.env.scope.names.lookup y = some .local)
    (hi : J2 X tg iter mi) (ok : BlkOk X.N X.env.scope scope own)
    (hg : ∀ (s : Shared) (H : Hp) (C : Addr) (cl : List (Str × Addr)) (fp : List Addr), G2 (X.blk s H scope (compEnvC scope cl C X.env) fp) ws tg g) (ht : ∀ (s : Shared) (H : Hp) (C : Addr) (cl : List (Str × Addr)) (fp : List Addr), C2 (X.blk s H scope (compEnvC scope cl C X.env) fp) ifs c)
    (he : ∀ (s : Shared) (H : Hp) (C : Addr) (cl : List (Str × Addr)) (fp : List Addr), E2 (X.blk s H scope (compEnvC scope cl C X.env) fp) .fz elt me)
    (hsw : swapsWith (.ListComp elt [⟨tg, iter, ifs, 0⟩] scope pos) (some (.Name y py)) spos.line X.env = pure true) (hw : ∀ i ∈ ws, i ∈ own.map (·.2) := by decide) (hs : ∀ x, foldedSetIterable iter X.env x = pure x := by intro _; rfl) :
    P2 X kr (.Assign [.Name y py] (.ListComp elt [⟨tg, iter, ifs, 0⟩] scope pos) spos) (sSet k i (mLc mi g c me (own.map (·.2)))) := by
  refine ⟨fun Wx tk => ps_weak (ps_setLc (te := tE X.K .fz me) (g := tG X.K ws g) (tt := tT X.K c) hc hN hy hyl hsw hi.pi ok (fun s H C cl fp => (hg s H C cl fp).pg) (fun s H C cl fp => (ht s H C cl fp).pt) (fun s H C cl fp => (he s H C cl fp).pe) hs) fun Dd σ H ⟨A, τ, n, F, E, eK, R, hm, e⟩ => ⟨A, τ, n, F, _, eK, R, hm, fun items n1 J H1 F1 p1 a1 yy => ?_⟩⟩
  have eK' : A.K = X.K := eK
  have := lc_read (Qd := fun D0 H' => Dd.nx (σ.set i (some (.ref D0))) H') (R.step a1) hw (eK'.symm ▸ yy) p1 fun D0 acc n' H' F' hD p' L => by
    obtain ⟨vs, h1, h2⟩ := L.at_
    have r : RepK A.K .nw H H' F' (.ref D0) (.list acc) := ⟨D0, vs, acc, rfl, rfl, a1.none_back D0 hD, L.fr, h1, h2⟩
    have ad := a1.trans L.adv
    rcases hk with rfl | rfl
    · obtain ⟨F2, g1, g2, g3, hB, g4⟩ := nw_fz ad.sub r
      have ad2 : Adv A.bx n n' H F H' F2 := ⟨ad.keep, fun c hc => (g1 c hc).trans (ad.old c hc), g2, hB _ _ ad.box, ad.grow, ad.new⟩
      exact e.nx _ n' _ H' F2 p' (R.set1 (k := .fz) i (by intro z; cases z) ad2 g4) (ad2.fro R.same)
    · exact e.nx _ n' _ H' F' p' (R.set1 (k := .nw) i (by intro z; cases z) ad r) (ad.fro R.same)
  rw [eK'] at this
  exact this

/-! ### arguments of defs -/
def kNil : AM := fun _ n Q => Q [] n
def kCons (m : EM) (r : AM) : AM := fun τ n Q => m τ n fun d n1 => r τ n1 fun ss n2 => Q (.d d :: ss) n2
def kBox (i : Nat) (r : AM) : AM := fun τ n Q => τ[i]? = some (some .box) ∧ r τ n fun ss n2 => Q (.box :: ss) n2
theorem SlArg.mono {bx : Bx} {F F' : Hp} (s : Same F F') {x : Sl} {v : V} (h : SlArg K bx F x v) : SlArg K bx F' x v := by
  cases x with
  | d x => exact dp_mono s x v h
  | _ => exact h
theorem a_nil : A2 X [] kNil := ⟨pa_weak pa_nil fun σ H Q ⟨A, τ, n, F, P, eK, R, p, hq⟩ => hq [] n [] H F p (Adv.refl R.same R.box) .nil⟩
theorem a_cons {es : List Expr} {m : AM} (ha : E2 X .fz a ma) (hr : A2 X es m) (hs : starEach (a :: es) X.env = (false, eval a X.env) :: starEach es X.env := by rfl) : A2 X (a :: es) (kCons ma m) := by
  refine ⟨pa_weak (pa_cons ha.pe hr.pa hs) fun σ H Q ⟨A, τ, n, F, P, eK, R, hm, hq⟩ => tE_run eK R hm fun d n1 v H1 F1 p1 a1 r1 => ?_⟩
  refine ⟨A, τ, n1, F1, _, eK, R.step a1, p1, fun ds n2 vs H2 F2 p2 a2 r2 => ?_⟩
  exact hq (.d d :: ds) n2 (v :: vs) H2 F2 p2 (a1.trans a2) (.cons (dp_mono (a2.fro a1.sub) d v r1) r2)
theorem a_box {es : List Expr} {m : AM} {i : Nat} (ha : PE X a (tVar i)) (hr : A2 X es m) (hs : starEach (a :: es) X.env = (false, eval a X.env) :: starEach es X.env := by rfl) : A2 X (a :: es) (kBox i m) := by
  refine ⟨pa_weak (pa_cons ha hr.pa hs) fun σ H Q ⟨A, τ, n, F, P, eK, R, ⟨e, hm⟩, hq⟩ => ?_⟩
  obtain ⟨v, h1, h2⟩ := R.sl i _ e
  exact ⟨v, h1, A, τ, n, F, _, eK, R, hm, fun ds n2 vs H2 F2 p2 a2 r2 => hq (.box :: ds) n2 (v :: vs) H2 F2 p2 a2 (.cons h2 r2)⟩

/-! ### defs -/
abbrev FM := List Sl → Nat → (D → Nat → Prop) → (XE → Nat → Prop) → Prop
/-- a def's promise over data -/
def Pr (K : PySem.W.Frag) (kr : Kd) (np : Nat) (m : FM) : Sp := fun vs H Q Ex => ∃ F as n bx P PX, as.length = np ∧ Same F H ∧ (BoxOk bx n H F ∧ Mode.K bx = K) ∧ Paired (SlArg K bx F) as vs ∧ m as n P PX ∧
  (∀ d n' v H' F', P d n' → Adv bx n n' H F H' F' → RepK K kr H H' F' v d → Q v H') ∧ ∀ x n' cls dd H' F', PX x n' → Adv bx n n' H F H' F' → XRep K F' H' x cls dd → Ex cls dd H'
theorem Pr.len {kr : Kd} {np : Nat} {m : FM} (vs : List V) (H : Hp) (Q : VK) (E : XK) (h : Pr K kr np m vs H Q E) : vs.length = np := by
  obtain ⟨F, as, n, bx, P, PX, hl, _, _, hp, _⟩ := h
  exact hp.length.symm.trans hl
/-- a weaker promise -/
theorem Pr.imp {kr : Kd} {np : Nat} {m m' : FM} (h : ∀ as n P PX, as.length = np → m' as n P PX → m as n P PX) (vs : List V) (H : Hp) (Q : VK) (E : XK) (q : Pr K kr np m' vs H Q E) : Pr K kr np m vs H Q E := by
  obtain ⟨F, as, n, bx, P, PX, hl, s, b, hp, hm, r⟩ := q
  exact ⟨F, as, n, bx, P, PX, hl, s, b, hp, h as n P PX hl hm, r⟩
/-- f(..) that raises nothing -/
def mCall (f : FM) (m : AM) : EM := fun τ n Q => m τ n fun ss n1 => f ss n1 Q fun _ _ => False
theorem tCall_go {kr : Kd} {np : Nat} {f : FM} {m : AM} {σ : L2.St} {H : Hp} {Q : VK} {E : XK} (h : tE K kr (mCall (fun ss n P PX => ss.length = np ∧ f ss n P PX) m) σ H Q) : tCall (Pr K kr np f) [] E (tA K m) σ H Q := by
  obtain ⟨A, τ, n, F, P, eK, R, hm, hq⟩ := h
  refine ⟨A, τ, n, F, _, eK, R, hm, fun ss n1 vs H1 F1 p1 a1 r1 => ?_⟩
  show Pr K kr np f (vs ++ []) H1 Q E
  rw [List.append_nil]
  have R1 := R.step a1
  refine ⟨F1, ss, n1, A.bx, P, fun _ _ => False, p1.1, R1.same, ⟨R1.box, R1.ok.bk.trans eK⟩, r1, p1.2, fun d n' v H' F' p' a' r' => ?_, fun _ _ _ _ _ _ z => z.elim⟩
  · exact hq d n' v H' F' p' (a1.trans a') (r'.h0 fun c h => a1.none_back c h)
/-- the def's arguments' number is told -/
abbrev mCal (np : Nat) (f : FM) (m : AM) : EM := mCall (fun ss n P PX => ss.length = np ∧ f ss n P PX) m
theorem e_call {k : Nat} {fa : Addr} {fd : FuncData} {ps : List Str} {kr : Kd} {np : Nat} {f : FM} {m : AM} {x : Str} {es : List Expr} (G : FnOk X.prog X.w X.K X.mg X.base CX0 k fa fd ps (Pr X.K kr np f)) (hr : Room k X.A) (hg : Gl X x) (hm : X.mg x = some (.ref fa)) (hk : PySem.W.keepIn X.K (.ref fa) = true) (hb : Binds X.K fd ps [])
    (ha : A2 X (a :: es) m) (hdb : (x == ("__debug__" : Str)) = false := by decide) (he : starEach (a :: es) X.env = (false, eval a X.env) :: starEach es X.env := by rfl) (hpl : (backTo pos (starEach es X.env)).any (·.1) = false := by rfl) :
    E2 X kr (.Call (.Name x p) (a :: es) [] pos) (mCal np f m) :=
  ⟨pe_weak (pe_call G hr hg hm hk hb .nil pass0 ha.pa hdb he hpl) fun _ _ _ h => tCall_go h⟩
/-- the names of a def at its start -/
def startE (nN : Nat) (as : List Sl) : Ev := as.map some ++ List.replicate (nN - as.length) none
theorem start_rel {K : PySem.W.Frag} {N : List Str} {as : List Sl} {vs : List V} {H F : Hp} {bx : Bx} {n : Nat} (s : Same F H) (hb : BoxOk bx n H F ∧ Mode.K bx = K) (hp : Paired (SlArg K bx F) as vs) :
    Rel ⟨K, H, F, bx, n⟩ (startE N.length as) n (L2.start N vs) H F := by
  have hl : as.length = vs.length := hp.length
  have key : ∀ (as : List Sl) (vs : List V), Paired (SlArg K bx F) as vs → ∀ (i : Nat) (s : Sl), as[i]? = some s → ∃ v, vs[i]? = some v ∧ SlArg K bx F s v := by
    intro as
    induction as with
    | nil => intro vs _ i s e; simp at e
    | cons x r ih =>
      intro vs h i s e
      cases h with
      | cons h1 h2 =>
        cases i with
        | zero => simp at e; subst e; exact ⟨_, rfl, h1⟩
        | succ i =>
          obtain ⟨v, g1, g2⟩ := ih _ h2 i s (by simpa using e)
          exact ⟨v, by simpa using g1, g2⟩
  have at_ : ∀ (i : Nat) (s : Sl), (startE N.length as)[i]? = some (some s) → as[i]? = some s := fun i s e => by
    unfold startE at e
    by_cases hi : i < as.length
    · rw [List.getElem?_append_left (by simpa using hi), List.getElem?_map] at e
      cases q : as[i]? with
      | none => rw [q] at e; cases e
      | some x => rw [q] at e; cases e; rfl
    · rw [List.getElem?_append_right (by simpa using Nat.le_of_not_lt hi), List.getElem?_replicate] at e
      split at e <;> cases e
  have own : ∀ (i : Nat) (s : Sl), (startE N.length as)[i]? = some (some s) → s.own = true → False := fun i s e o => by
    obtain ⟨v, _, g⟩ := key as vs hp i s (at_ i s e)
    cases s <;> first | exact g | exact absurd o (by simp [Sl.own])
  refine ⟨⟨s, hb.1, hb.2⟩, ?_, Adv.refl s hb.1, fun i s' e => ?_, fun i j a s1 s2 _ e1 o1 _ _ _ => (own i s1 e1 o1).elim⟩
  · unfold startE L2.start
    simp [hl]
  · obtain ⟨v, g1, g2⟩ := key as vs hp i s' (at_ i s' e)
    refine ⟨v, ?_, ?_⟩
    · unfold L2.start
      rw [List.getElem?_append_left (by rw [List.length_map]; exact (List.getElem?_eq_some_iff.mp g1).1), List.getElem?_map, g1]
      rfl
    · cases s' <;> first | exact g2 | exact g2.elim
/-- what a def's body does -/
def bodyM (nN : Nat) (b : (XE → Nat → Prop) → SM) : FM := fun as n P PX => b PX { nx := fun _ n' => P .none n', rt := P } (startE nN as) n
theorem fn_ok {P : Program} {w : World} {mg : Str → Option Value} {base : Heap} {x qual : Str} {params : Arguments} {body : List Stmt} {scope : Scope} {f : Addr} {fd : FuncData} {N ps : List Str} {k : Nat} {kr : Kd} {b : SM} {mN : Nat}
    (F : FunD K x qual params body scope [] [] f fd) (S : FnScope N ps scope) (hN : N.length = mN) (hkr : kr = .fz ∨ kr = .nw)
    (hbody : ∀ (cdv : Value) (A : Around) (outer : List Env) (s : Shared) (H : Hp) (E : XK), Room k (A.deeper (envOfC qual scope s.heap.objs.size f cdv)) → S2 (cxOf CX0 P w K mg base N qual scope f cdv A outer s H E).nox kr body b)
    (hnx : kr = .nw → ∀ E τ n, b E τ n → b { E with nx := fun _ _ => False } τ n) :
    FnOk P w K mg base CX0 (k + 1) f fd ps (Pr K kr ps.length (bodyM mN fun _ => b)) := by
  refine F.ok S (fun vs H Q E h => Pr.len vs H Q E h) fun cdv A outer s H vs Q E hr h => ⟨_, ((hbody cdv A outer s H E hr).ps _ takesF).nox, ?_⟩
  obtain ⟨F0, as, n, bx, P', PX, hl, sm, hb, hp, hm, hq, hx⟩ := h
  have R := start_rel (N := N) sm hb hp
  rw [hN] at R
  rcases hkr with rfl | rfl
  · exact ⟨_, _, n, F0, _, rfl, R, hm, ⟨fun τ n' σ H' F' p' R' _ => hq .none n' .non H' F' p' R'.adv .non, fun _ _ _ _ _ z => z.elim, fun _ _ _ _ _ z => z.elim, fun d n' v H' F' p' a' r' => hq d n' v H' F' p' a' r', fun _ _ _ _ _ _ _ _ z => z.elim⟩⟩
  · exact ⟨_, _, n, F0, _, rfl, R, hnx rfl _ _ _ hm, ⟨fun _ _ _ _ _ z => z.elim, fun _ _ _ _ _ z => z.elim, fun _ _ _ _ _ z => z.elim, fun d n' v H' F' p' a' r' => hq d n' v H' F' p' a' r', fun _ _ _ _ _ _ _ _ z => z.elim⟩⟩
end
end TL
set_option Elab.async false
set_option linter.all false
set_option maxRecDepth 100000
set_option maxHeartbeats 4000000
namespace TL
variable [Mode]
open PySem PySem.Spec PyProof.Rows L2
section
variable {X : Cx} {K : PySem.W.Frag} {tg iter : Expr} {a b c e : Expr} {ma mb mc me : EM} {p pos tpos apos cpos : Pos} {kr : Kd}

/-! ### an owned list is changed -/
theorem Rel.upd {A : Act} {τ : Ev} {n : Nat} {σ : L2.St} {H F : Hp} (R : Rel A τ n σ H F) {i : Nat} {xs ys : List D} {l : Addr} {ws : List V} (e : τ[i]? = some (some (.ow xs))) (e2 : σ[i]? = some (some (.ref l))) (hd : DpAll A.K F ws ys) :
    Rel A (τ.set i (some (.ow ys))) n σ (upd H l (.lst ws)) F := by
  obtain ⟨v, h1, a, vs, rfl, h2, h3, h4, h5⟩ := R.sl i _ e
  rw [e2] at h1
  cases h1
  have hi : i < τ.length := (List.getElem?_eq_some_iff.mp e).1
  have hb : ¬ Vol A.bx _ l := R.box.no h4 fun _ e => nomatch e
  refine ⟨R.ok, by rw [List.length_set]; exact R.len, ⟨fun c o z x => ?_, R.adv.old, fun c o z => ?_, R.box.chg h4 (fun _ e => nomatch e) h3, R.adv.grow, R.adv.new⟩, fun j s z => ?_, fun j k b s1 s2 hjk e1 o1 e3 o2 e4 e5 => ?_⟩
  · rw [upd_ne (ne_of_none z h2)]; exact R.adv.keep c o z x
  · rw [upd_ne (ne_of_none z h3)]; exact R.same c o z
  · by_cases q : j = i
    · subst q
      rw [List.getElem?_set_self hi] at z
      cases z
      exact ⟨_, e2, l, ws, rfl, h2, h3, upd_same, hd⟩
    · rw [List.getElem?_set_ne (Ne.symm q)] at z
      obtain ⟨w, g1, g2⟩ := R.sl j s z
      refine ⟨w, g1, ?_⟩
      have ne : ∀ c, s.own = true → At s σ[j]? c → c ≠ l := fun c o ew ec => by subst ec; exact R.dis j i c _ _ q z o e rfl ew (.inl e2)
      cases s with
      | ow zs =>
        obtain ⟨c, us, rfl, k1, k2, k3, k4⟩ := g2
        exact ⟨c, us, rfl, k1, k2, by rw [upd_ne (ne c rfl (.inl g1))]; exact k3, k4⟩
      | odk zs =>
        obtain ⟨c, us, rfl, k1, k2, k3, k4⟩ := g2
        exact ⟨c, us, rfl, k1, k2, by rw [upd_ne (ne c rfl (.inl g1))]; exact k3, k4⟩
      | odt zs =>
        obtain ⟨c, us, rfl, k1, k2, k3, k4⟩ := g2
        exact ⟨c, us, rfl, k1, k2, by rw [upd_ne (ne c rfl (.inl g1))]; exact k3, k4⟩
      | nl as xss =>
        obtain ⟨c, rfl, nd, k1, k2, k3, k4⟩ := g2
        exact ⟨c, rfl, nd, k1, k2, by rw [upd_ne (ne c rfl (.inl g1))]; exact k3, k4.imp fun b hb us zs p1 p2 p3 p4 => ⟨p1, p2, by rw [upd_ne (ne b rfl (.inr hb))]; exact p3, p4⟩⟩
      | d x => exact g2
      | box => exact g2
      | raw x => exact g2
      | dk x => exact g2
      | dt x => exact g2
  · by_cases zj : j = i
    · subst zj
      by_cases zk : k = j
      · exact absurd zk (Ne.symm hjk)
      · rw [List.getElem?_set_ne (Ne.symm zk)] at e3
        rw [List.getElem?_set_self hi] at e1
        cases e1
        exact R.dis j k b _ s2 hjk e rfl e3 o2 e4 e5
    · rw [List.getElem?_set_ne (Ne.symm zj)] at e1
      by_cases zk : k = i
      · subst zk
        rw [List.getElem?_set_self hi] at e3
        cases e3
        exact R.dis j k b s1 _ hjk e1 o1 e rfl e4 e5
      · rw [List.getElem?_set_ne (Ne.symm zk)] at e3
        exact R.dis j k b s1 s2 hjk e1 o1 e3 o2 e4 e5
/-- expressions that change owned lists -/
abbrev XM := Ev → Nat → (D → Ev → Nat → Prop) → Prop
def tX (K : PySem.W.Frag) (m : XM) : TE := fun σ H Q => ∃ A τ n F P, A.K = K ∧ Rel A τ n σ H F ∧ m τ n P ∧ ∀ d τ' n' v H' F', P d τ' n' → Rel A τ' n' σ H' F' → Same F F' → Dp K F' v d → Q v H'
structure X2 (X : Cx) (e : Expr) (m : XM) : Prop where
  pe : PE X e (tX X.K m)
def sX (m : XM) : SM := fun E τ n => m τ n fun _ τ' n' => E.nx τ' n'
theorem p_exprX {m : XM} (h : X2 X e m) (hs : swapsWith e none pos.line X.env = pure false := by rfl) : P2 X kr (.Expr e pos) (sX m) :=
  ⟨fun Wx tk => ps_weak (ps_expr h.pe hs) fun Dd σ H ⟨A, τ, n, F, E, eK, R, p, e⟩ => ⟨A, τ, n, F, _, eK, R, p, fun d τ' n' v H' F' p1 R1 s1 r1 => e.nx τ' n' σ H' F' p1 R1 s1⟩⟩
/-- a method of an owned list: xs, the arguments -> the answer, the list then -/
abbrev MOp := List D → List D → (D → List D → Prop) → Prop
def DoesM (K : PySem.W.Frag) (f : MOp) (r : V → List V → Hp → VK → Prop) : Prop := ∀ (H F : Hp) (l : Addr) (vs ws : List V) (xs ds : List D) (P : D → List D → Prop) (Q : VK), H l = some (.lst vs) → DpAll K F vs xs → DpAll K F ws ds → f xs ds P →
  (∀ d ys v us, P d ys → DpAll K F us ys → Dp K F v d → Q v (upd H l (.lst us))) → r (.ref l) ws H Q
def xMt (f : MOp) (i : Nat) (m : DM) : XM := fun τ n Q => ∃ xs, τ[i]? = some (some (.ow xs)) ∧ m τ n fun ds n1 => f xs ds fun d ys => Q d (τ.set i (some (.ow ys))) n1
theorem own_tyV {A : Act} {H F : Hp} {xs : List D} {v : V} (h : SlOk A H F (.ow xs) v) : tyV K "list" v H := by
  obtain ⟨a, vs, rfl, _, _, h1, _⟩ := h
  exact .inl ⟨rfl, vs, .inl (.inl h1)⟩
theorem x_mt {o : Expr} {es : List Expr} {i : Nat} {name : Str} {id : String} {r : V → List V → Hp → VK → Prop} {f : MOp} {m : DM} (slot : Slot "list" name id) (hty : typeOf (.builtin id) = pure (.type "method_descriptor")) (hm : MtR X id r) (hf : DoesM X.K f r) (ho : PE X o (tVar i)) (ha : D2 X (a :: es) m)
    (hbase : attributeBase o name X.env (eval o X.env) = eval o X.env := by rfl)
    (hfew : ((backTo cpos (starEach (a :: es) X.env)).all (fun x => !x.1) && (backToKw cpos (keywordEach [] X.env)).all (fun x => x.1.isSome)
      && decide ((a :: es).length + ([] : List Keyword).length + (if ([] : List Keyword).isEmpty then 0 else 1) < 30)) = true := by rfl)
    (hline : (apos.endLine == cpos.line) = true := by rfl) (hs : starEach (a :: es) X.env = (false, eval a X.env) :: starEach es X.env := by rfl) (hplain : (backTo cpos (starEach es X.env)).any (·.1) = false := by rfl) :
    X2 X (.Call (.Attribute o name apos) (a :: es) [] cpos) (xMt f i m) := by
  refine ⟨pe_weak (pe_bm PySem.F.plainAttrs_list slot hty hm ho ha.pa hbase hfew hline hs hplain) fun σ H Q ⟨A, τ, n, F, P, eK, R, ⟨xs, e, hmm⟩, hq⟩ => ?_⟩
  obtain ⟨v, h1, h2⟩ := R.sl i _ e
  refine ⟨v, h1, own_tyV h2, A, τ, n, F, _, eK, R, hmm, fun ds n1 ws H1 F1 p1 a1 r1 => ?_⟩
  have R1 := R.step a1
  obtain ⟨v', h1', l, vs, rfl, g1, g2, g3, g4⟩ := R1.sl i _ e
  rw [h1] at h1'
  cases h1'
  rw [eK] at g4
  refine hf H1 F1 l vs ws xs ds _ _ g3 g4 r1 p1 fun d ys v us p2 r2 r3 => ?_
  exact hq d _ n1 v _ F1 p2 (R1.upd e h1 (eK ▸ r2)) (a1.fro R.same) r3
def oApp : MOp := fun xs ds P => ∃ d, ds = [d] ∧ xs.length < sizeLine ∧ P .none (xs ++ [d])
theorem does_app : DoesM K oApp rAppend := by
  rintro H F l vs ws xs ds P Q hl h1 h2 ⟨d, rfl, hz, p⟩ hq
  cases h2 with
  | cons h2 h3 =>
    cases h3
    exact ⟨l, vs, _, rfl, rfl, hl, by rw [dpAll_len h1]; exact hz, hq _ _ _ _ p (dpAll_append h1 (.cons h2 .nil)) .non⟩
def oIns : MOp := fun xs ds P => ∃ i d, ds = [.int i, d] ∧ xs.length < sizeLine ∧ (0 ≤ i ∧ i < 2 ^ 63) ∧ P .none (xs.take i.toNat ++ [d] ++ xs.drop i.toNat)
abbrev rInsert : V → List V → Hp → VK → Prop := fun x vs H Q => ∃ (l : Addr) (xs : List V) (i : Int) (y : V), x = .ref l ∧ vs = [.int i, y] ∧ H l = some (.lst xs) ∧ xs.length < sizeLine ∧ 0 ≤ i ∧ i < 2 ^ 63 ∧
    Q .non (upd H l (.lst (xs.take i.toNat ++ [y] ++ xs.drop i.toNat)))
theorem does_ins : DoesM K oIns rInsert := by
  rintro H F l vs ws xs ds P Q hl h1 h2 ⟨i, d, rfl, hz, ⟨i1, i2⟩, p⟩ hq
  cases h2 with
  | cons h2 h3 =>
    cases h2
    cases h3 with
    | cons h3 h4 =>
      cases h4
      exact ⟨l, vs, i, _, rfl, rfl, hl, by rw [dpAll_len h1]; exact hz, i1, i2, hq _ _ _ _ p (dpAll_append (dpAll_append (dpAll_take _ h1) (.cons h3 .nil)) (dpAll_drop _ h1)) .non⟩
/-- xs[i] = e, xs owned at slot j -/
def sSetIx (j : Nat) (mi me : EM) : SM := fun E τ n => ∃ xs, τ[j]? = some (some (.ow xs)) ∧ me τ n fun d n1 => mi τ n1 fun y n2 => ∃ i k, y = .int i ∧ ixN xs.length i = some k ∧ E.nx (τ.set j (some (.ow (xs.set k d)))) n2
theorem p_setIx {o : Expr} {j : Nat} (ho : PE X o (tVar j)) (hi : E2 X .bw b mb) (h : E2 X .fz e me)
    (ha : ∀ v, assign (.Subscript o b tpos) X.env v = (do
      let ov ← holding [v] (eval o X.env)
      let iv ← holding [v, ov] (eval b X.env)
      standAt tpos
      holding [v, ov, iv] (setItem ov iv v)
      release [v, ov, iv] []) := by intro _; rfl)
    (hs : swapsWithSole [.Subscript o b tpos] e pos.line X.env = pure false := by rfl) (hw : swappedStores [.Subscript o b tpos] e X.env = pure none := by rfl)
    (h1 : (assignEach [.Subscript o b tpos] X.env).map (·.2) = [assign (.Subscript o b tpos) X.env] := by rfl) : P2 X kr (.Assign [.Subscript o b tpos] e pos) (sSetIx j mb me) := by
  refine ⟨fun Wx tk => ps_weak (ps_asg h.pe (pg_sub ho hi.pe set_list ha) hs hw h1) fun Dd σ H ⟨A, τ, n, F, E, eK, R, ⟨xs, e0, p⟩, e⟩ => tE_run eK R p fun d n1 v H1 F1 p1 a1 r1 => ?_⟩
  have R1 := R.step a1
  obtain ⟨w, g1, g2⟩ := R.sl j _ e0
  refine ⟨w, g1, tE_run eK R1 p1 ?_⟩
  rintro y n2 vy H2 F2 ⟨i, k, rfl, hk, p2⟩ a2 r2
  have R2 := R1.step a2
  obtain ⟨w', g1', l, vs, rfl, k1, k2, k3, k4⟩ := R2.sl j _ e0
  rw [g1] at g1'
  cases g1'
  rw [← dpAll_len k4] at hk
  refine ⟨l, vs, i, k, rfl, bw_int r2, k3, hk, e.nx _ n2 _ _ F2 p2 (R2.upd e0 g1 ?_) ((a1.trans a2).fro R.same)⟩
  exact dpAll_set (dp_mono (a2.fro a1.sub) d v (eK ▸ r1)) k k4
end
end TL
set_option Elab.async false
set_option linter.all false
set_option maxRecDepth 100000
set_option maxHeartbeats 4000000
namespace TL
variable [Mode]
open PySem PySem.Spec PyProof.Rows L2
section
variable {X : Cx} {K : PySem.W.Frag} {tg iter : Expr} {a b c e : Expr} {ma mb mc me : EM} {p pos tpos apos cpos : Pos} {kr : Kd} {x : Str} {fid : String}

/-! ### built-in functions of one argument -/
abbrev RN := List V → Hp → VK → Prop
def DoesF (K : PySem.W.Frag) (k : Kd) (f : Op1) (r : RN) : Prop := ∀ (H F : Hp) (vx : V) (x : D) (P : D → Prop) (Q : VK), Same F H → RepK K .bw H H F vx x → f x P →
  (∀ d v H' F', P d → PAdv H F H' F' → RepK K k H H' F' v d → Q v H') → r [vx] H Q
theorem tCB_m1 {k : Kd} {f : Op1} {r : RN} (hf : DoesF K k f r) {σ : L2.St} {H : Hp} {Q : VK} (h : tE K k (m1 f ma) σ H Q) : tCB r (tCons (tE K .bw ma) tNil) σ H Q := by
  obtain ⟨A, τ, n, F, P, eK, R, hm, hq⟩ := h
  refine tE_run eK R hm fun x n1 v1 H1 F1 p1 a1 r1 => ?_
  refine hf H1 F1 v1 x _ _ (R.step a1).same r1 p1 fun d v H3 F3 p3 a3 r3 => ?_
  exact hq d n1 v H3 F3 p3 (a1.trans (a3.adv (R.step a1).box)) (r3.h0 fun a h => a1.none_back a h)
theorem e_f1 {k : Kd} {f : Op1} {r : RN} (hc : CallR X (.builtin fid) r) (hf : DoesF X.K k f r) (hg : Gl X x) (hm : X.mg x = none) (hv : bootBuiltins x = some (.builtin fid)) (ha : E2 X .bw a ma) (hn : x ≠ "__name__" := by decide) (hdb : (x == ("__debug__" : Str)) = false := by decide)
    (he : starEach [a] X.env = (false, eval a X.env) :: starEach [] X.env := by rfl) (hpl : (backTo pos (starEach [] X.env)).any (·.1) = false := by rfl) : E2 X k (.Call (.Name x p) [a] [] pos) (m1 f ma) :=
  ⟨pe_weak (pe_callB hc hg hm hv (pa_cons ha.pe pa_nil he) hn hdb he hpl) fun _ _ _ h => tCB_m1 hf h⟩
theorem e_t1 {k : Kd} {T : String} {f : Op1} {r : RN} (hc : CallR X (.type T) r) (hf : DoesF X.K k f r) (hg : Gl X x) (hm : X.mg x = none) (hv : bootBuiltins x = some (.type T)) (ha : E2 X .bw a ma) (hn : x ≠ "__name__" := by decide) (hdb : (x == ("__debug__" : Str)) = false := by decide)
    (he : starEach [a] X.env = (false, eval a X.env) :: starEach [] X.env := by rfl) (hpl : (backTo pos (starEach [] X.env)).any (·.1) = false := by rfl) : E2 X k (.Call (.Name x p) [a] [] pos) (m1 f ma) :=
  ⟨pe_weak (pe_callTy hc hg hm hv (pa_cons ha.pe pa_nil he) hn hdb he hpl) fun _ _ _ h => tCB_m1 hf h⟩
theorem CallR.or {f : Value} {r r' : RN} (h : CallR X f r) (h' : CallR X f r') : CallR X f fun xs H Q => r xs H Q ∨ r' xs H Q := by
  intro pins s σ H xs us Q I r q
  rcases q with q | q
  · exact h pins s σ H xs us Q I r q
  · exact h' pins s σ H xs us Q I r q
def dLen : Op1 := fun x P => (∃ z, x = .str z ∧ z.length ≤ sizeLine ∧ P (.int z.length)) ∨ dItems x fun xs => P (.int xs.length)
abbrev rLen1 (K : PySem.W.Frag) : RN := fun xs H Q => ∃ x n, xs = [x] ∧ LenV K x H n ∧ Q (.int n) H
theorem does_len : DoesF K .fz dLen (rLen1 K) := by
  rintro H F vx x P Q s rx h hq
  rcases h with ⟨z, rfl, hz, p⟩ | ⟨xs, rfl, p⟩ | ⟨xs, rfl, p⟩
  · cases bw_str rx
    exact ⟨_, _, rfl, ⟨hz, rfl⟩, hq _ _ H F p (PAdv.refl s) (.int _)⟩
  · obtain ⟨l, vs, rfl, h1, h2⟩ := bw_list s rx
    exact ⟨_, vs.length, rfl, .inl ⟨vs, h1, rfl⟩, hq _ _ H F p (PAdv.refl s) (by rw [dpAll_len h2]; exact .int _)⟩
  · obtain ⟨l, vs, rfl, h1, h2⟩ := bw_tup s rx
    exact ⟨_, vs.length, rfl, .inr ⟨vs, h1, rfl⟩, hq _ _ H F p (PAdv.refl s) (by rw [dpAll_len h2]; exact .int _)⟩
theorem e_len (hg : Gl X "len") (hm : X.mg "len" = none) (ha : E2 X .bw a ma) (he : starEach [a] X.env = (false, eval a X.env) :: starEach [] X.env := by rfl) (hpl : (backTo pos (starEach [] X.env)).any (·.1) = false := by rfl) : E2 X .fz (.Call (.Name "len" p) [a] [] pos) (m1 dLen ma) :=
  e_f1 call_len does_len hg hm PySem.boot_len ha (by decide) (by decide) he hpl
def dTuple : Op1 := fun x P => dItems x fun xs => P (.tuple xs)
abbrev rTuple1 (K : PySem.W.Frag) : RN := rTupleF K
theorem does_tuple : DoesF K .fz dTuple (rTuple1 K) := by
  rintro H F vx x P Q s rx h hq
  rcases h with ⟨xs, rfl, p⟩ | ⟨xs, rfl, p⟩
  · obtain ⟨l, vs, rfl, h1, h2⟩ := bw_list s rx
    refine ⟨l, vs, rfl, .inl ⟨h1, fun q o hp ho => ?_⟩⟩
    obtain ⟨b1, b2⟩ := new_tup s hp ho h2
    exact hq _ _ _ _ p b1 b2
  · rcases rx with rx | ⟨_, _, _, e, _⟩
    · cases rx with
      | tup hs ha => exact ⟨_, _, rfl, .inr ⟨seqT s hs.sq, hq _ _ H F p (PAdv.refl s) (.tup hs ha)⟩⟩
    · cases e
theorem e_tuple (hg : Gl X "tuple") (hm : X.mg "tuple" = none) (ha : E2 X .bw a ma) (he : starEach [a] X.env = (false, eval a X.env) :: starEach [] X.env := by rfl) (hpl : (backTo pos (starEach [] X.env)).any (·.1) = false := by rfl) : E2 X .fz (.Call (.Name "tuple" p) [a] [] pos) (m1 dTuple ma) :=
  e_t1 call_tupleF does_tuple hg hm PyProof.Rows.boot_tuple ha (by decide) (by decide) he hpl
def dList : Op1 := fun x P => dItems x fun xs => P (.list xs)
abbrev rList1 (K : PySem.W.Frag) : RN := fun xs H Q => ∃ p ys, xs = [.ref p] ∧ (SqL K H p ys ∨ SqT K H p ys) ∧ ∀ l, H l = none → Q (.ref l) (upd H l (.lst ys))
theorem does_list : DoesF K .nw dList (rList1 K) := by
  rintro H F vx x P Q s rx h hq
  rcases h with ⟨xs, rfl, p⟩ | ⟨xs, rfl, p⟩
  · obtain ⟨l, vs, rfl, h1, h2⟩ := bw_list s rx
    refine ⟨l, vs, rfl, .inl h1, fun q hp => ?_⟩
    obtain ⟨b1, b2⟩ := new_nw s hp h2
    exact hq _ _ _ _ p b1 b2
  · obtain ⟨l, vs, rfl, h1, h2⟩ := bw_tup s rx
    refine ⟨l, vs, rfl, .inr h1, fun q hp => ?_⟩
    obtain ⟨b1, b2⟩ := new_nw s hp h2
    exact hq _ _ _ _ p b1 b2
theorem e_list (hg : Gl X "list") (hm : X.mg "list" = none) (ha : E2 X .bw a ma) (he : starEach [a] X.env = (false, eval a X.env) :: starEach [] X.env := by rfl) (hpl : (backTo pos (starEach [] X.env)).any (·.1) = false := by rfl) : E2 X .nw (.Call (.Name "list" p) [a] [] pos) (m1 dList ma) :=
  e_t1 call_list_of does_list hg hm PyProof.Rows.boot_list ha (by decide) (by decide) he hpl
/-- list(range(n)), tuple(range(n)) -/
def dRg (k : List D → D) : Op1 := fun x P => ∃ n, x = .int n ∧ (-(2 ^ 62) ≤ n ∧ n ≤ 2 ^ 24) ∧ P (k (rangeD 0 n.toNat))
theorem rgV_dp {F : Hp} (n : Int) : DpAll K F (rgV 0 n) (rangeD 0 n.toNat) := by
  unfold rgV rangeD
  rw [show n - 0 = n by omega]
  induction (List.range n.toNat) with
  | nil => exact .nil
  | cons i r ih => exact .cons (.int _) ih
theorem rgOk_of {n : Int} (h : -(2 ^ 62) ≤ n ∧ n ≤ 2 ^ 24) : RgOk 0 n := ⟨by omega, by omega, by omega, by omega, by omega⟩
theorem e_listRg {q qos : Pos} (hc : X.calm = true) (hg : Gl X "list") (hm : X.mg "list" = none) (hg' : Gl X "range") (hm' : X.mg "range" = none) (ha : E2 X .bw a ma) (na : starEach [a] X.env = (false, eval a X.env) :: starEach [] X.env := by rfl)
    (nb : starEach [.Call (.Name "range" q) [a] [] qos] X.env = (false, eval (.Call (.Name "range" q) [a] [] qos) X.env) :: starEach [] X.env := by rfl) : E2 X .nw (.Call (.Name "list" p) [.Call (.Name "range" q) [a] [] qos] [] pos) (m1 (dRg .list) ma) := by
  refine ⟨pe_weak (pe_listRg hc hg hm (prg_1 hg' hm' ha.pe na) nb) fun σ H Q ⟨A, τ, n, F, P, eK, R, hm, hq⟩ => tE_run eK R hm ?_⟩
  rintro d n1 v1 H1 F1 ⟨m, rfl, hb, p⟩ a1 r1
  refine ⟨m, bw_int r1, rgOk_of hb, fun q hp => ?_⟩
  obtain ⟨b1, b2⟩ := new_nw a1.sub hp (rgV_dp (K := X.K) (F := F1) m)
  exact hq _ n1 _ _ _ p (a1.trans (b1.adv (R.step a1).box)) (b2.h0 fun c h => a1.none_back c h)
/-- of a list of ints, of truths -/
theorem dpAll_ints {F : Hp} : ∀ {ns : List Int} {vs : List V}, DpAll K F vs (ns.map .int) → vs = ns.map V.int
  | [], _, h => by cases h; rfl
  | n :: ns, _, h => by
    cases h with
    | cons h1 h2 => cases h1; rw [dpAll_ints h2]; rfl
theorem ints_dpAll {F : Hp} : ∀ (ns : List Int), DpAll K F (ns.map V.int) (ns.map .int)
  | [] => .nil
  | n :: ns => .cons (.int n) (ints_dpAll ns)
theorem dpAll_bls {F : Hp} : ∀ {ns : List Bool} {vs : List V}, DpAll K F vs (ns.map .bool) → vs = ns.map V.bl
  | [], _, h => by cases h; rfl
  | n :: ns, _, h => by
    cases h with
    | cons h1 h2 => cases h1; rw [dpAll_bls h2]; rfl
def dSum : Op1 := fun x P => ∃ ns : List Int, x = .list (ns.map .int) ∧ P (.int ns.sum)
theorem does_sum : DoesF K .fz dSum (rSum K) := by
  rintro H F vx x P Q s rx ⟨ns, rfl, p⟩ hq
  obtain ⟨l, vs, rfl, h1, h2⟩ := bw_list s rx
  rw [dpAll_ints h2] at h1
  exact ⟨l, ns, rfl, h1, hq _ _ H F p (PAdv.refl s) (.int _)⟩
def dAll : Op1 := fun x P => ∃ bs : List Bool, x = .list (bs.map .bool) ∧ P (.bool (bs.all id))
theorem does_all : DoesF K .fz dAll (rAll K) := by
  rintro H F vx x P Q s rx ⟨ns, rfl, p⟩ hq
  obtain ⟨l, vs, rfl, h1, h2⟩ := bw_list s rx
  rw [dpAll_bls h2] at h1
  exact ⟨l, ns, rfl, h1, hq _ _ H F p (PAdv.refl s) (.bl _)⟩
def dSortI : Op1 := fun x P => ∃ ns : List Int, x = .list (ns.map .int) ∧ ∀ ns' : List Int, ns'.Perm ns → ns'.Pairwise (· ≤ ·) → P (.list (ns'.map .int))
theorem does_sortI : DoesF K .nw dSortI (rSortedI K) := by
  rintro H F vx x P Q s rx ⟨ns, rfl, p⟩ hq
  obtain ⟨l, vs, rfl, h1, h2⟩ := bw_list s rx
  rw [dpAll_ints h2] at h1
  refine ⟨l, ns, rfl, h1, fun ns' q g1 g2 hp => ?_⟩
  obtain ⟨b1, b2⟩ := new_nw s hp (ints_dpAll (K := K) (F := F) ns')
  exact hq _ _ _ _ (p ns' g1 g2) b1 b2
section
variable (hc : X.calm = true) (ha : E2 X .bw a ma)
include hc ha
theorem e_all (hg : Gl X "all") (hm : X.mg "all" = none) (he : starEach [a] X.env = (false, eval a X.env) :: starEach [] X.env := by rfl) (hpl : (backTo pos (starEach [] X.env)).any (·.1) = false := by rfl) : E2 X .fz (.Call (.Name "all" p) [a] [] pos) (m1 dAll ma) :=
  e_f1 (cr_all hc) does_all hg hm PyProof.Rows.boot_all ha (by decide) (by decide) he hpl
end
def dAbs : Op1 := fun x P => ∃ i, x = .int i ∧ P (.int (if i < 0 then -i else i))
theorem e_abs (hg : Gl X "abs") (hm : X.mg "abs" = none) (ha : E2 X .bw a ma) (he : starEach [a] X.env = (false, eval a X.env) :: starEach [] X.env := by rfl) (hpl : (backTo pos (starEach [] X.env)).any (·.1) = false := by rfl) : E2 X .fz (.Call (.Name "abs" p) [a] [] pos) (m1 dAbs ma) := by
  refine e_f1 call_abs ?_ hg hm PyProof.Rows.boot_abs ha (by decide) (by decide) he hpl
  rintro H F vx x P Q s rx ⟨i, rfl, p⟩ hq
  exact ⟨i, by rw [bw_int rx], hq _ _ H F p (PAdv.refl s) (.int _)⟩
def dInt : Op1 := fun x P => (∃ i, x = .int i ∧ P (.int i)) ∨ ∃ k, x = .bool k ∧ P (.int (if k then 1 else 0))
theorem e_int1 (hg : Gl X "int") (hm : X.mg "int" = none) (ha : E2 X .bw a ma) (he : starEach [a] X.env = (false, eval a X.env) :: starEach [] X.env := by rfl) (hpl : (backTo pos (starEach [] X.env)).any (·.1) = false := by rfl) : E2 X .fz (.Call (.Name "int" p) [a] [] pos) (m1 dInt ma) := by
  refine e_t1 call_int1 ?_ hg hm PyProof.Rows.boot_int ha (by decide) (by decide) he hpl
  rintro H F vx x P Q s rx (⟨i, rfl, p⟩ | ⟨i, rfl, p⟩) hq
  · exact .inl ⟨i, by rw [bw_int rx], hq _ _ H F p (PAdv.refl s) (.int _)⟩
  · exact .inr ⟨i, by rw [bw_bool rx], hq _ _ H F p (PAdv.refl s) (.int _)⟩

/-! ### of two arguments -/
theorem e_f2 {f : Op2} {r : RN} (hc : CallR X (.builtin fid) r) (hf : ∀ (H F : Hp) (vx vy : V) (x y : D) (P : D → Prop) (Q : VK), Same F H → RepK X.K .bw H H F vx x → RepK X.K .bw H H F vy y → f x y P →
    (∀ d v, P d → (∀ F, Dp X.K F v d) → Q v H) → r [vx, vy] H Q) (hg : Gl X x) (hm : X.mg x = none) (hv : bootBuiltins x = some (.builtin fid)) (ha : E2 X .bw a ma) (hb : E2 X .bw b mb) (hn : x ≠ "__name__" := by decide) (hdb : (x == ("__debug__" : Str)) = false := by decide)
    (he : starEach [a, b] X.env = (false, eval a X.env) :: starEach [b] X.env := by rfl) (he2 : starEach [b] X.env = (false, eval b X.env) :: starEach [] X.env := by rfl) (hpl : (backTo pos (starEach [b] X.env)).any (·.1) = false := by rfl) : E2 X .fz (.Call (.Name x p) [a, b] [] pos) (m2 f ma mb) := by
  refine ⟨pe_weak (pe_callB hc hg hm hv (pa_cons ha.pe (pa_cons hb.pe pa_nil he2) he) hn hdb he hpl) fun σ H Q ⟨A, τ, n, F, P, eK, R, hm, hq⟩ => tE_run eK R hm fun x n1 v1 H1 F1 p1 a1 r1 => tE_run eK (R.step a1) p1 fun y n2 v2 H2 F2 p2 a2 r2 => ?_⟩
  have a12 := a1.trans a2
  refine hf H2 F2 v1 v2 x y _ _ (R.step a12).same (bw_adv (H0 := H2) r1 a2 (R.step a1).same (R.step a1).box) r2 p2 fun d v p3 r3 => ?_
  exact hq d n2 v H2 F2 p3 a12 (r3 F2)
def dMax2 : Op2 := fun x y P => ∃ i j, x = .int i ∧ y = .int j ∧ P (.int (if j > i then j else i))
section
variable (hc : X.calm = true) (ha : E2 X .bw a ma) (hb : E2 X .bw b mb)
include hc ha hb
theorem e_max2 (hg : Gl X "max") (hm : X.mg "max" = none) (he : starEach [a, b] X.env = (false, eval a X.env) :: starEach [b] X.env := by rfl) (he2 : starEach [b] X.env = (false, eval b X.env) :: starEach [] X.env := by rfl) (hpl : (backTo pos (starEach [b] X.env)).any (·.1) = false := by rfl) :
    E2 X .fz (.Call (.Name "max" p) [a, b] [] pos) (m2 dMax2 ma mb) :=
  e_f2 (call_max2 hc) (fun H F vx vy x y P Q s rx ry ⟨i, j, e1, e2, p⟩ hq => by subst e1 e2; exact ⟨i, j, by rw [bw_int rx, bw_int ry], hq _ _ p fun _ => .int _⟩) hg hm PyProof.Rows.boot_max ha hb (by decide) (by decide) he he2 hpl
end

/-! ### lists, tuples together -/
def rCatS (K : PySem.W.Frag) : R2 := fun x y H Q => ∃ l b xs zs, x = .ref l ∧ y = .ref b ∧ SqL K H l xs ∧ SqL K H b zs ∧ xs.length + zs.length ≤ sizeLine ∧ ∀ p, H p = none → Q (.ref p) (upd H p (.lst (xs ++ zs)))
theorem list_add_gen (l : Addr) (items : Array Value) (n : Nat) (sl : Array (Option Value)) (b : Addr) (items2 : Array Value) (n2 : Nat) (sl2 : Array (Option Value)) (hc0 : items.size + items2.size ≤ sizeLine) :
    Meets (Builtin.«list.__add__» ⟨[.ref l, .ref b], []⟩) (fun _ R s => s.heap.get? l = some { cls := .type "list", dict := none, data := .seq items n, slots := sl } ∧ s.heap.get? b = some { cls := .type "list", dict := none, data := .seq items2 n2, slots := sl2 } ∧
      R (.ok (.ret (Value.ref s.heap.objs.size))) { s with heap := s.heap.push { cls := Value.type "list", data := Data.seq (items ++ items2) }, toks := s.toks }) :=
  .of_wp fun prog w A R s h => by
    obtain ⟨hp, g, d, tk, os⟩ := s; obtain ⟨hl, hb, h⟩ := h
    have f1 := AutoSeq1.idx_int; have f2 := AutoSeq1.sub_tuple_tuple; have f3 := AutoSeq1.sub_list_list; have f4 := AutoSeq1.sub_tuple_list; have f5 := AutoSeq1.sub_list_tuple
    wp_walk using AutoSeq1.wpAny_loadPart' hl, AutoSeq1.wpAny_loadPart' hb
    exact ⟨_, rfl, h⟩
theorem op_catS : OpR X (binaryOp .Add) (rCatS X.K) := by
  intro pins s σ H x y v u Q I rx ry h
  obtain ⟨l, b, xs, zs, rfl, rfl, hH, hB, hz, q⟩ := h
  cases rx
  cases ry
  obtain ⟨its, r, ⟨⟨c1, d1, t1, s1⟩, n, e, hc1, hd1, ht1⟩, _⟩ := I.list hH
  obtain ⟨its2, r2, ⟨⟨c2, d2, t2, s2⟩, n2, e2, hc2, hd2, ht2⟩, _⟩ := I.list hB
  simp only at hc1 hd1 ht1 hc2 hd2 ht2
  subst hc1 hd1 ht1 hc2 hd2 ht2
  have hl := r.length
  have hl2 := r2.length
  have ea : its.toArray ++ its2.toArray = (its ++ its2).toArray := by simp
  refine concat_meets ⟨_, e, rfl⟩ ⟨_, e2, rfl⟩ noFill_list_add seq_list_add F.slot_list_add F.entry_list_add (F.args_list_add_2 _ _) (list_add_gen l its.toArray n s1 b its2.toArray n2 s2 (by rw [List.size_toArray, List.size_toArray]; omega)) ⟨e, e2, ?_⟩
  rw [ea]
  exact ⟨.ref _, _, I.lnew (t' := s.toks) (r.append r2) (by rw [List.length_append]; omega), rfl, q _ I.fresh⟩
def dCatT : Op2 := fun x y P => ∃ xs ys, x = .tuple xs ∧ y = .tuple ys ∧ xs.length + ys.length ≤ sizeLine ∧ P (.tuple (xs ++ ys))
theorem does_catT : Does2 K .fz dCatT (rCatF K) := by
  rintro H F vx vy x y P Q s rx ry ⟨xs, ys, rfl, rfl, hz, p⟩ hq
  have rx' := rx
  have ry' := ry
  obtain ⟨l, vs, rfl, h1, h2⟩ := bw_tup s rx
  obtain ⟨l', vs', rfl, h3, h4⟩ := bw_tup s ry
  have z1 := dpAll_len h2
  have z2 := dpAll_len h4
  refine ⟨l, l', vs, vs', rfl, rfl, h1, h3, by rw [z1, z2]; exact hz, fun e => ?_, fun e e' => ?_, fun e e' q o hp ho => ?_⟩
  · subst e
    cases h2
    refine hq _ _ H F p (PAdv.refl s) ?_
    rcases ry' with z | ⟨_, _, _, e, _⟩
    · exact z
    · cases e
  · subst e'
    cases h4
    rw [List.append_nil] at p
    refine hq _ _ H F p (PAdv.refl s) ?_
    rcases rx' with z | ⟨_, _, _, e, _⟩
    · exact z
    · cases e
  · obtain ⟨b1, b2⟩ := new_tup s hp ho (dpAll_append h2 h4)
    exact hq _ _ _ _ p b1 b2
theorem e_catT (ha : E2 X .bw a ma) (hb : E2 X .bw b mb) : E2 X .fz (.BinOp a .Add b pos) (m2 dCatT ma mb) := e_bin op_catF does_catT ha hb
/-! ### in, not in -/
def dMem (neg : Bool) : Op2 := fun x y P => ∃ ds, y = .list ds ∧ (SeqAt.shaped x = true ∧ SeqAt.shaped (.list ds) = true) ∧ P (.bool (if neg then !ds.any fun z => PyData.eqv z x else ds.any fun z => PyData.eqv z x))
theorem does_in : Does2 K .fz (dMem false) (rInD K) := by
  rintro H F vx vy x y P Q s rx ry ⟨ds, rfl, ⟨h1, h2⟩, p⟩ hq
  exact ⟨x, ds, bw_l2 s (lay0_shaped h1) rx, bw_l2 s (lay0_shaped h2) ry, h1, h2, hq _ _ H F p (PAdv.refl s) (.bl _)⟩
theorem does_nin : Does2 K .fz (dMem true) (rNotInD K) := by
  rintro H F vx vy x y P Q s rx ry ⟨ds, rfl, ⟨h1, h2⟩, p⟩ hq
  exact ⟨x, ds, bw_l2 s (lay0_shaped h1) rx, bw_l2 s (lay0_shaped h2) ry, h1, h2, hq _ _ H F p (PAdv.refl s) (.bl _)⟩
theorem Room.units65 {k : Nat} {A : Around} (r : Room k A) : A.units + 65 < cLine := by have := r.un; omega
theorem e_in {k : Nat} (hr : Room k X.A) (ha : E2 X .bw a ma) (hb : E2 X .bw b mb) (hm : behindInMarks .In b = false := by rfl) : E2 X .fz (.Compare a [.In] [b] pos) (m2 (dMem false) ma mb) := e_cmp (op_inD (TL.Room.units65 hr)) does_in ha hb hm
theorem e_nin {k : Nat} (hr : Room k X.A) (ha : E2 X .bw a ma) (hb : E2 X .bw b mb) (hm : behindInMarks .NotIn b = false := by rfl) : E2 X .fz (.Compare a [.NotIn] [b] pos) (m2 (dMem true) ma mb) := e_cmp (op_notInD (TL.Room.units65 hr)) does_nin ha hb hm
/-! ### isinstance -/
def tyD : D → String
  | .none => "NoneType"
  | .bool _ => "bool"
  | .int _ => "int"
  | .str _ => "str"
  | .list _ => "list"
  | .tuple _ => "tuple"
  | .dict [(.dict [], .dict []), _] => "tuple"
  | .dict _ => "dict"
def isIn (t c : String) : Bool := t == c || (t == "bool" && c == "int")
/-- all but dicts whose kind is not told -/
def okT : D → Bool
  | .dict [(.none, _)] => false
  | .dict [(.bool true, _), _] => false
  | .dict [(.bool false, _), _] => false
  | _ => true
theorem tyD_x {H0 H F : Hp} {v : V} {d : D} (s : Same F H) (r : RepK K .bw H0 H F v d) (hd : okT d = true) : TyX K H v (.type (tyD d)) := by
  have sq : ∀ {a : Addr} {vs : List V}, SqL K H a vs → TyX K H (.ref a) (.type "list") := fun {a vs} h => by
    rcases h with (h | ⟨o, h⟩) | ⟨o, _, _, h1, h2, _⟩
    · exact .base (.lst h)
    · exact .base (.frz h)
    · exact .kList h1 h2
  have st : ∀ {a : Addr} {vs : List V}, SqT K H a vs → TyX K H (.ref a) (.type "tuple") := fun {a vs} h => by
    rcases h with (h | ⟨o, h⟩) | ⟨o, _, _, h1, h2, _⟩
    · exact .base (.tup h)
    · exact .fTuple h
    · exact .kTuple h1 h2
  rcases r with r | ⟨a, vs, xs, rfl, rfl, h1, h2⟩
  · cases r with
    | non => exact .base .non
    | bl b => exact .base (.bl b)
    | int b => exact .base (.int b)
    | str b => exact .base (.str b)
    | lst hs ha => exact sq (s.seq hs)
    | tup hs ha => exact st (seqT s hs.sq)
    | raw hs a b => exact st (seqT s hs)
    | pdc hp => cases hd
    | exc h1 h2 h3 => cases hd
    | dki h1 h2 h3 h4 => cases hd
    | dti h1 h2 h3 h4 => cases hd
    | ins h1 h2 h3 h4 => cases hd
    | hnd e => cases hd
  · exact sq (.inl (.inl h1))
/-- c: a built-in class as a value -/
structure Kc (c : String) : Prop where
  is : ∀ t ∈ ["NoneType", "bool", "int", "str", "list", "tuple", "dict"], kitB t c = some (isIn t c)
theorem tyD_mem (d : D) : tyD d ∈ ["NoneType", "bool", "int", "str", "list", "tuple", "dict"] := by unfold tyD; split <;> simp
theorem kc_int : Kc "int" := ⟨by decide +kernel⟩
theorem kc_bool : Kc "bool" := ⟨by decide +kernel⟩
theorem kc_list : Kc "list" := ⟨by decide +kernel⟩
theorem kc_tuple : Kc "tuple" := ⟨by decide +kernel⟩
def dIs (c : String) : Op1 := fun x P => okT x = true ∧ P (.bool (isIn (tyD x) c))
theorem e_isi {c : String} (k : Kc c) (hg : Gl X "isinstance") (hm : X.mg "isinstance" = none) (ha : E2 X .bw a ma) (hb : PE X b (tC (.ty c))) (he : starEach [a, b] X.env = (false, eval a X.env) :: starEach [b] X.env := by rfl) (he2 : starEach [b] X.env = (false, eval b X.env) :: starEach [] X.env := by rfl)
    (hpl : (backTo pos (starEach [b] X.env)).any (·.1) = false := by rfl) : E2 X .fz (.Call (.Name "isinstance" p) [a, b] [] pos) (m1 (dIs c) ma) := by
  refine ⟨pe_weak (pe_callB call_isi hg hm PyProof.Rows.boot_isinstance (pa_cons ha.pe (pa_cons hb pa_nil he2) he) (by decide) (by decide) he hpl) fun σ H Q ⟨A, τ, n, F, P, eK, R, hm, hq⟩ => tE_run eK R hm fun d n1 v1 H1 F1 p1 a1 r1 => ?_⟩
  exact ⟨v1, .ty c, _, _, _, rfl, .ty c, tyD_x a1.sub r1 p1.1, kit_ty (k.is _ (tyD_mem d)), hq _ n1 _ H1 F1 p1.2 a1 (.bl _)⟩
end
end TL
set_option Elab.async false
set_option linter.all false
set_option maxRecDepth 100000
set_option maxHeartbeats 4000000
namespace TL
variable [Mode]
open PySem PySem.Spec PyProof.Rows L2
section
variable {X : Cx} {K : PySem.W.Frag} {tg iter : Expr} {a b c e : Expr} {ma mb mc me : EM} {p pos tpos apos cpos : Pos} {kr : Kd} {x : Str} {fid : String}
/-! ### calls by names -/
def perm {α : Type} (is : List Nat) (xs : List α) : List α := is.filterMap fun i => xs[i]?
theorem perm_rel {α β : Type} {R : α → β → Prop} {xs : List α} {ys : List β} (h : Paired R xs ys) : ∀ is : List Nat, Paired R (perm is xs) (perm is ys)
  | [] => .nil
  | i :: is => by
    have ih := perm_rel h is
    have key : ∀ (xs : List α) (ys : List β), Paired R xs ys → ∀ i : Nat, (xs[i]? = none ∧ ys[i]? = none) ∨ ∃ x y, xs[i]? = some x ∧ ys[i]? = some y ∧ R x y := by
      intro xs
      induction xs with
      | nil => intro ys h i; cases h; exact .inl (by simp)
      | cons x r ih2 =>
        intro ys h i
        cases h with
        | cons h1 h2 =>
          cases i with
          | zero => exact .inr ⟨_, _, rfl, rfl, h1⟩
          | succ i => simpa using ih2 _ h2 i
    unfold perm at ih ⊢
    rcases key xs ys h i with ⟨e1, e2⟩ | ⟨x, y, e1, e2, r⟩
    · rw [List.filterMap_cons, List.filterMap_cons, e1, e2]; exact ih
    · rw [List.filterMap_cons, List.filterMap_cons, e1, e2]; exact .cons r ih
theorem paired_append {α β : Type} {R : α → β → Prop} {xs : List α} {ys : List β} {xs' : List α} {ys' : List β} (h : Paired R xs ys) (h' : Paired R xs' ys') : Paired R (xs ++ xs') (ys ++ ys') := by
  induction h with
  | nil => exact h'
  | cons a b ih => exact .cons a ih
theorem kbn {name qual : Str} {params : Arguments} {body : List Stmt} {scope : Scope} {f : Addr} {fd : FuncData} {ps : List Str} (F : FunD K name qual params body scope [] [] f fd) (n : Nat) (ks : List Str) (is : List Nat)
    (h : ∀ (kV doc pm : Value) (an : Option Addr) (cdv ct : Value) (us ws : List Value), us.length = n → ws.length = ks.length → bindArgs (PySem.W.fnOf name qual params body scope .none kV doc pm an cdv ct) ⟨us, ks.zip ws⟩ = pure (ps.zip (perm is (us ++ ws)))) :
    KBn K fd ps n ks (fun us ws => perm is (us ++ ws)) (fun vs zs => perm is (vs ++ zs)) := by
  obtain ⟨oc, od, dV, kV, doc, pm, an, cdv, ct, osl, rfl, lk, hcd, hD, hK⟩ := F.ex
  rcases hD with ⟨_, rfl⟩ | ⟨e, _⟩
  · exact ⟨fun s us ws _ l1 l2 => .of_eq (h kV doc pm an cdv ct us ws l1 l2), fun r1 r2 => perm_rel (paired_append r1 r2) is⟩
  · exact absurd rfl e
theorem pe_callN0 {CX : CXT} {k : Nat} {f : Addr} {fd : FuncData} {ps ks : List Str} {sp : Sp} {E : XK} {kws : List Keyword} {tk : TA} {g : List Value → List Value → List Value} {gV : List V → List V → List V} (F : FnOk X.prog X.w X.K X.mg X.base CX k f fd ps sp) (hr : Room k X.A) (hg : Gl X x) (hm : X.mg x = some (.ref f)) (hk : PySem.W.keepIn X.K (.ref f) = true)
    (hb : KBn X.K fd ps 0 ks g gV) (hx : Passes CX X E) (hkw : PK X kws tk) (hall : (backToKw pos (keywordEach kws X.env)).all (·.1.isSome) = true := by rfl) (hks : (backToKw pos (keywordEach kws X.env)).filterMap (·.1) = ks := by rfl) (hdb : (x == ("__debug__" : Str)) = false := by decide)
    (hpl : ((backTo pos (starEach [] X.env)).any (·.1) || (backToKw pos (keywordEach kws X.env)).any (·.1.isNone)) = false := by rfl) :
    PE X (.Call (.Name x p) [] kws pos) (tCallN 0 ks.length sp gV E tNil tk) := by
  refine ⟨fun pins s σ H Q I h => ?_⟩
  refine wpAny_Call_Name_kw (ld_glob I hg hm ?_ hdb)
  refine PySem.W.callWith_KW0 (h₀ := X.base) I.ok.mod.kin hk hall ?_ hpl
  refine thn (hkw.run pos pins s σ H _ I h) fun ws s2 ⟨zs, H2, I2, rz, l1, l2, q2⟩ => ⟨I2.kIn, ?_⟩
  rw [hks]
  exact run_fnN (us := []) (vs := []) F hr hb hx I2 .nil rz rfl l2 q2
/-- the keywords' values -/
structure K2 (X : Cx) (kws : List Keyword) (m : AM) : Prop where
  pk : PK X kws (tA X.K m)
theorem pk_weak {kws : List Keyword} {t t' : TA} (h : PK X kws t) (w : ∀ σ H Q, t' σ H Q → t σ H Q) : PK X kws t' := ⟨fun pos pins s σ H Q I q => h.run pos pins s σ H Q I (w σ H Q q)⟩
theorem k_nil : K2 X [] kNil := ⟨pk_weak pk_nil fun σ H Q ⟨A, τ, n, F, P, eK, R, p, hq⟩ => hq [] n [] H F p (Adv.refl R.same R.box) .nil⟩
theorem k_cons {kws : List Keyword} {m : AM} {nm : Option Str} {kp : Pos} (ha : E2 X .fz a ma) (hr : K2 X kws m) : K2 X (⟨nm, a, kp⟩ :: kws) (kCons ma m) := by
  refine ⟨pk_weak (pk_cons ha.pe hr.pk) fun σ H Q ⟨A, τ, n, F, P, eK, R, hm, hq⟩ => tE_run eK R hm fun d n1 v H1 F1 p1 a1 r1 => ?_⟩
  refine ⟨A, τ, n1, F1, _, eK, R.step a1, p1, fun ds n2 vs H2 F2 p2 a2 r2 => ?_⟩
  exact hq (.d d :: ds) n2 (v :: vs) H2 F2 p2 (a1.trans a2) (.cons (dp_mono (a2.fro a1.sub) d v r1) r2)
def kPerm (np nk : Nat) (is : List Nat) (m m' : AM) : AM := fun τ n Q => m τ n fun ss n1 => m' τ n1 fun zs n2 => ss.length = np ∧ zs.length = nk ∧ Q (perm is (ss ++ zs)) n2
theorem tCallN_go {kr : Kd} {np q nk : Nat} {is : List Nat} {f : FM} {m m' : AM} {σ : L2.St} {H : Hp} {Q : VK} {E : XK} (h : tE K kr (mCal np f (kPerm q nk is m m')) σ H Q) :
    tCallN q nk (Pr K kr np f) (fun vs zs => perm is (vs ++ zs)) E (tA K m) (tA K m') σ H Q := by
  obtain ⟨A, τ, n, F, P, eK, R, hm, hq⟩ := h
  refine ⟨A, τ, n, F, _, eK, R, hm, fun ss n1 vs H1 F1 p1 a1 r1 => ⟨A, τ, n1, F1, _, eK, R.step a1, p1, fun zs n2 ws H2 F2 p2 a2 r2 => ?_⟩⟩
  obtain ⟨l1, l2, p3, p4⟩ := p2
  have a12 := a1.trans a2
  have R1 := R.step a12
  have r1' : Paired (SlArg K A.bx F2) ss vs := Paired.mapP r1 fun s v z => SlArg.mono (a2.fro a1.sub) z
  refine ⟨r1.length.symm.trans l1, r2.length.symm.trans l2, F2, perm is (ss ++ zs), n2, A.bx, P, fun _ _ => False, p3, R1.same, ⟨R1.box, R1.ok.bk.trans eK⟩, perm_rel (paired_append r1' r2) is, p4, fun d n' v H' F' p' a' r' => ?_, fun _ _ _ _ _ _ z => z.elim⟩
  · exact hq d n' v H' F' p' (a12.trans a') (r'.h0 fun c h => a12.none_back c h)
/-- f(k = v, ..) -/
theorem e_callKW {k : Nat} {fa : Addr} {fd : FuncData} {ps ks : List Str} {kr : Kd} {np : Nat} {f : FM} {m : AM} {is : List Nat} {kws : List Keyword} (G : FnOk X.prog X.w X.K X.mg X.base CX0 k fa fd ps (Pr X.K kr np f)) (hr : Room k X.A) (hg : Gl X x) (hm : X.mg x = some (.ref fa)) (hk : PySem.W.keepIn X.K (.ref fa) = true)
    (hb : KBn X.K fd ps 0 ks (fun us ws => perm is (us ++ ws)) (fun vs zs => perm is (vs ++ zs))) (hkw : K2 X kws m) (hall : (backToKw pos (keywordEach kws X.env)).all (·.1.isSome) = true := by rfl) (hks : (backToKw pos (keywordEach kws X.env)).filterMap (·.1) = ks := by rfl) (hdb : (x == ("__debug__" : Str)) = false := by decide)
    (hpl : ((backTo pos (starEach [] X.env)).any (·.1) || (backToKw pos (keywordEach kws X.env)).any (·.1.isNone)) = false := by rfl) :
    E2 X kr (.Call (.Name x p) [] kws pos) (mCal np f (kPerm 0 ks.length is kNil m)) :=
  ⟨pe_weak (pe_callN0 G hr hg hm hk hb pass0 hkw.pk hall hks hdb hpl) fun σ H Q h => by
    obtain ⟨A, τ, n, F, P, eK, R, p, hq⟩ := tCallN_go (E := E0) h
    exact hq [] n [] H F p (Adv.refl R.same R.box) .nil⟩
/-! ### the box -/
theorem box_open {pins : List (Addr × Obj)} {σ : L2.St} {H : Hp} {s : Shared} {b : Addr} {n : Nat} (I : Inv X pins σ H s) (h : H b = some (.ext (boxP b n))) :
    ∃ x y z : Int, Inv X pins σ (upd H b (.lst [.int x, .int y, .int z])) s ∧ 0 ≤ x ∧ (0 ≤ y ∧ y < 2 ^ 62) ∧ 0 ≤ z ∧ z ≤ n := by
  obtain ⟨⟨x, y, z, t, u, v, c, e, h1, h2, h3, h4⟩, _, _⟩ := I.hok b _ h
  refine ⟨x, y, z, ?_, h1, h2, h3, h4⟩
  have := I.write (x := b) (e := b) (o := .lst [.int x, .int y, .int z]) (h' := s.heap) (t' := s.toks) (by rw [h]; exact True.intro) (.inl rfl) (fun _ _ _ q => q) ⟨_, e⟩ ⟨by show 3 ≤ sizeLine; decide, [.int x t, .int y u, .int z v], c, .cons ⟨t, rfl⟩ (.cons ⟨u, rfl⟩ (.cons ⟨v, rfl⟩ .nil)), e⟩
  exact this
theorem boxP_stay {b : Addr} {n : Nat} : ∀ h1 h2 : Heap, boxP b n h1 → (∀ o, h1.get? b = some o → h2.get? b = some o) → boxP b n h2 := fun h1 h2 ⟨x, y, z, t, u, v, c, e, q⟩ k => ⟨x, y, z, t, u, v, c, k _ e, q⟩
theorem box_close {pins : List (Addr × Obj)} {σ : L2.St} {H : Hp} {s : Shared} {b : Addr} {n : Nat} {x y z : Int} (I : Inv X pins σ H s) (h : H b = some (.lst [.int x, .int y, .int z])) (h1 : 0 ≤ x) (h2 : 0 ≤ y ∧ y < 2 ^ 62) (h3 : 0 ≤ z) (h4 : z ≤ n) : Inv X pins σ (upd H b (.ext (boxP b n))) s := by
  obtain ⟨_, its, c, r, e⟩ := I.hok b _ h
  obtain ⟨t, u, v, rfl⟩ : ∃ t u v, its = [.int x t, .int y u, .int z v] := by
    cases r with
    | cons r1 r =>
      cases r with
      | cons r2 r =>
        cases r with
        | cons r3 r =>
          cases r
          obtain ⟨t, rfl⟩ := r1
          obtain ⟨u, rfl⟩ := r2
          obtain ⟨v, rfl⟩ := r3
          exact ⟨t, u, v, rfl⟩
  exact I.write (x := b) (e := b) (o := .ext (boxP b n)) (h' := s.heap) (t' := s.toks) (by rw [h]; exact True.intro) (.inl rfl) (fun _ _ _ q => q) ⟨_, e⟩ ⟨⟨x, y, z, t, u, v, c, e, h1, h2, h3, h4⟩, ⟨_, e⟩, boxP_stay⟩
/-- a body over the box as a list; at its end it's the box again -/
theorem pss_box {sts : List Stmt} {t : TS} (h : PSs X sts t) : PSs X sts (fun Dd σ H => ∃ b n n', H b = some (.ext (boxP b n)) ∧ ∀ x y z : Int, 0 ≤ x → (0 ≤ y ∧ y < 2 ^ 62) → 0 ≤ z → z ≤ n →
    t { nx := fun _ _ => False, rt := fun v H' => ∃ x y z : Int, H' b = some (.lst [.int x, .int y, .int z]) ∧ 0 ≤ x ∧ (0 ≤ y ∧ y < 2 ^ 62) ∧ 0 ≤ z ∧ z ≤ (n' : Nat) ∧ Dd.rt v (upd H' b (.ext (boxP b n'))) } σ (upd H b (.lst [.int x, .int y, .int z]))) := by
  refine ⟨fun pins s σ H Dd I ⟨b, n, n', hb, q⟩ => ?_⟩
  obtain ⟨x, y, z, I1, h1, h2, h3, h4⟩ := box_open I hb
  refine thn (h.run pins s σ _ _ I1 (q x y z h1 h2 h3 h4)) fun f s1 q1 => ?_
  cases f with
  | next => obtain ⟨_, _, _, z⟩ := q1; exact z.elim
  | brk => obtain ⟨_, _, _, z⟩ := q1; exact z.elim
  | cont => obtain ⟨_, _, _, z⟩ := q1; exact z.elim
  | ret u =>
    obtain ⟨v, σ', H', I2, r, x', y', z', g1, g2, g3, g4, g5, g6⟩ := q1
    exact ⟨v, σ', _, box_close I2 g1 g2 g3 g4 g5, r, g6⟩
/-- how many draws at most -/
def cap : Nat := 2 ^ 4000
theorem cap_le : 2 ^ 62 + 39373 * (cap + 1) < 2 ^ 4020 := by decide +kernel
theorem bits_cap {i : Int} (h0 : 0 ≤ i) (h : i.toNat < 2 ^ 62 + 39373 * (cap + 1)) : Builtin.Int.intBits i ≤ 4020 := by
  refine intBits_le (Nat.lt_trans ?_ cap_le)
  omega
def fTake : FM := fun as n P _ => ∃ many : Int, as = [.box, .d (.int many)] ∧ (0 < many ∧ many < 2 ^ 62) ∧ n < cap ∧ ∀ r : Int, 0 ≤ r → r < many → P (.int r) (n + 1)
theorem log_62 {m : Int} (h0 : 0 < m) (h : m < 2 ^ 62) : m.natAbs.log2 < 9000 := by
  have h1 : m.natAbs < 2 ^ 62 := by omega
  exact Nat.lt_of_lt_of_le (PySem.Flt.log2_lt_of (by decide) h1) (by decide)
end
end TL
namespace TL
open PySem PySem.Spec PyProof.Rows L2
/-! ### the law's box alone -/
@[reducible] def boxMode : Mode where
  S := Option Addr × PySem.W.Frag
  b := Prod.fst
  K := Prod.snd
  vol s _ a := s.1 = some a
  ok s n H F := Same F H ∧ ∀ b, s.1 = some b → H b = some (.ext (boxP b n)) ∧ F b = none
  isb e := e
  sm h := h.1
  at_ h v := ⟨(h.2 _ v).2, _, (h.2 _ v).1⟩
  mono h _ s' w := ⟨s', fun b e => ⟨(w b e).1.trans (h.2 b e).1, (w b e).2.trans (h.2 b e).2⟩⟩
instance (priority := low) boxInst : Mode := boxMode
section
variable {P : Program} {w : World} {K : PySem.W.Frag} {mg : Str → Option Value} {base : Heap}
/-- _law_take -/
theorem ok_take {st : Stmt} {qual name : Str} {f : Addr} {fd : FuncData} {k : Nat} (F : FunD K name qual (defArgs st) (defBody st) (defScope st) [] [] f fd) (S : FnScope ["_law_box", "_law_many", "_law_found", "_law_once", "_law_pair"] ["_law_box", "_law_many"] (defScope st))
    (hder : ∀ (cdv : Value) (A : Around) (outer : List Env) (s : Shared) (H : Hp) (E : XK), ∃ X, X = (cxOf CX0 P w K mg base ["_law_box", "_law_many", "_law_found", "_law_once", "_law_pair"] qual (defScope st) f cdv A outer s H E).nox ∧ PSs X (defBody st)
      (tSeq (tIfS (tTest (tOp (rI0 fun i j => .bl (decide (j < i))) (tOp (rIxL K) (tVar 0) (tC (.int 0))) (tC (.int 0))))
        (tSeq (tAsg (tOp (rI (fun _ j => 0 < j) fun i j => .int (i % j)) (tOp (rIxL K) (tVar 0) (tC (.int 0))) (tVar 1)) (gName 2))
          (tSeq (tAsg (tOp (rI CDivW fun i j => .int (i / j)) (tOp (rIxL K) (tVar 0) (tC (.int 0))) (tVar 1)) (gSub (tVar 0) (tC (.int 0)) rSetL)) (tRet (tVar 2)))) tNext)
        (tSeq (tAsg (tOp (rI0 fun i j => .int (i + j)) (tOp (rIxL K) (tVar 0) (tC (.int 2))) (tC (.int 1))) (gSub (tVar 0) (tC (.int 2)) rSetL))
          (tSeq (tAsg (tOp (rI (fun _ j => 0 < j) fun i j => .int (i % j)) (tOp (rI CPowB fun i j => .int (i ^ j.toNat)) (tOp (rI0 fun i j => .int (i + j)) (tOp (rIxL K) (tVar 0) (tC (.int 1))) (tOp (rI IntMulOk fun i j => .int (i * j)) (tC (.int 39373)) (tOp (rIxL K) (tVar 0) (tC (.int 2))))) (tC (.int 5))) (tC (.int 2147483647))) (gName 3))
            (tSeq (tAsg (tOp (rI (fun _ j => 0 < j) fun i j => .int (i % j)) (tOp (rI IntMulOk fun i j => .int (i * j))
                (tOp (rI0 fun i j => .int (i + j)) (tOp (rI0 fun i j => .int (i + j)) (tVar 3) (tOp (rIxL K) (tVar 0) (tC (.int 2)))) (tOp (rI CDivW fun i j => .int (i / j)) (tOp (rIxL K) (tVar 0) (tC (.int 1))) (tC (.int 1000003))))
                (tOp (rI0 fun i j => .int (i + j)) (tOp (rI0 fun i j => .int (i + j)) (tOp (rI (fun _ j => 0 < j) fun i j => .int (i % j)) (tVar 3) (tC (.int 40009))) (tC (.int 7))) (tOp (rIxL K) (tVar 0) (tC (.int 2))))) (tC (.int 2147483629))) (gName 4))
              (tRet (tOp (rI (fun _ j => 0 < j) fun i j => .int (i % j)) (tOp (rI CDivW fun i j => .int (i / j)) (tOp (rI (fun _ j => 0 < j) fun i j => .int (i % j)) (tOp (rI0 fun i j => .int (i + j)) (tOp (rI IntMulOk fun i j => .int (i * j)) (tVar 4) (tC (.int 48271))) (tVar 3)) (tC (.int 2147483587))) (tC (.int 64))) (tVar 1)))))))) :
    FnOk P w K mg base CX0 (k + 1) f fd ["_law_box", "_law_many"] (Pr K .fz 2 fTake) := by
  refine F.ok S (fun vs H Q E h => Pr.len vs H Q E h) fun cdv A outer s H vs Q E hr h => ?_
  obtain ⟨X, rfl, hd⟩ := hder cdv A outer s H E
  refine ⟨_, (pss_box hd).nox, ?_⟩
  obtain ⟨F0, as, n, bx, P', PX, hl, sm, hb, hp, ⟨many, rfl, ⟨hm0, hm1⟩, hn, hP⟩, hq, hx⟩ := h
  cases hp with
  | cons p1 hp =>
    cases hp with
    | cons p2 hp =>
      cases hp
      obtain ⟨b, rfl, eb⟩ := p1
      cases p2
      obtain ⟨hb1, hb2⟩ := hb.1.2 b eb
      refine ⟨b, n, n + 1, hb1, fun x y z h1 h2 h3 h4 => ?_⟩
      have dv := log_62 hm0 hm1
      have fin : ∀ (x' y' z' r : Int) (H' : Hp), 0 ≤ x' → (0 ≤ y' ∧ y' < 2 ^ 62) → 0 ≤ z' → z' ≤ ((n + 1 : Nat) : Int) → 0 ≤ r → r < many → (∀ a, a ≠ b → H' a = H a) → H' b = some (.lst [.int x', .int y', .int z']) →
          ∃ x y z : Int, H' b = some (.lst [.int x, .int y, .int z]) ∧ 0 ≤ x ∧ (0 ≤ y ∧ y < 2 ^ 62) ∧ 0 ≤ z ∧ z ≤ ((n + 1 : Nat) : Int) ∧ Q (.int r) (upd H' b (.ext (boxP b (n + 1)))) := by
        intro x' y' z' r H' g1 g2 g3 g4 g5 g6 g7 g8
        have sm' : Same F0 (upd H' b (.ext (boxP b (n + 1)))) := fun a o e => by
          have : a ≠ b := fun z => by subst z; rw [hb2] at e; cases e
          rw [upd_ne this, g7 a this]; exact sm a o e
        refine ⟨x', y', z', g8, g1, g2, g3, g4, hq (.int r) (n + 1) (.int r) _ F0 (hP r g5 g6) ⟨fun a o e hn => ?_, fun a _ => rfl, sm', ⟨sm', fun a e => ?_⟩, fun _ z => z, fun _ z => .inl z⟩ (.int r)⟩
        · have : a ≠ b := fun z => hn (by rw [z]; exact eb)
          rw [upd_ne this, g7 a this]; exact e
        · have eb' := eb.symm.trans e
          cases eb'; exact ⟨upd_same, hb2⟩
      have u0 : ∀ vs : List V, SqL K (upd H b (.lst vs)) b vs := fun vs => .inl (.inl upd_same)
      have oth : ∀ (H' : Hp) (o : HO) (a : Addr), a ≠ b → upd H' b o a = H' a := fun H' o a q => upd_ne q
      refine ⟨.ref b, rfl, b, _, 0, .int x, rfl, rfl, u0 _, rfl, x, 0, rfl, rfl, decide (0 < x), rfl, ite2 (fun e => ?_) (fun e => ?_)⟩
      · have hx0 : 0 < x := of_decide_eq_true e
        refine ⟨.ref b, rfl, b, _, 0, .int x, rfl, rfl, u0 _, rfl, .int many, rfl, x, many, rfl, rfl, hm0, ?_⟩
        refine ⟨.ref b, rfl, b, _, 0, .int x, rfl, rfl, u0 _, rfl, .int many, rfl, x, many, rfl, rfl, ⟨hm0, dv⟩, ?_⟩
        refine ⟨.ref b, rfl, b, _, 0, 0, rfl, rfl, upd_same, rfl, ?_⟩
        refine ⟨.int (x % many), rfl, ?_⟩
        refine fin (x / many) y z (x % many) _ (Int.ediv_nonneg h1 (by omega)) h2 h3 (by omega) (Int.emod_nonneg x (by omega)) (Int.emod_lt_of_pos x hm0) (fun a q => by rw [oth _ _ a q, oth _ _ a q]) (by rw [upd_same]; rfl)
      · have hz1 : (0 : Int) ≤ z + 1 := by omega
        have hz2 : z + 1 ≤ ((n + 1 : Nat) : Int) := by omega
        refine ⟨.ref b, rfl, b, _, 2, .int z, rfl, rfl, u0 _, rfl, z, 1, rfl, rfl, ?_⟩
        refine ⟨.ref b, rfl, b, _, 2, 2, rfl, rfl, upd_same, rfl, ?_⟩
        rw [show ([V.int x, V.int y, V.int z].set 2 (.int (z + 1))) = [V.int x, V.int y, V.int (z + 1)] from rfl, upd_upd]
        have ib : ∀ i : Int, -(2 ^ 64) < i → i < 2 ^ 64 → Builtin.Int.intBits i ≤ 64 := fun i a b => intBits_le_64 a b
        refine ⟨.ref b, rfl, b, _, 1, .int y, rfl, rfl, u0 _, rfl, .ref b, rfl, b, _, 2, .int (z + 1), rfl, rfl, u0 _, rfl, 39373, z + 1, rfl, rfl, .of_left (ib _ (by decide) (by decide)), y, 39373 * (z + 1), rfl, rfl, ?_⟩
        refine ⟨y + 39373 * (z + 1), 5, rfl, rfl, ⟨by decide, ?_⟩, _, 2147483647, rfl, rfl, (by show (0 : Int) < 2147483647; decide), ?_⟩
        · have hb3 : Builtin.Int.intBits (y + 39373 * (z + 1)) ≤ 4020 := bits_cap (by omega) (by omega)
          omega
        · dsimp only
          generalize ho : ((y + 39373 * (z + 1)) ^ (5 : Int).toNat) % 2147483647 = once
          have o1 : 0 ≤ once := by rw [← ho]; exact Int.emod_nonneg _ (by decide)
          have o2 : once < 2147483647 := by rw [← ho]; exact Int.emod_lt_of_pos _ (by decide)
          refine ⟨.int once, rfl, .ref b, rfl, b, _, 2, .int (z + 1), rfl, rfl, u0 _, rfl, once, z + 1, rfl, rfl, .ref b, rfl, b, _, 1, .int y, rfl, rfl, u0 _, rfl, y, 1000003, rfl, rfl, ⟨by decide, by decide⟩, once + (z + 1), y / 1000003, rfl, rfl, ?_⟩
          refine ⟨.int once, rfl, once, 40009, rfl, rfl, (by show (0 : Int) < 40009; decide), once % 40009, 7, rfl, rfl, .ref b, rfl, b, _, 2, .int (z + 1), rfl, rfl, u0 _, rfl, once % 40009 + 7, z + 1, rfl, rfl, ?_⟩
          have m1 : 0 ≤ once % 40009 := Int.emod_nonneg _ (by decide)
          have m2 : once % 40009 < 40009 := Int.emod_lt_of_pos _ (by decide)
          refine ⟨once + (z + 1) + y / 1000003, once % 40009 + 7 + (z + 1), rfl, rfl, .of_bits (Nat.le_trans (bits_cap (by omega) (by omega)) (by decide)) (Nat.le_trans (bits_cap (by omega) (by omega)) (by decide)), _, 2147483629, rfl, rfl, (by show (0 : Int) < 2147483629; decide), ?_⟩
          dsimp only
          generalize hp : (once + (z + 1) + y / 1000003) * (once % 40009 + 7 + (z + 1)) % 2147483629 = pair
          have q1 : 0 ≤ pair := by rw [← hp]; exact Int.emod_nonneg _ (by decide)
          have q2 : pair < 2147483629 := by rw [← hp]; exact Int.emod_lt_of_pos _ (by decide)
          refine ⟨.int pair, rfl, pair, 48271, rfl, rfl, .of_right (ib _ (by decide) (by decide)), .int once, rfl, pair * 48271, once, rfl, rfl, _, 2147483587, rfl, rfl, (by show (0 : Int) < 2147483587; decide), _, 64, rfl, rfl, ⟨by decide, by decide⟩, .int many, rfl, _, many, rfl, rfl, hm0, ?_⟩
          exact fin x y (z + 1) _ _ h1 h2 hz1 hz2 (Int.emod_nonneg _ (by omega)) (Int.emod_lt_of_pos _ hm0) (fun a q => oth _ _ a q) upd_same
end
end TL
set_option Elab.async false
set_option linter.all false
set_option maxRecDepth 100000
set_option maxHeartbeats 4000000
namespace TL
open PySem PySem.Spec PyProof.Rows L2
/-- from a box made just now back to the act it was made in -/
theorem box_back {a0 : Option Addr} {K0 K1 : PySem.W.Frag} {n0 n1 n' : Nat} {H F H1 F1 H' F' : Hp} {b : Addr} {o : HO} (R : BoxOk ((a0, K0) : Bx) n0 H F) (a1 : Adv (a0, K0) n0 n1 H F H1 F1) (hb0 : H b = none) (a' : Adv (some b, K1) 0 n' (upd H1 b o) F1 H' F') :
    Adv (a0, K0) n0 n1 H F H' F' := by
  have nb : ∀ c o, H c = some o → c ≠ b := fun c o e z => by subst z; rw [e] at hb0; cases hb0
  refine ⟨fun c o e hc => ?_, fun c hc => ?_, a'.sub, ⟨a'.sub, fun c hc => ?_⟩, fun _ z => z, fun _ z => .inl z⟩
  · exact a'.keep c o (by rw [upd_ne (nb c o e)]; exact a1.keep c o e hc) fun z => nb c o e (Option.some.inj z).symm
  · obtain ⟨o', e⟩ := Option.ne_none_iff_exists'.mp hc
    have : upd H1 b o c ≠ none := by
      rw [upd_ne (nb c o' e)]
      by_cases z : a0 = some c
      · rw [(a1.box.2 c z).1]; exact fun z => nomatch z
      · rw [a1.keep c o' e z]; exact fun z => nomatch z
    rw [a'.old c this, a1.old c hc]
  · have e := (R.2 c hc).1
    obtain ⟨e1, e2⟩ := a1.box.2 c hc
    have h1 : upd H1 b o c = some (.ext (boxP c n1)) := by rw [upd_ne (nb c _ e)]; exact e1
    exact ⟨a'.keep c _ h1 fun z => nb c _ e (Option.some.inj z).symm, (a'.old c (by rw [h1]; exact fun z => nomatch z)).trans e2⟩
section
variable {X : Cx} {K : PySem.W.Frag} {a b c e : Expr} {ma mb mc me : EM} {p pos tpos apos cpos : Pos} {kr : Kd} {x : Str} {fid : String}
def tCallBx (sp : Sp) (E : XK) (ta : TE) : TE := fun σ H Q => ta σ H fun v H1 => ∃ b n, ∃ x y z : Int, v = .ref b ∧ H1 b = some (.lst [.int x, .int y, .int z]) ∧ 0 ≤ x ∧ (0 ≤ y ∧ y < 2 ^ 62) ∧ 0 ≤ z ∧ z ≤ (n : Nat) ∧ sp [v] (upd H1 b (.ext (boxP b n))) Q E
def mCallBx (f : FM) (m : EM) : EM := fun τ n Q => m τ n fun d n1 => ∃ x y : Int, d = .list [.int x, .int y, .int 0] ∧ 0 ≤ x ∧ (0 ≤ y ∧ y < 2 ^ 62) ∧ f [.box] 0 (fun d _ => Q d n1) fun _ _ => False
end
/-! ### the law's end -/
def spLaw (K : PySem.W.Frag) : Sp := fun vs H Q _ => ∃ (a : Addr) (ns : List Int), vs = [.ref a] ∧ SqL K H a (ns.map V.int) ∧ ns.length ≤ 63 ∧ ∀ H', Q (.bl true) H'
end TL
set_option Elab.async false
set_option linter.all false
set_option maxRecDepth 100000
set_option maxHeartbeats 4000000
namespace TL
variable [Mode]
open PySem PySem.Spec PyProof.Rows L2
/-- the built-in names that the module leaves free -/
structure Fz (mg : Str → Option Value) : Prop where
  len : mg "len" = none
  range : mg "range" = none
  tuple : mg "tuple" = none
  list : mg "list" = none
  enumerate : mg "enumerate" = none
  all : mg "all" = none
  any : mg "any" = none
  int : mg "int" = none
  abs : mg "abs" = none
  sorted : mg "sorted" = none
  zip : mg "zip" = none
  dict : mg "dict" = none
  str : mg "str" = none
  sum : mg "sum" = none
  max : mg "max" = none
  min : mg "min" = none
  repr : mg "repr" = none
  set : mg "set" = none
  reversed : mg "reversed" = none
  isinstance : mg "isinstance" = none
  bool : mg "bool" = none
/-- a def that keeps its promise -/
structure Cal (P : Program) (w : World) (K : PySem.W.Frag) (mg : Str → Option Value) (base : Heap) (x : Str) (ar : Arguments) (ps : List Str) (k : Nat) (kr : Kd) (m : FM) : Prop where
  ex : ∃ (f : Addr) (fd : FuncData) (qual : Str) (body : List Stmt) (scope : Scope), FunD K x qual ar body scope [] [] f fd ∧ FnOk P w K mg base CX0 k f fd ps (Pr K kr ps.length m) ∧ mg x = some (.ref f) ∧ Binds K fd ps []
section
variable {P : Program} {w : World} {K : PySem.W.Frag} {mg : Str → Option Value} {base : Heap} {x : Str} {ar : Arguments} {ps : List Str} {k : Nat} {kr : Kd} {m m' : FM}
theorem Cal.up {j : Nat} (c : Cal P w K mg base x ar ps k kr m) (h : k ≤ j := by decide) : Cal P w K mg base x ar ps j kr m := by
  obtain ⟨f, fd, q, b, s, F, G, g, bi⟩ := c.ex
  exact ⟨f, fd, q, b, s, F, G.mono h, g, bi⟩
theorem Cal.imp (c : Cal P w K mg base x ar ps k kr m) (h : ∀ as n P PX, m' as n P PX → m as n P PX) : Cal P w K mg base x ar ps k kr m' := by
  obtain ⟨f, fd, q, b, s, F, G, g, bi⟩ := c.ex
  exact ⟨f, fd, q, b, s, F, G.imp fun vs H Q E z => Pr.imp (fun as n P PX _ => h as n P PX) vs H Q E z, g, bi⟩
theorem Cal.mk2 {f : Addr} {fd : FuncData} {q : Str} {b : List Stmt} {s : Scope} (F : FunD K x q ar b s [] [] f fd) (G : FnOk P w K mg base CX0 k f fd ps (Pr K kr ps.length m)) (g : mg x = some (.ref f))
    (h : ∀ (kV doc pm : Value) (an : Option Addr) (cdv ct : Value) (us : List Value), us.length = ps.length → bindArgs (PySem.W.fnOf x q ar b s .none kV doc pm an cdv ct) ⟨us, []⟩ = pure (ps.zip us)) : Cal P w K mg base x ar ps k kr m :=
  ⟨f, fd, q, b, s, F, G, g, F.bindsN h⟩
end
/-- the same program -/
structure XEq (P : Program) (w : World) (K : PySem.W.Frag) (mg : Str → Option Value) (base : Heap) (X : Cx) : Prop where
  p : P = X.prog
  w : w = X.w
  k : K = X.K
  m : mg = X.mg
  b : base = X.base
section
variable {X : Cx} {x : Str} {ar : Arguments} {ps : List Str} {k : Nat} {kr : Kd} {f : FM} {p pos : Pos} {a : Expr} {es : List Expr} {ma : EM} {P : Program} {w : World} {K : PySem.W.Frag} {mg : Str → Option Value} {base : Heap}
theorem e_cal {m : AM} (c : Cal P w K mg base x ar ps k kr f) (hr : Room k X.A) (hg : Gl X x) (ha : A2 X (a :: es) m) (hdb : (x == ("__debug__" : Str)) = false := by decide) (he : starEach (a :: es) X.env = (false, eval a X.env) :: starEach es X.env := by rfl) (hpl : (backTo pos (starEach es X.env)).any (·.1) = false := by rfl) (hX : XEq P w K mg base X := by exact ⟨rfl, rfl, rfl, rfl, rfl⟩) :
    E2 X kr (.Call (.Name x p) (a :: es) [] pos) (mCal ps.length f m) := by
  obtain ⟨rfl, rfl, rfl, rfl, rfl⟩ := hX
  obtain ⟨_, fd, q, b, s, F, G, g, bi⟩ := c.ex
  exact e_call G hr hg g F.kp bi ha hdb he hpl
/-- how names bind: told of the arguments alone -/
def KwOk (x : Str) (ar : Arguments) (ps : List Str) (n : Nat) (ks : List Str) (is : List Nat) : Prop := ∀ (q : Str) (b : List Stmt) (s : Scope) (kV doc pm : Value) (an : Option Addr) (cdv ct : Value) (us ws : List Value), us.length = n → ws.length = ks.length →
  bindArgs (PySem.W.fnOf x q ar b s .none kV doc pm an cdv ct) ⟨us, ks.zip ws⟩ = pure (ps.zip (perm is (us ++ ws)))
theorem e_calKW {ks : List Str} {m : AM} {is : List Nat} {kws : List Keyword} (c : Cal P w K mg base x ar ps k kr f) (hr : Room k X.A) (hg : Gl X x) (hb : KwOk x ar ps 0 ks is) (hkw : K2 X kws m) (hall : (backToKw pos (keywordEach kws X.env)).all (·.1.isSome) = true := by rfl) (hks : (backToKw pos (keywordEach kws X.env)).filterMap (·.1) = ks := by rfl) (hdb : (x == ("__debug__" : Str)) = false := by decide)
    (hpl : ((backTo pos (starEach [] X.env)).any (·.1) || (backToKw pos (keywordEach kws X.env)).any (·.1.isNone)) = false := by rfl) (hX : XEq P w K mg base X := by exact ⟨rfl, rfl, rfl, rfl, rfl⟩) :
    E2 X kr (.Call (.Name x p) [] kws pos) (mCal ps.length f (kPerm 0 ks.length is kNil m)) := by
  obtain ⟨rfl, rfl, rfl, rfl, rfl⟩ := hX
  obtain ⟨_, fd, q, b, s, F, G, g, bi⟩ := c.ex
  exact e_callKW G hr hg g F.kp (kbn F 0 ks is fun kV doc pm an cdv ct us ws l1 l2 => hb q b s kV doc pm an cdv ct us ws l1 l2) hkw hall hks hdb hpl
end
/-! ### short methods -/
section
variable {X : Cx} {o a b : Expr} {i : Nat} {m : DM} {ma : EM} {apos cpos p pos : Pos}
theorem x_app (ho : PE X o (tVar i)) (ha : D2 X [a] m) (hbase : attributeBase o "append" X.env (eval o X.env) = eval o X.env := by rfl) (hfew : ((backTo cpos (starEach [a] X.env)).all (fun x => !x.1) && (backToKw cpos (keywordEach [] X.env)).all (fun x => x.1.isSome)
      && decide (([a] : List Expr).length + ([] : List Keyword).length + (if ([] : List Keyword).isEmpty then 0 else 1) < 30)) = true := by rfl)
    (hline : (apos.endLine == cpos.line) = true := by rfl) (hs : starEach [a] X.env = (false, eval a X.env) :: starEach [] X.env := by rfl) (hplain : (backTo cpos (starEach [] X.env)).any (·.1) = false := by rfl) :
    X2 X (.Call (.Attribute o "append" apos) [a] [] cpos) (xMt oApp i m) := x_mt PySem.F.slot_list_append PySem.F.type_list_append mt_append does_app ho ha hbase hfew hline hs hplain
theorem x_ins (ho : PE X o (tVar i)) (ha : D2 X [a, b] m) (hbase : attributeBase o "insert" X.env (eval o X.env) = eval o X.env := by rfl) (hfew : ((backTo cpos (starEach [a, b] X.env)).all (fun x => !x.1) && (backToKw cpos (keywordEach [] X.env)).all (fun x => x.1.isSome)
      && decide (([a, b] : List Expr).length + ([] : List Keyword).length + (if ([] : List Keyword).isEmpty then 0 else 1) < 30)) = true := by rfl)
    (hline : (apos.endLine == cpos.line) = true := by rfl) (hs : starEach [a, b] X.env = (false, eval a X.env) :: starEach [b] X.env := by rfl) (hplain : (backTo cpos (starEach [b] X.env)).any (·.1) = false := by rfl) :
    X2 X (.Call (.Attribute o "insert" apos) [a, b] [] cpos) (xMt oIns i m) := x_mt PySem.F.slot_list_insert PySem.F.type_list_insert mt_insert does_ins ho ha hbase hfew hline hs hplain
end
end TL
namespace TL
open PySem PySem.Spec PyProof.Rows L2
section
variable {X : Cx} {x : Str} {ar : Arguments} {ps : List Str} {k : Nat} {kr : Kd} {f : FM} {p pos : Pos} {a : Expr} {es : List Expr} {ma : EM} {P : Program} {w : World} {K : PySem.W.Frag} {mg : Str → Option Value} {base : Heap}
end
end TL
set_option Elab.async false
set_option linter.all false
set_option maxRecDepth 100000
set_option maxHeartbeats 4000000
namespace TL
variable [Mode]
open PySem PySem.Spec PyProof.Rows L2
section
variable {X : Cx} {K : PySem.W.Frag} {tg iter : Expr} {a b c e : Expr} {ma mb mc me : EM} {p pos tpos apos cpos : Pos} {kr : Kd}
theorem p_par3 {k1 k2 k3 : Kd} {i j l : Nat} {x y z : Str} {px py pz pt : Pos} {kt q2 pt2} (hk1 : k1 ≠ .bw) (hk2 : k2 ≠ .bw) (hk3 : k3 ≠ .bw) (hc : X.calm = true) (hN : X.N.Nodup) (hi : X.N[i]? = some x) (hj : X.N[j]? = some y) (hl : X.N[l]? = some z) (hij : i ≠ j) (hil : i ≠ l) (hjl : j ≠ l)
    (hx : X.env.scope.names.lookup x = some .local) (hy : X.env.scope.names.lookup y = some .local) (hz : X.env.scope.names.lookup z = some .local) (ha : E2 X k1 a ma) (hb : E2 X k2 b mb) (hcc : E2 X k3 c mc)
    (hw : swappedStores [.Tuple [.Name x px, .Name y py, .Name z pz] kt pt] (.Tuple [a, b, c] q2 pt2) X.env = pure (some [x, y, z]) := by rfl)
    (hs : swapsWithSole [.Tuple [.Name x px, .Name y py, .Name z pz] kt pt] (.Tuple [a, b, c] q2 pt2) pos.line X.env = pure false := by rfl)
    (s1 : starEach [a, b, c] X.env = (false, eval a X.env) :: starEach [b, c] X.env := by rfl) (s2 : starEach [b, c] X.env = (false, eval b X.env) :: starEach [c] X.env := by rfl) (s3 : starEach [c] X.env = (false, eval c X.env) :: starEach [] X.env := by rfl) :
    P2 X kr (.Assign [.Tuple [.Name x px, .Name y py, .Name z pz] kt pt] (.Tuple [a, b, c] q2 pt2) pos) (sPar3 k1 k2 k3 i j l ma mb mc) := by
  refine ⟨fun Wx tk => ps_weak (L2.ps_par3 hc hN hi hj hl hij hil hjl hx hy hz (pa_cons ha.pe (pa_cons hb.pe (pa_cons hcc.pe pa_nil s3) s2) s1) hw hs) fun Dd σ H ⟨A, τ, n, F, E, eK, R, p, e⟩ => ?_⟩
  refine tE_run eK R p fun d1 n1 v1 H1 F1 p1 a1 r1 => tE_run eK (R.step a1) p1 fun d2 n2 v2 H2 F2 p2 a2 r2 => ?_
  have a12 := a1.trans a2
  refine tE_run eK (R.step a12) p2 fun d3 n3 v3 H3 F3 p3 a3 r3 => ?_
  rw [← eK] at r1 r2 r3
  have a13 := a12.trans a3
  refine ⟨v1, v2, v3, rfl, e.nx _ n3 _ H3 F3 p3 ?_ (a13.fro R.same)⟩
  have R1 : Rel A (τ.set i (some (slOf k1 d1))) n2 (σ.set i (some v1)) H2 F2 := (R.set1 i hk1 a1 r1).step a2
  have R2 : Rel A ((τ.set i (some (slOf k1 d1))).set j (some (slOf k2 d2))) n2 ((σ.set i (some v1)).set j (some v2)) H2 F2 :=
    R1.set (Hs := H1) j hk2 (fun a h => R.h0some (a1.none_back a h)) (fun l s b hl e1 e0 e2 => ((R.set1 i hk1 a1 r1).own e1 e0 e2).2.2) r2
  exact (R2.step a3).set (Hs := H2) l hk3 (fun a h => R.h0some (a12.none_back a h)) (fun l s b hl e1 e0 e2 => (R2.own e1 e0 e2).2.2) r3
/-! ### zip of two lists, of two tuples -/
def zipD : List D → List D → List D
  | x :: xs, y :: ys => rawP x y :: zipD xs ys
  | _, _ => []
theorem zipD_get : ∀ (xs ys : List D) (i : Nat), (zipD xs ys)[i]? = match xs[i]?, ys[i]? with
    | some x, some y => some (rawP x y)
    | _, _ => none
  | [], ys, i => by simp [zipD]
  | x :: xs, [], i => by
    simp [zipD]
  | x :: xs, y :: ys, 0 => by simp [zipD]
  | x :: xs, y :: ys, i + 1 => by
    rw [zipD, List.getElem?_cons_succ, List.getElem?_cons_succ, List.getElem?_cons_succ, zipD_get xs ys i]
theorem zipD_len : ∀ (xs ys : List D), (zipD xs ys).length = min xs.length ys.length
  | [], ys => by simp [zipD]
  | x :: xs, [] => by simp [zipD]
  | x :: xs, y :: ys => by simp [zipD, zipD_len xs ys]
end
end TL
set_option Elab.async false
set_option linter.all false
set_option maxRecDepth 100000
set_option maxHeartbeats 4000000
namespace TL
variable [Mode]
open PySem PySem.Spec PyProof.Rows L2
/-! ### defs that ask for repr: nothing may be under way -/
structure GOk (P : Program) (w : World) (K : PySem.W.Frag) (mg : Str → Option Value) (base : Heap) (k : Nat) (f : Addr) (fd : FuncData) (ps : List Str) (sp : Sp) : Prop where
  len : ∀ vs H Q E, sp vs H Q E → vs.length = ps.length
  run : ∀ (A : Around) (outer : List Env) (t : Shared) (H : Hp) (ar : Args) (us : List Value) (vs : List V) (Q : VK) (E : XK),
    A.guards = some [] → Room k A → Env0 P w K mg base A outer t H →
    BindsTo t fd ar (ps.zip us) → Vals vs us → sp vs H Q E →
    codeAny (model P w) A (.call (.ref f) ar) (CR CX0 outer P w H t Q E) t
section
variable {P : Program} {w : World} {K : PySem.W.Frag} {mg : Str → Option Value} {base : Heap} {f : Addr} {fd : FuncData} {ps N : List Str} {k : Nat} {sp : Sp}
theorem GOk.weak {sp' : Sp} (G : GOk P w K mg base k f fd ps sp) (h : ∀ vs H Q E, sp' vs H Q E → sp vs H Q E) : GOk P w K mg base k f fd ps sp' :=
  ⟨fun _ _ _ _ z => G.len _ _ _ _ (h _ _ _ _ z), fun A o t H ar us vs Q E g r e b v z => G.run A o t H ar us vs Q E g r e b v (h _ _ _ _ z)⟩
theorem gok_def {x qual : Str} {params : Arguments} {body : List Stmt} {scope : Scope} (F : FunD K x qual params body scope [] [] f fd) (S : FnScope N ps scope) (len : ∀ vs H Q E, sp vs H Q E → vs.length = ps.length)
    (hbody : ∀ (cdv : Value) (A : Around) (outer : List Env) (t : Shared) (H : Hp) (vs : List V) (Q : VK) (E : XK),
      A.guards = some [] → Room k (A.deeper (envOfC qual scope t.heap.objs.size f cdv)) → sp vs H Q E →
      ∃ m, PSs (cxOf CX0 P w K mg base N qual scope f cdv A outer t H E) body m ∧
        m { nx := fun _ H' => Q .non H', rt := Q } (L2.start N vs) H) : GOk P w K mg base (k + 1) f fd ps sp := by
  obtain ⟨oc, od, dV, kV, doc, pm, an, cdv, ct, osl, rfl, lk, hcd, _, _⟩ := F.ex
  refine ⟨len, fun A outer t H ar us vs Q E hgd hr e0 hb rv hsp => ?_⟩
  have hl := len _ _ _ _ hsp
  have KX : K.In t.heap := e0.mod.kin.keeps (fun c o z => (e0.bs c o z).1)
  have lim : t.heap.NoLimit := e0.mod.nolimit.keeps (fun c o z => (e0.bs c o z).1)
  have cells : ∀ y ∈ ps.zip us, scope.names.lookup y.1 = some .local ∨
      (scope.names.lookup y.1 = some .cell ∧
        ((cellsFrom (t.heap.objs.size + 1) scope.names []).lookup y.1).isSome = true) := by
    rintro ⟨n, v⟩ hy
    rcases S.par n (List.of_mem_zip hy).1 with q | q
    · exact Or.inl q
    · exact Or.inr ⟨q, PySem.W.cellsFrom_some _ _ _ (Or.inl q)⟩
  refine codeAny_call_function hr.depth (KX _ _ lk) rfl S.co S.gen rfl
    (PySem.W.codeRec_of KX hcd) (hb _ _ _ _ ?_)
  refine wpAny_newFunctionEnv_cells S.kind cells (fun env he t1 z => ?_)
  subst he
  refine ⟨lim.keeps z.toInCall.keep, codeAny_func ?_⟩
  obtain ⟨m, hm, hq⟩ := hbody cdv A outer t H vs Q E hgd (hr.deeper _) hsp
  have I := inv_start (CX := CX0) (P := P) (w := w) (K := K) (mg := mg) (base := base) (E := E) S hr.hd e0 hl rv z
  refine wpAny_mono (hm.run [] t1 (L2.start N vs) H _ I hq) (fun fl t' hs => ?_) (fun _ _ z => z)
  have done : ∀ {σ' : L2.St} {H' : Hp} {v : V} {u : Value},
      Inv (cxOf CX0 P w K mg base N qual scope f cdv A outer t H E) [] σ' H' t' →
      RelV v u → Q v H' → CE outer P w H t Q u t' :=
    fun {σ' H' v u} J r q => ⟨v, H', J.os, J.bare, J.base, J.hok, r, q⟩
  cases fl with
  | ret u =>
    obtain ⟨v, σ', H', J, r, q⟩ := hs
    exact done J r q
  | next =>
    obtain ⟨σ', H', J, q⟩ := hs
    exact done (v := V.non) (u := Value.none) J rfl q
  | brk => exact hs.elim fun _ z => z.elim fun _ z => z.2.elim
  | cont => exact hs.elim fun _ z => z.elim fun _ z => z.2.elim
/-- as fn_ok -/
theorem gn_ok {x qual : Str} {params : Arguments} {body : List Stmt} {scope : Scope} {kr : Kd} {b : SM} {mN : Nat}
    (F : FunD K x qual params body scope [] [] f fd) (S : FnScope N ps scope) (hN : N.length = mN) (hkr : kr = .fz)
    (hbody : ∀ (cdv : Value) (A : Around) (outer : List Env) (t : Shared) (H : Hp) (E : XK), A.guards = some [] → Room k (A.deeper (envOfC qual scope t.heap.objs.size f cdv)) →
      S2 (cxOf CX0 P w K mg base N qual scope f cdv A outer t H E).nox kr body b) :
    GOk P w K mg base (k + 1) f fd ps (Pr K kr ps.length (bodyM mN fun _ => b)) := by
  subst hkr
  refine gok_def F S (fun vs H Q E h => Pr.len vs H Q E h) fun cdv A outer t H vs Q E hgd hr h => ⟨_, ((hbody cdv A outer t H E hgd hr).ps _ takesF).nox, ?_⟩
  obtain ⟨F0, as, n, bx, P', PX, hl, sm, hb, hp, hm, hq, hx⟩ := h
  have R := start_rel (N := N) sm hb hp
  rw [hN] at R
  exact ⟨_, _, n, F0, _, rfl, R, hm, ⟨fun τ n' σ H' F' p' R' _ => hq .none n' .non H' F' p' R'.adv .non, fun _ _ _ _ _ z => z.elim, fun _ _ _ _ _ z => z.elim, fun d n' v H' F' p' a' r' => hq d n' v H' F' p' a' r', fun _ _ _ _ _ _ _ _ z => z.elim⟩⟩
end
/-! ### the law's own call, nothing under way -/
section
variable {P : Program} {w : World} {K : PySem.W.Frag} {mg mb : Str → Option Value} {k : Nat} {fa a : Addr} {fd : FuncData} {x : Str} {sp : Sp} {t : Shared} {vs : List Value} {ns : List Int}
theorem law_callG (KX : K.In t.heap) (hns : t.heap.Ns mainGlobals mg) (hb : t.heap.Ns builtinsNs mb) (hbb : ∀ x : Str, x ≠ "__name__" → mb x = bootBuiltins x)
    (hlim : t.heap.NoLimit) (hgen : t.gens = #[]) (ha : t.heap.get? a = some { cls := .type "list", data := .seq vs.toArray }) (hi : IntsAre vs ns)
    (hl : ns.length ≤ sizeLine) (hr : Room k callerA)
    (G : ∀ base : Heap, K.In base → base.Ns mainGlobals mg → GOk P w K mg base k fa fd [x] sp)
    (hbind : ∀ (s : Shared) (u : Value), BindsTo s fd ⟨[u], []⟩ [(x, u)])
    (hsp : ∀ H : Hp, Only H → SqL K H a (ns.map V.int) → sp [.ref a] H (fun v _ => v = .bl true) fun _ _ _ => False) :
    codeAny (model P w) callerA (.call (.ref fa) ⟨[.ref a], []⟩)
      (fun r t' => r = .ok (.ret (.bool true)) ∧ OldK t.heap t'.heap ∧ t'.os = t.os ∧ AllBare t'.gens) t := by
  have rv := vals_ints hi
  have run1 : ∀ H : Hp, Only H → SqL K H a (ns.map V.int) → HOk P w H t.heap →
      (∀ c, H c ≠ none → c = a) → (H a ≠ none → K.lookup a = none) →
      codeAny (model P w) callerA (.call (.ref fa) ⟨[.ref a], []⟩)
        (fun r t' => r = .ok (.ret (.bool true)) ∧ OldK t.heap t'.heap ∧ t'.os = t.os ∧ AllBare t'.gens) t := by
    intro H hO hS hok only hK
    have there : ∀ {c : Addr} {o : Obj}, t.heap.get? c = some o → H c = none → (hidT t.heap H).get? c = some o := fun z n => hidT_get z n
    have dicts : ∀ {c : Addr} {o : Obj} {es : Array DictEntry} {ep : Nat}, t.heap.get? c = some o → o.data = .dict es ep → H c = none := by
      intro c o es ep z d
      refine Classical.byContradiction fun q => ?_
      have ec := only c q
      rw [ec, ha] at z
      cases z
      exact absurd d (fun y => by cases y)
    have names : ∀ {c : Addr} {m : Str → Option Value}, t.heap.Ns c m → (hidT t.heap H).Ns c m := by
      rintro c m ⟨o, es, ep, z, d, r⟩
      exact ⟨o, es, ep, there z (dicts z d), d, r⟩
    have kin : K.In (hidT t.heap H) := by
      intro c o z
      refine there (KX c o z) (Classical.byContradiction fun q => ?_)
      have ec := only c q
      rw [ec] at z q
      rw [hK q] at z
      cases z
    obtain ⟨mc, l1, l2⟩ := hlim
    have md : Mod K mg (hidT t.heap H) := ⟨kin, names hns, ⟨mb, names hb, hbb⟩, ⟨mc, names l1, l2⟩⟩
    have e0 : Env0 P w K mg (hidT t.heap H) callerA [] t H :=
      ⟨rfl, md, fun c o z => of_hidT z, Nat.le_of_eq (hidT_size _ _), trivial,
        fun c z => (List.not_mem_nil (show c ∈ ([] : List Addr) from z)).elim, hok, .of_eq hgen⟩
    refine codeAny_mono ((G _ kin (names hns)).run callerA [] t H ⟨[.ref a], []⟩ [.ref a] [.ref a] _ _
      rfl hr e0 (hbind t (.ref a)) (.cons rfl .nil) (hsp H hO hS)) (fun r t' h => ?_)
    match r, h with
    | .error e, h => exact (show False from h).elim
    | .ok (.ret u), h =>
      obtain ⟨v, H', os, bare, un, hok', r', q⟩ := h
      have q' : v = V.bl true := q
      subst q'
      have ru : u = Value.bool true := r'
      subst ru
      refine ⟨rfl, OldK.of_keep (fun c o z => ?_), os, bare⟩
      match hc : H c with
      | none => exact un.keep c o z hc (fun y => (List.not_mem_nil (show c ∈ ([] : List Addr) from y)).elim) (by simp)
      | some y =>
        rcases hO c with n | ⟨ob, xs, n⟩
        · rw [hc] at n; cases n
        · obtain ⟨g1, _⟩ := hok c _ n
          obtain ⟨g2, _⟩ := hok' c _ (un.frzs c ob _ n)
          rw [z] at g1
          cases g1
          exact g2
  match hk : K.lookup a with
  | some o =>
    have z := KX a o hk
    rw [ha] at z
    cases z
    exact run1 (fun _ => none) (fun _ => Or.inl rfl)
      (Or.inr ⟨_, vs.toArray, _, hk, rfl, rfl, rfl, by rw [List.size_toArray, hi.length]; exact hl, by simpa using rv⟩)
      (fun c u y => by cases (show (none : Option HO) = some u from y)) (fun c y => (y rfl).elim) (fun y => (y rfl).elim)
  | none =>
    have self : (upd (fun _ => none) a (.frz { cls := .type "list", data := .seq vs.toArray } (.lst (ns.map V.int))) : Hp) a = some (.frz { cls := .type "list", data := .seq vs.toArray } (.lst (ns.map V.int))) := upd_same
    have other : ∀ c, c ≠ a → (upd (fun _ => none) a (.frz { cls := .type "list", data := .seq vs.toArray } (.lst (ns.map V.int))) : Hp) c = none := fun c n => upd_ne n
    refine run1 (upd (fun _ => none) a (.frz { cls := .type "list", data := .seq vs.toArray } (.lst (ns.map V.int)))) (fun c => ?_)
      (Or.inl (Or.inr ⟨{ cls := .type "list", data := .seq vs.toArray }, self⟩)) (fun c u y => ?_) (fun c y => ?_) (fun _ => hk)
    · by_cases n : c = a
      · subst n
        exact Or.inr ⟨_, _, self⟩
      · exact Or.inl (other c n)
    · by_cases n : c = a
      · subst n
        rw [self] at y
        cases y
        exact ⟨ha, by rw [List.length_map]; exact hl, vs, _, rv, ha⟩
      · rw [other c n] at y
        cases y
    · exact Classical.byContradiction fun n => y (other c n)
end
theorem walk_G {l : PySem.W.OpenLaw} {n k : Nat} {q : Program} {loose : List Str} {XP : (Str → Option Value) → Heap → Prop} {YP : World → Heap → Prop} {d : DefRec} {x : Str}
    (hn : l.most = some n) (hn2 : n ≤ sizeLine) (hdf : d.params.defaults = []) (hr : Room k callerA)
    (F : ∀ (w : World) (mg : Str → Option Value) (fa : Addr) (h : Heap), YP w h → h.Ns mainGlobals mg → mg d.name = some (.ref fa) →
      ∃ (K : PySem.W.Frag) (fd : FuncData) (sp : Sp), K.In h ∧
        (∀ (s : Shared) (u : Value), BindsTo s fd ⟨[u], []⟩ [(x, u)]) ∧
        (∀ (H : Hp) (a : Addr) (ns : List Int), ns.length ≤ n → Only H → SqL K H a (ns.map V.int) →
          sp [.ref a] H (fun v _ => v = .bl true) fun _ _ _ => False) ∧
        ∀ base : Heap, K.In base → base.Ns mainGlobals mg → GOk l.prog w K mg base k fa fd [x] sp) :
    PySem.W.WalkO q loose XP YP l.row.toRowW d [] (fun f vs => PySem.call f vs) := by
  refine Att.attach_call hn hdf (fun w t₀ t₁ mg mb fa o pm cd doc a vs ns G Y ho hd hcd hmg hobj hints hlen hg => ?_)
  obtain ⟨K, fd, sp, KX, hb, hsp, hF⟩ := F w mg fa _ Y G.T.g hmg
  exact law_callG KX G.T.g G.T.b G.T.builtins G.T.nolimit hg hobj hints
    (Nat.le_trans hlen hn2) hr hF hb (fun H hO hS => hsp H a ns hlen hO hS)
/-! ### calls of such defs; repr -/
structure GCal (P : Program) (w : World) (K : PySem.W.Frag) (mg : Str → Option Value) (base : Heap) (x : Str) (ar : Arguments) (ps : List Str) (k : Nat) (kr : Kd) (m : FM) : Prop where
  ex : ∃ (f : Addr) (fd : FuncData) (qual : Str) (body : List Stmt) (scope : Scope), FunD K x qual ar body scope [] [] f fd ∧ GOk P w K mg base k f fd ps (Pr K kr ps.length m) ∧ mg x = some (.ref f) ∧ Binds K fd ps []
theorem GCal.mk2 {P : Program} {w : World} {K : PySem.W.Frag} {mg : Str → Option Value} {base : Heap} {x : Str} {ar : Arguments} {ps : List Str} {k : Nat} {kr : Kd} {m : FM} {f : Addr} {fd : FuncData} {q : Str} {b : List Stmt} {s : Scope} (F : FunD K x q ar b s [] [] f fd)
    (G : GOk P w K mg base k f fd ps (Pr K kr ps.length m)) (g : mg x = some (.ref f))
    (h : ∀ (kV doc pm : Value) (an : Option Addr) (cdv ct : Value) (us : List Value), us.length = ps.length → bindArgs (PySem.W.fnOf x q ar b s .none kV doc pm an cdv ct) ⟨us, []⟩ = pure (ps.zip us)) : GCal P w K mg base x ar ps k kr m :=
  ⟨f, fd, q, b, s, F, G, g, F.bindsN h⟩
section
variable {X : Cx} {x : Str} {p pos : Pos} {a : Expr} {ma : EM}
theorem run_G {k : Nat} {f : Addr} {fd : FuncData} {ps : List Str} {sp : Sp} {pins : List (Addr × Obj)} {σ : L2.St} {H : Hp} {t : Shared} {Q : VK} {us : List Value} {vs : List V} (G : GOk X.prog X.w X.K X.mg X.base k f fd ps sp) (hgd : X.A.guards = some []) (hr : Room k X.A) (hb : Binds X.K fd ps [])
    (I : Inv X pins σ H t) (r : Vals vs us) (h : sp vs H Q E0) : wpAny (model X.prog X.w) X.A (call (.ref f) us) (EP X pins σ Q) X.xe t := by
  have hl : us.length = ps.length := by rw [← r.length]; exact G.len _ _ _ _ h
  have bt : BindsTo t fd ⟨us, []⟩ (ps.zip us) := by
    have := hb t us I.kIn (by simpa using hl)
    simpa using this
  refine wpAny_call (codeAny_mono (G.run X.A X.stack t H ⟨us, []⟩ us vs Q E0 hgd hr I.env0 bt r h) (fun r t' hq => ?_))
  match r, hq with
  | .error e, hq => exact pass0 pins σ H t e t' I hq
  | .ok (.ret u), hq => exact I.after hq
theorem pe_callBxG {k : Nat} {f : Addr} {fd : FuncData} {ps : List Str} {sp : Sp} {ta : TE} (G : GOk X.prog X.w X.K X.mg X.base k f fd ps sp) (hgd : X.A.guards = some []) (hr : Room k X.A) (hg : Gl X x) (hm : X.mg x = some (.ref f)) (hk : PySem.W.keepIn X.K (.ref f) = true) (hb : Binds X.K fd ps [])
    (ha : PE X a ta) (hdb : (x == ("__debug__" : Str)) = false := by decide) (he : starEach [a] X.env = (false, eval a X.env) :: starEach [] X.env := by rfl) (hpl : (backTo pos (starEach [] X.env)).any (·.1) = false := by rfl) :
    PE X (.Call (.Name x p) [a] [] pos) (tCallBx sp E0 ta) := by
  refine ⟨fun pins s σ H Q I h => ?_⟩
  refine wpAny_Call_Name_kw (ld_glob I hg hm ?_ hdb)
  refine PySem.W.callWith_K (h₀ := X.base) I.ok.mod.kin hk (thn ((pa_cons ha pa_nil he).run pos pins s σ H (fun vs H1 => match vs with
    | [v] => ∃ b n, ∃ x y z : Int, v = .ref b ∧ H1 b = some (.lst [.int x, .int y, .int z]) ∧ 0 ≤ x ∧ (0 ≤ y ∧ y < 2 ^ 62) ∧ 0 ≤ z ∧ z ≤ (n : Nat) ∧ sp [v] (upd H1 b (.ext (boxP b n))) Q E0
    | _ => False) I h) fun us s1 ⟨vs, H1, I1, r, q⟩ => ⟨I1.kIn, ?_⟩) he hpl
  have hv : ∃ v, vs = [v] := by
    rcases vs with _ | ⟨v, _ | ⟨v2, r2⟩⟩
    · exact False.elim q
    · exact ⟨v, rfl⟩
    · exact False.elim q
  obtain ⟨v, rfl⟩ := hv
  obtain ⟨b, n, x, y, z, ev, h1, h2, h3, h4, h5, q⟩ := q
  exact run_G G hgd hr hb (box_close I1 h1 h2 h3 h4 h5) r q
def isSeq : D → Bool
  | .list _ => true
  | .tuple _ => true
  | _ => false
/-- repr of a list or a tuple -/
def dRepr : Op1 := fun x P => isSeq x = true ∧ x.canLay0 = true ∧ x.showable = true ∧ x.depth ≤ 60 ∧ x.shown.length ≤ sizeLine ∧ P (.str x.shown)
abbrev rReprD (K : PySem.W.Frag) : RN := fun xs H Q => ∃ x d, xs = [x] ∧ L2.Dp K H x d ∧ isSeq d = true ∧ d.canLay0 = true ∧ d.showable = true ∧ d.depth ≤ 60 ∧ d.shown.length ≤ sizeLine ∧ Q (.str d.shown) H
theorem call_reprD (hgd : X.A.guards = some []) (hu : X.A.units + 64 < cLine) : CallR X (.builtin "repr") (rReprD X.K) := by
  intro pins s σ H xs us Q I r h
  obtain ⟨x, d, rfl, hd, h0, h1, h2, h3, h4, q⟩ := h
  obtain ⟨v, eu, ru⟩ := vals1 r
  subst eu
  obtain ⟨as, rd⟩ := L2.Dp.reads I d x v hd ru
  have hnd := PyData.hasDict_of_canLay d h1
  have hx : ∃ b, x = .ref b := by
    cases hd <;> first | exact ⟨_, rfl⟩ | cases h0
  obtain ⟨b, rfl⟩ := hx
  cases ru
  exact repr_of_reads' rd h2 (fun z => by rw [hnd] at z; cases z) hgd (by omega) (fun _ _ z => z)
    (fun h' u tk keep => ⟨.str d.shown, H, I.kept (t' := tk) keep, ⟨u, rfl⟩, q⟩) h4
theorem e_repr {k : Nat} {A0 : Around} (hgd : A0.guards = some []) (hr : Room k X.A) (hg : Gl X "repr") (hm : X.mg "repr" = none) (ha : E2 X .bw a ma) (hA : X.A.guards = A0.guards := by rfl) (he : starEach [a] X.env = (false, eval a X.env) :: starEach [] X.env := by rfl) (hpl : (backTo pos (starEach [] X.env)).any (·.1) = false := by rfl) :
    E2 X .fz (.Call (.Name "repr" p) [a] [] pos) (m1 dRepr ma) := by
  refine e_f1 (call_reprD (hA.trans hgd) hr.units) ?_ hg hm PyProof.Rows.boot_repr ha (by decide) (by decide) he hpl
  rintro H F vx y P Q s rx ⟨h0, h1, h2, h3, h4, p⟩ hq
  exact ⟨vx, y, rfl, bw_l2 s h1 rx, h0, h1, h2, h3, h4, hq _ _ H F p (PAdv.refl s) (.str _)⟩
end
end TL
namespace TL
open PySem PySem.Spec PyProof.Rows L2
section
variable {X : Cx} {x : Str} {p pos : Pos} {a : Expr} {ma : EM}
theorem e_calBxG {P : Program} {w : World} {K : PySem.W.Frag} {mg : Str → Option Value} {base : Heap} {ar : Arguments} {ps : List Str} {k : Nat} {kr : Kd} {f : FM} (c : GCal P w K mg base x ar ps k kr f) (h1 : ps.length = 1) {A0 : Around} (hgd : A0.guards = some []) (hr : Room k X.A) (hg : Gl X x) (ha : E2 X .nw a ma) (hA : X.A.guards = A0.guards := by rfl)
    (hdb : (x == ("__debug__" : Str)) = false := by decide) (he : starEach [a] X.env = (false, eval a X.env) :: starEach [] X.env := by rfl) (hpl : (backTo pos (starEach [] X.env)).any (·.1) = false := by rfl)
    (hX : XEq P w K mg base X := by exact ⟨rfl, rfl, rfl, rfl, rfl⟩) :
    E2 X kr (.Call (.Name x p) [a] [] pos) (mCallBx f ma) := by
  obtain ⟨rfl, rfl, rfl, rfl, rfl⟩ := hX
  obtain ⟨fa, fd, q, b, s, F, G, g, bi⟩ := c.ex
  rw [h1] at G
  refine ⟨pe_weak (pe_callBxG G (hA.trans hgd) hr hg g F.kp bi ha.pe hdb he hpl) fun σ H Q ⟨A, τ, n, F, P, eK, R, hm, hq⟩ => tE_run eK R hm ?_⟩
  rintro d n1 v H1 F1 ⟨x, y, rfl, h1, h2, p⟩ a1 ⟨b, vs, xs, ex, rfl, hb0, hbF, hbl, hd⟩
  cases ex
  have ev : vs = [V.int x, V.int y, V.int 0] := dpAll_ints (ns := [x, y, 0]) (vs := vs) hd
  subst ev
  have R1 := R.step a1
  have sF : Same F1 (upd H1 b (.ext (boxP b 0))) := fun c o e => by rw [upd_ne (ne_of_none e hbF)]; exact R1.same c o e
  refine ⟨b, 0, x, y, 0, rfl, hbl, h1, h2, Int.le_refl 0, Int.le_refl 0, F1, [.box], 0, (some b, A.K), _, _, rfl, sF, ⟨⟨sF, fun c hc => ?_⟩, eK⟩, .cons ⟨b, rfl, rfl⟩ .nil, p, fun d n' v H' F' p' a' r' => ?_, fun _ _ _ _ _ _ z => False.elim z⟩
  · cases hc
    exact ⟨upd_same, hbF⟩
  · refine hq d n1 v H' F' p' (box_back R.box a1 hb0 a') (r'.h0 fun c e => ?_)
    · have : c ≠ b := fun z => by subst z; rw [upd_same] at e; cases e
      rw [upd_ne this] at e
      exact a1.none_back c e
end
theorem law_fnG {P : Program} {w : World} {K : PySem.W.Frag} {mg : Str → Option Value} {base : Heap} {k : Nat} {f : Addr} {fd : FuncData} {ps : List Str} {m : FM} (G : GOk P w K mg base k f fd ps (Pr K .fz 1 m))
    (h : ∀ ns : List Int, ns.length ≤ 63 → m [.d (.list (ns.map .int))] 0 (fun d _ => d = .bool true) fun _ _ => False) : GOk P w K mg base k f fd ps (spLaw K) := by
  refine G.weak fun vs H Q E ⟨a, ns, ev, hS, hl, hq⟩ => ?_
  subst ev
  refine ⟨H, [.d (.list (ns.map .int))], 0, (none, K), fun d _ => d = .bool true, fun _ _ => False, rfl, Same.refl H, ⟨⟨Same.refl H, fun _ z => nomatch z⟩, rfl⟩, .cons (.lst hS (ints_dpAll ns)) .nil, h ns hl, fun d n' v H' F' e _ r => ?_, fun _ _ _ _ _ _ z => False.elim z⟩
  subst e
  cases r
  exact hq H'
end TL
set_option Elab.async false
set_option linter.all false
set_option maxRecDepth 100000
set_option maxHeartbeats 4000000
namespace TL
variable [Mode]
open PySem PySem.Spec PyProof.Rows L2
/-! ### dicts made by a comprehension, keys ints or texts -/
def keyD : Key → D
  | .inl i => .int i
  | .inr x => .str x
def putD {κ : Type} [DecidableEq κ] (kvs : List (κ × D)) (k : κ) (d : D) : List (κ × D) :=
  if (kvs.any fun kv => decide (kv.1 = k)) = true then kvs.map (fun kv => if kv.1 = k then (kv.1, d) else kv) else kvs ++ [(k, d)]
def valD {κ : Type} [DecidableEq κ] (kvs : List (κ × D)) (k : κ) : Option D := (kvs.find? fun kv => decide (kv.1 = k)).map (·.2)
section
variable {κ : Type} [DecidableEq κ] {K : PySem.W.Frag} {F : Hp}
theorem KD.any {ws : List (κ × V)} {kvs : List (κ × D)} (h : KD K F ws kvs) (k : κ) : (ws.any fun kv => decide (kv.1 = k)) = (kvs.any fun kv => decide (kv.1 = k)) := by
  unfold KD at h
  induction h with
  | nil => rfl
  | cons a _ ih => simp [List.any_cons, ih, a.1]
theorem KD.len {ws : List (κ × V)} {kvs : List (κ × D)} (h : KD K F ws kvs) : ws.length = kvs.length := by
  unfold KD at h
  exact h.length
theorem KD.put {ws : List (κ × V)} {kvs : List (κ × D)} (h : KD K F ws kvs) (k : κ) {v : V} {d : D} (r : Dp K F v d) : KD K F (putK ws k v) (putD kvs k d) := by
  unfold putK putD
  rw [h.any k]
  split
  · rename_i q0
    clear q0
    unfold KD at h ⊢
    induction h with
    | nil => exact .nil
    | cons a _ ih =>
      rename_i p q l1 l2 hh
      refine .cons ?_ ih
      by_cases e : p.1 = k
      · have e' : q.1 = k := by rw [← a.1]; exact e
        simp [e, e', r]
      · have e' : ¬ q.1 = k := by rw [← a.1]; exact e
        simp [e, e']
        exact a
  · rename_i q0
    clear q0
    unfold KD at h ⊢
    induction h with
    | nil => exact .cons ⟨rfl, r⟩ .nil
    | cons a _ ih => exact .cons a ih
theorem KD.val {ws : List (κ × V)} {kvs : List (κ × D)} (h : KD K F ws kvs) (k : κ) {d : D} (e : valD kvs k = some d) : ∃ v, valV ws k = some v ∧ Dp K F v d := by
  unfold KD at h
  unfold valD at e
  unfold valV
  induction h with
  | nil => simp at e
  | cons a _ ih =>
    rename_i p q _ _ _
    by_cases z : p.1 = k
    · have z' : q.1 = k := by rw [← a.1]; exact z
      simp [z, z'] at e ⊢
      exact e ▸ a.2
    · have z' : ¬ q.1 = k := by rw [← a.1]; exact z
      simp [z, z'] at e ⊢
      simpa using ih (by simpa using e)
end
def dcD (g : GM) (c : CM) (mk mv : EM) (τw : Ev) : List D → List (Key × D) → Nat → (List (Key × D) → Nat → Prop) → Prop
  | [], acc, n, Q => Q acc n
  | x :: r, acc, n, Q => g x τw n fun τ1 n1 => c τ1 n1 fun b n2 => if b = true then mk τ1 n2 fun y n3 => mv τ1 n3 fun z n4 => ∃ k, y = keyD k ∧ acc.length < sizeLine ∧ dcD g c mk mv τw r (putD acc k z) n4 Q else dcD g c mk mv τw r acc n2 Q
structure DcI (A : Act) (bx : Bx) (n1 : Nat) (H1 F1 : Hp) (D0 : Addr) (acc : List (Key × D)) (n : Nat) (H F : Hp) : Prop where
  adv : Adv bx n1 n H1 F1 H F
  fr : F D0 = none
  at_ : ∃ ws, H D0 = some (.dK ws) ∧ KD A.K F ws acc
theorem DcI.step {A : Act} {bx : Bx} {n1 n n' : Nat} {H1 F1 H F H' F' : Hp} {D0 : Addr} {acc : List (Key × D)} (L : DcI A bx n1 H1 F1 D0 acc n H F) (ad : Adv bx n n' H F H' F') : DcI A bx n1 H1 F1 D0 acc n' H' F' := by
  obtain ⟨vs, h1, h2⟩ := L.at_
  have hb : ¬ Vol bx n D0 := L.adv.box.no h1 fun _ e => nomatch e
  refine ⟨L.adv.trans ad, ?_, vs, ad.keep D0 _ h1 hb, h2.mono (ad.fro L.adv.sub)⟩
  rw [ad.old D0 (by rw [h1]; exact fun z => nomatch z)]
  exact L.fr
theorem key_eq {K : PySem.W.Frag} {F : Hp} {v : V} {k : Key} (r : Dp K F v (keyD k)) : v = kV k := by
  cases k with
  | inl i => cases r; rfl
  | inr x => cases r; rfl
theorem dc_read {A : Act} {τ : Ev} {n1 : Nat} {σ : L2.St} {H1 F1 : Hp} {vs : List Nat} {J : It} {items : List D} {g : GM} {c : CM} {mk mv : EM} {ws : List Nat} {P : List (Key × D) → Nat → Prop} {Qd : Addr → Hp → Prop} (R : Rel A τ n1 σ H1 F1) (hw : ∀ i ∈ ws, i ∈ vs)
    (y : YH A.K J items A.bx n1 H1 F1) (h : dcD g c mk mv (wipeE τ vs) items [] n1 P)
    (hq : ∀ D0 acc n' H' F', H1 D0 = none → P acc n' → DcI A A.bx n1 H1 F1 D0 acc n' H' F' → Qd D0 H') :
    ∀ D0, H1 D0 = none → ∃ W : Nat → Nat → Hp → Prop, (∃ m, W 0 m (upd H1 D0 (.dK []))) ∧ ∀ i m H, W i m H →
  (J.stop i H ∧ Qd D0 H) ∨ (J.go i H ∧ ∃ Nx : Hp → Prop, (∀ H', Nx H' → ∃ m', m' < m ∧ W (i + 1) m' H') ∧ ∀ x H', J.yld i H x H' → tG A.K ws g x (L2.wipe σ vs) H' fun σ2 H2 => L2.wipe σ2 vs = L2.wipe σ vs ∧ tT A.K c σ2 H2 fun b H3 =>
    if b = true then tE A.K .fz mk σ2 H3 fun y H4 => tE A.K .fz mv σ2 H4 fun z H5 => ∃ kvs k, y = kV k ∧ H5 D0 = some (.dK kvs) ∧ kvs.length < sizeLine ∧ Nx (upd H5 D0 (.dK (putK kvs k z))) else Nx H3) := by
  intro D0 hD0
  have hF1 : F1 D0 = none := by
    cases e : F1 D0 with
    | none => rfl
    | some o => rw [R.same D0 o e] at hD0; cases hD0
  refine ⟨fun i m H => ∃ acc n F, m = items.length - i ∧ i ≤ items.length ∧ DcI A A.bx n1 H1 F1 D0 acc n H F ∧ dcD g c mk mv (wipeE τ vs) (items.drop i) acc n P, ⟨items.length, [], n1, F1, rfl, Nat.zero_le _, ⟨(PAdv.new' R.same hD0).adv R.box, hF1, [], upd_same, .nil⟩, by rw [List.drop_zero]; exact h⟩, ?_⟩
  rintro i m H ⟨acc, n, F, rfl, hi, L, q⟩
  obtain ⟨y1, y2⟩ := y i n H F L.adv
  by_cases hl : i < items.length
  · have ed : items.drop i = items[i] :: items.drop (i + 1) := List.drop_eq_getElem_cons hl
    rw [ed] at q
    obtain ⟨g1, g2⟩ := y1 items[i] (List.getElem?_eq_getElem hl)
    refine .inr ⟨g1, fun H' => ∃ acc n F, DcI A A.bx n1 H1 F1 D0 acc n H' F ∧ dcD g c mk mv (wipeE τ vs) (items.drop (i + 1)) acc n P, ?_, ?_⟩
    · rintro H' ⟨acc', n', F', L', q'⟩
      exact ⟨items.length - (i + 1), by omega, acc', n', F', rfl, hl, L', q'⟩
    · intro x H2 hy
      obtain ⟨F2, a2, d2⟩ := g2 x H2 hy
      have L2' := L.step (a2.adv (R.step L.adv).box)
      have R2 := (R.step L2'.adv).wipe vs
      refine ⟨A, wipeE τ vs, n, F2, _, items[i], rfl, R2, d2, q, fun τ3 n3 σ3 H3 F3 p3 R3 s3 a3 x3 => ⟨?_, ?_⟩⟩
      · rw [x3.1 vs hw]
        exact lc_read.wipe_wipe σ vs
      · have L3 := L2'.step a3
        refine tT_go rfl R3 p3 fun t n4 H4 F4 p4 a4 => ?_
        have L4 := L3.step a4
        cases t with
        | true =>
          rw [if_pos rfl] at p4 ⊢
          refine tE_run rfl (R3.step a4) p4 fun d n5 v H5 F5 p5 a5 r5 => ?_
          refine tE_run rfl ((R3.step a4).step a5) p5 fun d2 n6 v2 H6 F6 p6 a6 r6 => ?_
          obtain ⟨k, rfl, hz, p6⟩ := p6
          have L6 := (L4.step a5).step a6
          obtain ⟨ws6, h61, h62⟩ := L6.at_
          refine ⟨ws6, k, key_eq r5, h61, by rw [h62.len]; exact hz, putD acc k d2, n6, F6, ⟨⟨fun c o e hb => ?_, L6.adv.old, fun c o e => ?_, L6.adv.box.chg h61 (fun _ e => nomatch e) L6.fr, L6.adv.grow, L6.adv.new⟩, L6.fr, putK ws6 k v2, upd_same, h62.put k r6⟩, p6⟩
          · rw [upd_ne (ne_of_none e hD0)]; exact L6.adv.keep c o e hb
          · rw [upd_ne (ne_of_none e L6.fr)]; exact L6.adv.sub c o e
        | false =>
          rw [if_neg Bool.false_ne_true] at p4 ⊢
          exact ⟨acc, n4, F4, L4, p4⟩
  · have ei : i = items.length := by omega
    subst ei
    rw [List.drop_length] at q
    exact .inl ⟨y2 (Nat.le_refl _), hq D0 acc n H F hD0 q L⟩
section
variable {X : Cx} {K : PySem.W.Frag} {tg iter : Expr} {a b o kx vx : Expr} {ma mb mk mv : EM} {p pos tpos spos dpos : Pos} {kr : Kd} {x : Str}
/-- name = {k: v for ..} -/
def sSetDc (i : Nat) (mi : IM) (g : GM) (c : CM) (mk mv : EM) (vs : List Nat) : SM := fun E τ n => mi τ n fun items n1 => dcD g c mk mv (wipeE τ vs) items [] n1 fun kvs n2 => E.nx (τ.set i (some (.dk kvs))) n2
theorem p_setDc {i : Nat} {pos' : Pos} {ifs : List Expr} {scope : Scope} {own : List (Str × Nat)} {mi : IM} {g : GM} {c : CM} {ws : List Nat} (hN0 : X.N.Nodup) (hi0 : X.N[i]? = some x) (hx : Loc X.env.scope x) (hc : X.calm = true) (hN : X.N.Nodup) (hi : J2 X tg iter mi) (ok : BlkOk X.N X.env.scope scope own)
    (hg : ∀ (s : Shared) (H : Hp) (C : Addr) (cl : List (Str × Addr)) (fp : List Addr), G2 (X.blk s H scope (compEnvC scope cl C X.env) fp) ws tg g) (ht : ∀ (s : Shared) (H : Hp) (C : Addr) (cl : List (Str × Addr)) (fp : List Addr), C2 (X.blk s H scope (compEnvC scope cl C X.env) fp) ifs c)
    (hk : ∀ (s : Shared) (H : Hp) (C : Addr) (cl : List (Str × Addr)) (fp : List Addr), E2 (X.blk s H scope (compEnvC scope cl C X.env) fp) .fz kx mk)
    (hv : ∀ (s : Shared) (H : Hp) (C : Addr) (cl : List (Str × Addr)) (fp : List Addr), E2 (X.blk s H scope (compEnvC scope cl C X.env) fp) .fz vx mv) (hw : ∀ i ∈ ws, i ∈ own.map (·.2) := by decide) (hs : ∀ x, foldedSetIterable iter X.env x = pure x := by intro _; rfl)
    (hsw : swapsWith (.DictComp kx vx [⟨tg, iter, ifs, 0⟩] scope dpos) (some (.Name x pos')) pos.line X.env = pure false := by rfl)
    (hf : X.fn x = true ∨ X.env.scope.names.lookup x = some .local := by first | exact .inl rfl | exact .inr rfl | assumption) :
    P2 X kr (.Assign [.Name x pos'] (.DictComp kx vx [⟨tg, iter, ifs, 0⟩] scope dpos) pos) (sSetDc i mi g c mk mv (own.map (·.2))) := by
  refine ⟨fun Wx tk => ps_weak (ps_set hN0 hi0 hx (pe_dc (tk := tE X.K .fz mk) (tv := tE X.K .fz mv) (g := tG X.K ws g) (tt := tT X.K c) hc hN hi.pi ok (fun s H C cl fp => (hg s H C cl fp).pg) (fun s H C cl fp => (ht s H C cl fp).pt) (fun s H C cl fp => (hk s H C cl fp).pe) (fun s H C cl fp => (hv s H C cl fp).pe) hs) hsw hf)
    fun Dd σ H ⟨A, τ, n, F, E, eK, R, hm, e⟩ => ⟨A, τ, n, F, _, eK, R, hm, fun items n1 J H1 F1 p1 a1 yy => ?_⟩⟩
  have eK' : A.K = X.K := eK
  have := dc_read (Qd := fun D0 H' => Dd.nx (σ.set i (some (.ref D0))) H') (R.step a1) hw (eK'.symm ▸ yy) p1 fun D0 acc n' H' F' hD p' L => by
    obtain ⟨ws, h1, h2⟩ := L.at_
    have ad := a1.trans L.adv
    have sf : Same F' (upd F' D0 (.dK ws)) := fun c o z => by rw [upd_ne (ne_of_none z L.fr)]; exact z
    have hH : H D0 = none := a1.none_back D0 hD
    have ad2 : Adv A.bx n n' H F H' (upd F' D0 (.dK ws)) := by
      refine ⟨ad.keep, fun c hc => ?_, fun c o z => ?_, ad.box.frz h1 (fun _ e => nomatch e) L.fr, ad.grow, ad.new⟩
      · rw [upd_ne (fun z => by subst z; exact hc hH)]
        exact ad.old c hc
      · by_cases q : c = D0
        · subst q; rw [upd_same] at z; cases z; exact h1
        · rw [upd_ne q] at z; exact ad.sub c o z
    refine e.nx _ n' _ H' _ p' ((R.step ad2).setS (s := .dk acc) i ⟨D0, ws, rfl, upd_same, h2.mono sf⟩ fun z => by cases z) (ad2.fro R.same)
  rw [eK'] at this
  exact this
/-- d[k], d a dict at slot i -/
def mDgetK (i : Nat) (mb : EM) : EM := fun τ n Q => ∃ kvs, τ[i]? = some (some (.dk kvs)) ∧ mb τ n fun y n1 => ∃ k d, y = keyD k ∧ valD kvs k = some d ∧ Q d n1
theorem e_dgetK {k : Nat} {i : Nat} (hr : Room k X.A) (ho : PE X o (tVar i)) (hb : E2 X .fz b mb) (hs : NoSl b := by exact fun _ _ => rfl) : E2 X .fz (.Subscript o b pos) (mDgetK i mb) := by
  refine ⟨pe_weak (pe_dget (by have := hr.units; omega) ho hb.pe hs) fun σ H Q ⟨A, τ, n, F, P, eK, R, ⟨kvs, e, hm⟩, hq⟩ => ?_⟩
  obtain ⟨v, g1, c, ws, rfl, g2, g3⟩ := R.sl i _ e
  refine ⟨_, g1, tE_run eK R hm ?_⟩
  rintro y n1 vy H1 F1 ⟨k', d, rfl, hd, p⟩ a1 r1
  have R1 := R.step a1
  have fr := a1.fro R.same
  obtain ⟨v, hv, hdp⟩ := (g3.mono fr).val k' hd
  rw [eK] at hdp
  refine ⟨c, v, rfl, ?_, hq d n1 v H1 F1 p a1 hdp⟩
  rw [key_eq r1, ← hv]
  exact DGet.k (R1.same _ _ (fr _ _ g2))
end
end TL
set_option Elab.async false
set_option linter.all false
set_option maxRecDepth 100000
set_option maxHeartbeats 4000000
namespace TL
variable [Mode]
open PySem PySem.Spec PyProof.Rows L2
/-! ### [.. for .. for ..] -/
def in2D (g : GM) (c : CM) (me : EM) (τw : Ev) : List D → List D → Nat → (List D → Nat → Prop) → Prop
  | [], acc, n, Q => Q acc n
  | x :: r, acc, n, Q => g x τw n fun τ1 n1 => c τ1 n1 fun b n2 => if b = true then me τ1 n2 fun y n3 => acc.length < sizeLine ∧ in2D g c me τw r (acc ++ [y]) n3 Q else in2D g c me τw r acc n2 Q
def lc2D (g : GM) (c : CM) (mi : IM) (g1 : GM) (c1 : CM) (me : EM) (vs1 : List Nat) (τw : Ev) : List D → List D → Nat → (D → Nat → Prop) → Prop
  | [], acc, n, Q => Q (.list acc) n
  | x :: r, acc, n, Q => g x τw n fun τ1 n1 => c τ1 n1 fun b n2 => if b = true then mi τ1 n2 fun items1 n3 => in2D g1 c1 me (wipeE τ1 vs1) items1 acc n3 fun acc' n4 => lc2D g c mi g1 c1 me vs1 τw r acc' n4 Q else lc2D g c mi g1 c1 me vs1 τw r acc n2 Q
/-- a thing outside is changed -/
theorem Rel.aside {A : Act} {τ : Ev} {n : Nat} {σ : L2.St} {H F : Hp} {D0 : Addr} {o : HO} (R : Rel A τ n σ H F) (h0 : A.H0 D0 = none) (hF : F D0 = none) (hb : ¬ Vol A.bx n D0)
    (own : ∀ (i : Nat) (s : Sl) (b : Addr), τ[i]? = some (some s) → s.own = true → At s σ[i]? b → b ≠ D0) : Rel A τ n σ (L2.upd H D0 o) F := by
  refine ⟨R.ok, R.len, ⟨fun c u z x => ?_, R.adv.old, fun c u z => ?_, R.box.upd hb hF, R.adv.grow, R.adv.new⟩, fun i s e => ?_, R.dis⟩
  · rw [upd_ne (ne_of_none z h0)]; exact R.adv.keep c u z x
  · rw [upd_ne (ne_of_none z hF)]; exact R.adv.sub c u z
  · obtain ⟨v, e1, q⟩ := R.sl i s e
    refine ⟨v, e1, ?_⟩
    cases s with
    | ow xs =>
      obtain ⟨c, ws, rfl, g1, g2, g3, g4⟩ := q
      exact ⟨c, ws, rfl, g1, g2, by rw [upd_ne (own i _ c e rfl (.inl e1))]; exact g3, g4⟩
    | odk xs =>
      obtain ⟨c, ws, rfl, g1, g2, g3, g4⟩ := q
      exact ⟨c, ws, rfl, g1, g2, by rw [upd_ne (own i _ c e rfl (.inl e1))]; exact g3, g4⟩
    | odt xs =>
      obtain ⟨c, ws, rfl, g1, g2, g3, g4⟩ := q
      exact ⟨c, ws, rfl, g1, g2, by rw [upd_ne (own i _ c e rfl (.inl e1))]; exact g3, g4⟩
    | nl as xss =>
      obtain ⟨c, rfl, nd, g1, g2, g3, g4⟩ := q
      exact ⟨c, rfl, nd, g1, g2, by rw [upd_ne (own i _ c e rfl (.inl e1))]; exact g3, g4.imp fun b hb us zs p1 p2 p3 p4 => ⟨p1, p2, by rw [upd_ne (own i _ b e rfl (.inr hb))]; exact p3, p4⟩⟩
    | d x => exact q
    | box => exact q
    | raw x => exact q
    | dk x => exact q
    | dt x => exact q
theorem lc2_read {A : Act} {τ : Ev} {n1 : Nat} {σ : L2.St} {H1 F1 : Hp} {vs vs1 : List Nat} {J : It} {items : List D} {g g1 : GM} {c c1 : CM} {mi : IM} {me : EM} {ws ws1 : List Nat} {P : D → Nat → Prop} {Qd : Addr → Hp → Prop} (R : Rel A τ n1 σ H1 F1) (hw : ∀ i ∈ ws, i ∈ vs) (hw1 : ∀ i ∈ ws1, i ∈ vs1)
    (y : YH A.K J items A.bx n1 H1 F1) (h : lc2D g c mi g1 c1 me vs1 (wipeE τ vs) items [] n1 P)
    (hq : ∀ D0 acc n' H' F', H1 D0 = none → P (.list acc) n' → LcI A A.bx n1 H1 F1 D0 acc n' H' F' → Qd D0 H') :
    ∀ D0, H1 D0 = none → ∃ W : Nat → Nat → Hp → Prop, (∃ m, W 0 m (upd H1 D0 (.lst []))) ∧ ∀ i m H, W i m H →
  (J.stop i H ∧ Qd D0 H) ∨ (J.go i H ∧ ∃ Nx : Hp → Prop, (∀ H', Nx H' → ∃ m', m' < m ∧ W (i + 1) m' H') ∧ ∀ x H', J.yld i H x H' → tG A.K ws g x (L2.wipe σ vs) H' fun σ2 H2 => L2.wipe σ2 vs = L2.wipe σ vs ∧ tT A.K c σ2 H2 fun b H3 =>
    if b = true then tIF A.K mi σ2 H3 fun J1 H4 => ∃ W1 : Nat → Nat → Hp → Prop, (∃ m, W1 0 m H4) ∧ ∀ j k H, W1 j k H →
      (J1.stop j H ∧ Nx H) ∨ (J1.go j H ∧ ∃ Nx1 : Hp → Prop, (∀ H', Nx1 H' → ∃ k', k' < k ∧ W1 (j + 1) k' H') ∧ ∀ x H', J1.yld j H x H' → tG A.K ws1 g1 x (L2.wipe σ2 vs1) H' fun σ3 H5 => L2.wipe σ3 vs1 = L2.wipe σ2 vs1 ∧ tT A.K c1 σ3 H5 fun b H6 =>
        if b = true then tE A.K .fz me σ3 H6 fun y H7 => ∃ acc, H7 D0 = some (.lst acc) ∧ acc.length < sizeLine ∧ Nx1 (upd H7 D0 (.lst (acc ++ [y]))) else Nx1 H6)
    else Nx H3) := by
  intro D0 hD0
  have hF1 : F1 D0 = none := by
    cases e : F1 D0 with
    | none => rfl
    | some o => rw [R.same D0 o e] at hD0; cases hD0
  have hA0 : A.H0 D0 = none := R.h0some hD0
  refine ⟨fun i m H => ∃ acc n F, m = items.length - i ∧ i ≤ items.length ∧ LcI A A.bx n1 H1 F1 D0 acc n H F ∧ lc2D g c mi g1 c1 me vs1 (wipeE τ vs) (items.drop i) acc n P, ⟨items.length, [], n1, F1, rfl, Nat.zero_le _, ⟨(PAdv.new' R.same hD0).adv R.box, hF1, [], upd_same, .nil⟩, by rw [List.drop_zero]; exact h⟩, ?_⟩
  rintro i m H ⟨acc, n, F, rfl, hi, L, q⟩
  obtain ⟨y1, y2⟩ := y i n H F L.adv
  by_cases hl : i < items.length
  · have ed : items.drop i = items[i] :: items.drop (i + 1) := List.drop_eq_getElem_cons hl
    rw [ed] at q
    obtain ⟨g2, g3⟩ := y1 items[i] (List.getElem?_eq_getElem hl)
    refine .inr ⟨g2, fun H' => ∃ acc n F, LcI A A.bx n1 H1 F1 D0 acc n H' F ∧ lc2D g c mi g1 c1 me vs1 (wipeE τ vs) (items.drop (i + 1)) acc n P, ?_, ?_⟩
    · rintro H' ⟨acc', n', F', L', q'⟩
      exact ⟨items.length - (i + 1), by omega, acc', n', F', rfl, hl, L', q'⟩
    · intro x H2 hy
      obtain ⟨F2, a2, d2⟩ := g3 x H2 hy
      have L2' := L.step (a2.adv (R.step L.adv).box)
      have R2 := (R.step L2'.adv).wipe vs
      refine ⟨A, wipeE τ vs, n, F2, _, items[i], rfl, R2, d2, q, fun τ3 n3 σ3 H3 F3 p3 R3 s3 a3 x3 => ⟨?_, ?_⟩⟩
      · rw [x3.1 vs hw]
        exact lc_read.wipe_wipe σ vs
      · have L3 := L2'.step a3
        refine tT_go rfl R3 p3 fun t n4 H4 F4 p4 a4 => ?_
        have L4 := L3.step a4
        cases t with
        | true =>
          rw [if_pos rfl] at p4 ⊢
          refine ⟨A, τ3, n4, F4, _, rfl, R3.step a4, p4, fun items1 n5 J1 H5 F5 p5 a5 y5 => ?_⟩
          have L5 := L4.step a5
          have R5 := ((R3.step a4).step a5).wipe vs1
          have free : ∀ (k : Nat) (s : Sl) (b : Addr), (wipeE τ3 vs1)[k]? = some (some s) → s.own = true → At s (L2.wipe σ3 vs1)[k]? b → b ≠ D0 := by
            intro k s b e1 o1 e2 eb
            subst eb
            obtain ⟨f1, f2⟩ := wipeE_some e1
            have f3 := x3.2 k s f1 o1
            obtain ⟨f4, f5⟩ := wipeE_some f3
            have f6 : At s σ3[k]? b := by rwa [wipe_get f2] at e2
            have f7 : (L2.wipe σ3 vs)[k]? = σ3[k]? := wipe_get f5
            have f8 : At s σ[k]? b := by
              have z : L2.wipe σ3 vs = L2.wipe σ vs := by rw [x3.1 vs hw]; exact lc_read.wipe_wipe σ vs
              rw [z, wipe_get f5] at f7
              rw [f7]
              exact f6
            exact (R.own f4 o1 f8).2.2 hD0
          refine ⟨fun j k H => ∃ acc n F, k = items1.length - j ∧ j ≤ items1.length ∧ LcI A A.bx n1 H1 F1 D0 acc n H F ∧ Same F5 F ∧ Rel A (wipeE τ3 vs1) n (L2.wipe σ3 vs1) H F ∧ in2D g1 c1 me (wipeE τ3 vs1) (items1.drop j) acc n fun acc' n4 => lc2D g c mi g1 c1 me vs1 (wipeE τ vs) (items.drop (i + 1)) acc' n4 P,
            ⟨items1.length, acc, n5, F5, rfl, Nat.zero_le _, L5, Same.refl F5, R5, by rw [List.drop_zero]; exact p5⟩, ?_⟩
          rintro j k H6 ⟨acc6, n6, F6, rfl, hj, L6, s6, R6, q6⟩
          obtain ⟨z1, z2⟩ := y5 j H6 F6 s6 R6.same
          by_cases hl1 : j < items1.length
          · have ed1 : items1.drop j = items1[j] :: items1.drop (j + 1) := List.drop_eq_getElem_cons hl1
            rw [ed1] at q6
            obtain ⟨u1, u2⟩ := z1 items1[j] (List.getElem?_eq_getElem hl1)
            refine .inr ⟨u1, fun H' => ∃ acc n F, LcI A A.bx n1 H1 F1 D0 acc n H' F ∧ Same F5 F ∧ Rel A (wipeE τ3 vs1) n (L2.wipe σ3 vs1) H' F ∧ in2D g1 c1 me (wipeE τ3 vs1) (items1.drop (j + 1)) acc n fun acc' n4 => lc2D g c mi g1 c1 me vs1 (wipeE τ vs) (items.drop (i + 1)) acc' n4 P, ?_, ?_⟩
            · rintro H' ⟨acc', n', F', L', s', R', q'⟩
              exact ⟨items1.length - (j + 1), by omega, acc', n', F', rfl, hl1, L', s', R', q'⟩
            · intro x7 H7 hy7
              obtain ⟨F7, a7, d7⟩ := u2 x7 H7 hy7
              have b7 := a7.adv R6.box
              have L7 := L6.step b7
              have R7 := R6.step b7
              have s7 := s6.trans (b7.fro R6.same)
              refine ⟨A, _, n6, F7, _, items1[j], rfl, R7, d7, q6, fun τ8 n8 σ8 H8 F8 p8 R8 s8 a8 x8 => ⟨?_, ?_⟩⟩
              · rw [x8.1 vs1 hw1]
                exact lc_read.wipe_wipe σ3 vs1
              · have L8 := L7.step a8
                refine tT_go rfl R8 p8 fun t n9 H9 F9 p9 a9 => ?_
                have L9 := L8.step a9
                have R9 := (R7.step a8).step a9
                have s9 := (s7.trans (a8.fro R7.same)).trans (a9.fro (R7.step a8).same)
                cases t with
                | true =>
                  rw [if_pos rfl] at p9 ⊢
                  refine tE_run rfl (R8.step a9) p9 fun d n10 v H10 F10 p10 a10 r10 => ?_
                  obtain ⟨hz, p10⟩ := p10
                  have L10 := L9.step a10
                  have R10 := R9.step a10
                  have s10 := s9.trans (a10.fro R9.same)
                  obtain ⟨w10, h101, h102⟩ := L10.at_
                  have hbx : ¬ Vol A.bx n10 D0 := L10.adv.box.no h101 fun _ e => nomatch e
                  refine ⟨w10, h101, by rw [dpAll_len h102]; exact hz, acc6 ++ [d], n10, F10, ⟨⟨fun c o e hb => ?_, L10.adv.old, fun c o e => ?_, L10.adv.box.upd hbx L10.fr, L10.adv.grow, L10.adv.new⟩, L10.fr, w10 ++ [v], upd_same, dpAll_append h102 (.cons r10 .nil)⟩, s10, R10.aside hA0 L10.fr hbx free, p10⟩
                  · rw [upd_ne (ne_of_none e hD0)]; exact L10.adv.keep c o e hb
                  · rw [upd_ne (ne_of_none e L10.fr)]; exact L10.adv.sub c o e
                | false =>
                  rw [if_neg Bool.false_ne_true] at p9 ⊢
                  exact ⟨acc6, n9, F9, L9, s9, R9, p9⟩
          · have ej : j = items1.length := by omega
            subst ej
            rw [List.drop_length] at q6
            exact .inl ⟨z2 (Nat.le_refl _), acc6, n6, F6, L6, q6⟩
        | false =>
          rw [if_neg Bool.false_ne_true] at p4 ⊢
          exact ⟨acc, n4, F4, L4, p4⟩
  · have ei : i = items.length := by omega
    subst ei
    rw [List.drop_length] at q
    exact .inl ⟨y2 (Nat.le_refl _), hq D0 acc n H F hD0 q L⟩
def mLc2 (mi : IM) (g : GM) (c : CM) (mi1 : IM) (g1 : GM) (c1 : CM) (me : EM) (vs vs1 : List Nat) : EM := fun τ n Q => mi τ n fun items n1 => lc2D g c mi1 g1 c1 me vs1 (wipeE τ vs) items [] n1 Q
theorem e_lc2 {X : Cx} {pos : Pos} {elt tg iter tg1 iter1 : Expr} {ifs ifs1 : List Expr} {scope : Scope} {own : List (Str × Nat)} {vs1 : List Nat} {mi mi1 : IM} {g g1 : GM} {c c1 : CM} {me : EM} {ws ws1 : List Nat} (hc : X.calm = true) (hN : X.N.Nodup) (hi : J2 X tg iter mi) (ok : BlkOk X.N X.env.scope scope own)
    (hg : ∀ (s : Shared) (H : Hp) (C : Addr) (cl : List (Str × Addr)) (fp : List Addr),  G2 (X.blk s H scope (compEnvC scope cl C X.env) fp) ws tg g) (ht : ∀ (s : Shared) (H : Hp) (C : Addr) (cl : List (Str × Addr)) (fp : List Addr),  C2 (X.blk s H scope (compEnvC scope cl C X.env) fp) ifs c)
    (hi1 : ∀ (s : Shared) (H : Hp) (C : Addr) (cl : List (Str × Addr)) (fp : List Addr),  I2 (X.blk s H scope (compEnvC scope cl C X.env) fp) tg1 iter1 mi1)
    (hg1 : ∀ (s : Shared) (H : Hp) (C : Addr) (cl : List (Str × Addr)) (fp : List Addr),  G2 (X.blk s H scope (compEnvC scope cl C X.env) fp) ws1 tg1 g1) (ht1 : ∀ (s : Shared) (H : Hp) (C : Addr) (cl : List (Str × Addr)) (fp : List Addr),  C2 (X.blk s H scope (compEnvC scope cl C X.env) fp) ifs1 c1)
    (he : ∀ (s : Shared) (H : Hp) (C : Addr) (cl : List (Str × Addr)) (fp : List Addr),  E2 (X.blk s H scope (compEnvC scope cl C X.env) fp) .fz elt me) (hv : ∀ i ∈ vs1, i ∈ own.map (·.2) := by decide) (hw : ∀ i ∈ ws, i ∈ own.map (·.2) := by decide) (hw1 : ∀ i ∈ ws1, i ∈ vs1 := by decide)
    (hs : ∀ x, foldedSetIterable iter X.env x = pure x := by intro _; rfl) (hs1 : ∀ env x, foldedSetIterable iter1 env x = pure x := by intro _ _; rfl) :
    E2 X .nw (.ListComp elt [⟨tg, iter, ifs, 0⟩, ⟨tg1, iter1, ifs1, 0⟩] scope pos) (mLc2 mi g c mi1 g1 c1 me (own.map (·.2)) vs1) := by
  refine ⟨pe_weak (pe_lc2 (te := tE X.K .fz me) (g := tG X.K ws g) (tt := tT X.K c) (g1 := tG X.K ws1 g1) (tt1 := tT X.K c1) (wi1 := tIF X.K mi1) hc hN hi.pi ok hv (fun s H C cl fp => (hg s H C cl fp).pg) (fun s H C cl fp => (ht s H C cl fp).pt)
    (fun s H C cl fp => (hi1 s H C cl fp).pi) (fun s H C cl fp => (hg1 s H C cl fp).pg) (fun s H C cl fp => (ht1 s H C cl fp).pt) (fun s H C cl fp => (he s H C cl fp).pe) hs hs1) fun σ H Q ⟨A, τ, n, F, P, eK, R, hm, hq⟩ => ⟨A, τ, n, F, _, eK, R, hm, fun items n1 J H1 F1 p1 a1 y => ?_⟩⟩
  have eK' : A.K = X.K := eK
  have := lc2_read (Qd := fun D0 H' => Q (.ref D0) H') (R.step a1) hw hw1 (eK'.symm ▸ y) p1 fun D0 acc n' H' F' hD p' L => by
    obtain ⟨vs, h1, h2⟩ := L.at_
    exact hq _ n' _ H' F' p' (a1.trans L.adv) ⟨D0, vs, acc, rfl, rfl, a1.none_back D0 hD, L.fr, h1, eK' ▸ h2⟩
  rw [eK'] at this
  exact this
end TL
set_option Elab.async false
set_option linter.all false
set_option maxRecDepth 100000
set_option maxHeartbeats 4000000
/-! sorted: of pairs of ints; of a tuple of ints -/
namespace TL
variable [Mode]
open PySem PySem.Spec PyProof.Rows L2
section
variable {prog : Program} {w : World} {A : Around} {E : Value → Shared → Prop} {s : Shared}
theorem collect_tup {l : Addr} {vs : List Value} {Q : List Value → Shared → Prop} (hl : IsTup s.heap l vs.toArray)
    (h : Q vs { s with heap := (s.heap.push (seqObj "list" #[] 0)).update s.heap.objs.size (Obj.mapSeq (· ++ vs.toArray)) }) (hsz : vs.length ≤ sizeLine) :
    wpAny (model prog w) A (collect (.ref l)) Q E s := by
  obtain ⟨o, ho, hc, n, hd⟩ := id hl
  unfold collect
  refine wpAny_bind (wpAny_runValue (codeAny_builtin entry_proto_collect' ?_))
  show wpAny _ _ (do again (.builtin "list.__iadd__" ⟨[← newList [], .ref l], []⟩)) _ _ s
  refine wpAny_bind (wpAny_newList (wpAny_pure ⟨Code.quiet_builtin _ (by decide +kernel), codeAny_builtin entry_list_iadd' ?_⟩))
  show wpAny _ _ (Builtin.List.listExtendWith (.ref s.heap.objs.size) (.ref l) (.ref s.heap.objs.size)) _ _ { s with heap := s.heap.push (seqObj "list" #[] 0) }
  unfold Builtin.List.listExtendWith
  have ho' : (s.heap.push (seqObj "list" #[] 0)).get? l = some o := Heap.get?_push_of_some _ ho
  refine wpAny_bind (wpAny_typeOf (T := "tuple") ⟨o, ho', hc⟩ ?_)
  have ht : (Value.type "tuple" == Value.type "tuple") = true := by rfl
  rw [if_pos (by rw [ht]; simp)]
  refine wpAny_bind (listItems_at ho' hd ?_)
  refine wpAny_bind (listItems_at (xs := #[]) (n := 0) (Heap.get?_push_size _ rfl) rfl ?_)
  rw [if_neg (by simp)]
  refine wpAny_bind (listUpdate_at (xs := #[]) (n := 0) (Heap.get?_push_size _ rfl) rfl ?_ (Nat.zero_le _) (by show (#[] ++ vs.toArray).size ≤ sizeLine + 1; simp only [Array.size_append, List.size_toArray, List.length_nil]; omega))
  refine wpAny_pure ?_
  show wpAny (model prog w) A (do
      let o ← load s.heap.objs.size
      match o.data with
      | .seq xs _ => pure xs.toList
      | _ => unsupported "internal:collect") Q E { s with heap := (s.heap.push (seqObj "list" #[] 0)).update s.heap.objs.size (Obj.mapSeq (· ++ vs.toArray)) }
  refine wpAny_bind (wpAny_load (get?_update_seq (Heap.get?_push_size _ rfl) _) ?_)
  show wpAny _ _ (pure ((#[] : Array Value) ++ vs.toArray).toList) Q E _
  have e : ((#[] : Array Value) ++ vs.toArray).toList = vs := by simp
  rw [e]
  exact wpAny_pure h
theorem sorted_ordT {l : Addr} {vs : List Value} {ltv : Value → Value → Bool} {Q : Value → Shared → Prop} (O : SrtO.Swo ltv) (hl : IsTup s.heap l vs.toArray) (hz : vs.length ≤ sizeLine)
    (hS : 2 ≤ vs.length → ∀ (h₁ : Heap) (a : Addr), h₁.get? a = some (seqObj "list" vs.toArray 0) → (∀ b o, s.heap.get? b = some o → b ≠ a ∧ h₁.get? b = some o) → SrtO.SortableO prog w A.in1.in1 { s with heap := h₁ } a vs ltv)
    (h : ∀ out : List Value, SrtO.Srtd ltv out → SrtO.Stb ltv out vs → Q (.ref (s.heap.objs.size + 1)) { s with heap := PyProof.Rows.sortedAll s.heap vs out.toArray }) :
    wpAny (model prog w) A (call (.builtin "sorted") [.ref l]) Q E s := by
  refine Calls.call_function_entry PyProof.Rows.kind_sorted PyProof.Rows.plain_sorted PyProof.Rows.entry_sorted (PyProof.Rows.args_sorted1 _) ?_
  unfold Builtin.«sorted»
  refine wpAny_bind (m := checkCount "sorted" 1 1 _) (wpAny_pure ?_)
  refine wpAny_bind (collect_tup hl ?_ hz)
  refine wpAny_bind (wpAny_newList ?_ hz)
  have hsz : ((s.heap.push (seqObj "list" #[] 0)).update s.heap.objs.size (Obj.mapSeq (· ++ vs.toArray))).objs.size = s.heap.objs.size + 1 := by
    rw [Heap.size_update, Heap.size_push]
  have hoL : (((s.heap.push (seqObj "list" #[] 0)).update s.heap.objs.size (Obj.mapSeq (· ++ vs.toArray))).push (seqObj "list" vs.toArray 0)).get? (s.heap.objs.size + 1) = some (seqObj "list" vs.toArray 0) := by
    rw [← hsz]; exact Heap.get?_push_size _ rfl
  have keep : ∀ b o, s.heap.get? b = some o → b ≠ s.heap.objs.size + 1 ∧ (((s.heap.push (seqObj "list" #[] 0)).update s.heap.objs.size (Obj.mapSeq (· ++ vs.toArray))).push (seqObj "list" vs.toArray 0)).get? b = some o := fun b o q => by
    have hlt : b < s.heap.objs.size := Heap.lt_size q
    refine ⟨Nat.ne_of_lt (Nat.lt_succ_of_lt hlt), Heap.get?_push_of_some _ ?_⟩
    rw [Heap.get?_update_ne _ _ _ _ (Nat.ne_of_lt hlt)]
    exact Heap.get?_push_of_some _ q
  show wpAny _ _ _ _ _ { s with heap := ((s.heap.push (seqObj "list" #[] 0)).update s.heap.objs.size (Obj.mapSeq (· ++ vs.toArray))).push (seqObj "list" vs.toArray 0) }
  rw [hsz]
  refine wpAny_bind (wpAny_holding (wpAny_call_entry PyProof.Rows.slot_list_sort ⟨_, hoL, rfl⟩ PyProof.Rows.entry_list_sort (SrtO.list_sort_ord O hoL hz (fun h2 => hS h2 _ _ hoL keep) fun out hs hb => ⟨_, rfl, ?_⟩) (PyProof.Rows.args_list_sort _)))
  exact wpAny_pure ⟨_, rfl, h out hs hb⟩
end
/-- sorted(xs), a tuple of ints -/
def rSortedIT (K : PySem.W.Frag) : List V → Hp → VK → Prop := fun vs H Q => ∃ (a : Addr) (ns : List Int), vs = [V.ref a] ∧ SqT K H a (ns.map V.int) ∧ ∀ (ns' : List Int) (p : Addr), ns'.Perm ns → ns'.Pairwise (· ≤ ·) → H p = none → Q (.ref p) (upd H p (.lst (ns'.map V.int)))
/-- sorted(xs), a list of pairs of ints -/
def rSortedPS (K : PySem.W.Frag) : List V → Hp → VK → Prop := fun vs H Q => ∃ (a : Addr) (xs : List V) (ps : List (Int × Int)) (C : V → Int × Int → Prop), vs = [V.ref a] ∧ SqL K H a xs ∧ (Paired (fun x p => C x p ∧ ∃ t, x = V.ref t ∧ SqT K H t [.int p.1, .int p.2]) xs ps) ∧
  ∀ ys ps' p, Paired C ys ps' → ps'.Perm ps → ps'.Pairwise (fun p q => SrtO.lexB q p = false) → H p = none → Q (.ref p) (upd H p (.lst ys))
section
variable {X : Cx}
theorem cr_sortedIT : CallR X (.builtin "sorted") (rSortedIT X.K) := by
  intro pins s σ H vs us Q I r h
  obtain ⟨a, ns, rfl, hs, q⟩ := h
  obtain ⟨its, rv, hl, hz⟩ := I.tuple hs
  rw [Vals.ref1 r]
  have hi := rv.ints
  refine sorted_ordT SrtO.swo_int hl (by rw [← rv.length]; exact hz) (fun h2 h₁ a' _ _ => SrtO.ints_sortable hi h2) fun out h1 h2 => ?_
  obtain ⟨k1, k2, k3⟩ := SrtO.ints_out hi h1 h2
  obtain ⟨ep, he'⟩ := PyProof.Rows.sortedAll_at s.heap its out.toArray
  have hlen : ((out.map SrtO.iv).map V.int).length ≤ sizeLine := by
    rw [List.length_map, k2.length_eq]
    rw [List.length_map] at hz
    exact hz
  exact ⟨.ref _, upd H (s.heap.objs.size + 1) (.lst ((out.map SrtO.iv).map V.int)), I.laid (t' := s.toks) (fun _ _ => PyProof.Rows.sortedAll_old) (Nat.le_succ _) ⟨hlen, out, ep, vals_of_ints k1, he'⟩, rfl, q _ _ k2 k3 (I.hok.fresh (Nat.le_succ _))⟩
theorem paired_map {α β : Type} {R : α → β → Prop} (k : α → β) : ∀ {xs : List α} {ps : List β}, Paired R xs ps → (∀ x ∈ xs, ∀ p, R x p → p = k x) → ps = xs.map k
  | _, _, .nil, _ => rfl
  | _, _, .cons h r, f => by rw [List.map_cons, f _ (by simp) _ h, paired_map k r fun x hx => f x (List.mem_cons_of_mem _ hx)]
theorem map_paired {α β : Type} {R : α → β → Prop} (k : α → β) : ∀ {xs : List α}, (∀ x ∈ xs, R x (k x)) → Paired R xs (xs.map k)
  | [], _ => .nil
  | x :: xs, h => .cons (h x (by simp)) (map_paired k fun y hy => h y (List.mem_cons_of_mem _ hy))
theorem paired_mem {α β : Type} {R : α → β → Prop} : ∀ {xs : List α} {ps : List β}, Paired R xs ps → ∀ x ∈ xs, ∃ p, R x p
  | _, _, .nil, x, hx => by cases hx
  | _, _, .cons h r, x, hx => by
    rcases List.mem_cons.mp hx with rfl | hx
    · exact ⟨_, h⟩
    · exact paired_mem r x hx
open Classical in
theorem cr_sortedPS : CallR X (.builtin "sorted") (rSortedPS X.K) := by
  intro pins s σ H vs us Q I r h
  obtain ⟨a, xs, ps, C, rfl, hs, hx, q⟩ := h
  obtain ⟨its, rv, hl, hz⟩ := I.list hs
  obtain ⟨u, rfl, ru⟩ := vals1 r
  obtain rfl : u = Value.ref a := ru
  have fn : ∀ (x : V) (p p' : Int × Int), (∃ t, x = V.ref t ∧ SqT X.K H t [.int p.1, .int p.2]) → (∃ t, x = V.ref t ∧ SqT X.K H t [.int p'.1, .int p'.2]) → p = p' := by
    rintro x p p' ⟨t, e, h⟩ ⟨t', e', h'⟩
    rw [e] at e'
    cases e'
    have := I.tuple_inj h h'
    simp at this
    exact Prod.ext this.1 this.2
  let k : V → Int × Int := fun x => if z : ∃ p : Int × Int, ∃ t, x = V.ref t ∧ SqT X.K H t [.int p.1, .int p.2] then Classical.choose z else (0, 0)
  have hk : ∀ x ∈ xs, ∃ t, x = V.ref t ∧ SqT X.K H t [.int (k x).1, .int (k x).2] := fun x m => by
    obtain ⟨p, _, z⟩ := paired_mem hx x m
    have z : ∃ p : Int × Int, ∃ t, x = V.ref t ∧ SqT X.K H t [.int p.1, .int p.2] := ⟨p, z⟩
    have e : k x = Classical.choose z := dif_pos z
    rw [e]
    exact Classical.choose_spec z
  have hps : ps = xs.map k := paired_map k hx fun x m p hp => fn x p (k x) hp.2 (hk x m)
  have hC : ∀ x ∈ xs, C x (k x) := fun x m => by
    obtain ⟨p, hc, z⟩ := paired_mem hx x m
    rw [← fn x p (k x) z (hk x m)]
    exact hc
  obtain ⟨e1, e2⟩ := refs_back rv fun x m => by
    obtain ⟨t, e, _⟩ := hk x m
    exact ⟨t, e⟩
  refine SrtO.sorted_pairsO (k := fun u => k (backV u)) hl.isList (by rw [← rv.length]; exact hz) (fun v hv => ?_) fun h' d out h1 h2 kp hd hn => ?_
  · obtain ⟨t, rfl⟩ := e2 v hv
    have hm : V.ref t ∈ xs := by rw [e1]; exact List.mem_map.mpr ⟨_, hv, rfl⟩
    obtain ⟨t', e, ht⟩ := hk _ hm
    cases e
    obtain ⟨its2, r2, ⟨o, ho, hc, n, hd⟩, _⟩ := I.tuple ht
    obtain ⟨u1, u2, rfl, ri, rj⟩ := vals2 r2
    obtain ⟨t1, rfl⟩ := ri
    obtain ⟨t2, rfl⟩ := rj
    exact ⟨t, o, t1, t2, n, rfl, ho, hc, hd⟩
  · have h3 : ∀ u ∈ out, ∃ a, u = Value.ref a := fun u hu => e2 u (h2.perm.mem_iff.mp hu)
    obtain ⟨n, hn⟩ := hn
    have hb : SrtO.Stb (ltP k) (out.map backV) xs := by
      rw [e1]
      exact SrtO.Stb.map (ltP_swo k) backV h2
    have hsub : ∀ y ∈ out.map backV, y ∈ xs := fun y hy => hb.perm.mem_iff.mp hy
    refine ⟨.ref d, upd H d (.lst (out.map backV)), I.laid (t' := s.toks) kp hd ⟨?_, out, n, vals_back h3, hn⟩, rfl, q _ ((out.map backV).map k) d (map_paired k fun y hy => hC y (hsub y hy)) ?_ ?_ (I.hok.fresh hd)⟩
    · rw [hb.len]
      exact hz
    · rw [hps]
      exact hb.perm.map k
    · rw [List.pairwise_map]
      exact SrtO.srtd_map h1
end
/-! ### over data -/
def intP (p : Int × Int) : D := .tuple [.int p.1, .int p.2]
def dSortT : Op1 := fun x P => ∃ ns : List Int, x = .tuple (ns.map .int) ∧ ∀ ns' : List Int, ns'.Perm ns → ns'.Pairwise (· ≤ ·) → P (.list (ns'.map .int))
def dSortP : Op1 := fun x P => ∃ ps : List (Int × Int), x = .list (ps.map intP) ∧ ∀ ps' : List (Int × Int), ps'.Perm ps → ps'.Pairwise (fun p q => SrtO.lexB q p = false) → P (.list (ps'.map intP))
section
variable {X : Cx} {K : PySem.W.Frag} {a : Expr} {ma : EM} {p pos : Pos}
theorem does_sortT : DoesF K .nw dSortT (rSortedIT K) := by
  rintro H F vx x P Q s rx ⟨ns, rfl, p⟩ hq
  obtain ⟨l, vs, rfl, h1, h2⟩ := bw_tup s rx
  rw [dpAll_ints h2] at h1
  refine ⟨l, ns, rfl, h1, fun ns' q g1 g2 hp => ?_⟩
  obtain ⟨b1, b2⟩ := new_nw s hp (ints_dpAll (K := K) (F := F) ns')
  exact hq _ _ _ _ (p ns' g1 g2) b1 b2
theorem pairs_dpAll {F H : Hp} (s : Same F H) : ∀ {ps : List (Int × Int)} {vs : List V}, DpAll K F vs (ps.map intP) → Paired (fun x p => Dp K F x (intP p) ∧ ∃ t, x = V.ref t ∧ SqT K H t [.int p.1, .int p.2]) vs ps
  | [], _, h => by cases h; exact .nil
  | p :: ps, _, h => by
    cases h with
    | cons h1 h2 =>
      refine .cons ⟨h1, ?_⟩ (pairs_dpAll s h2)
      cases h1 with
      | tup hs ha =>
        have := dpAll_ints (ns := [p.1, p.2]) ha
        rw [this] at hs
        exact ⟨_, rfl, seqT s hs.sq⟩
theorem paired_dpAll {F : Hp} : ∀ {ps : List (Int × Int)} {vs : List V}, Paired (fun x p => Dp K F x (intP p)) vs ps → DpAll K F vs (ps.map intP)
  | _, _, .nil => .nil
  | _, _, .cons h r => .cons h (paired_dpAll r)
theorem does_sortP : DoesF K .nw dSortP (rSortedPS K) := by
  rintro H F vx x P Q s rx ⟨ps, rfl, p⟩ hq
  obtain ⟨l, vs, rfl, h1, h2⟩ := bw_list s rx
  refine ⟨l, vs, ps, _, rfl, h1, pairs_dpAll s h2, fun ys ps' q g1 g2 g3 hp => ?_⟩
  obtain ⟨b1, b2⟩ := new_nw s hp (paired_dpAll g1)
  exact hq _ _ _ _ (p ps' g2 g3) b1 b2
def dSort : Op1 := fun x P => dSortI x P ∨ dSortP x P ∨ dSortT x P
theorem does_sort : DoesF K .nw dSort (fun xs H Q => rSortedI K xs H Q ∨ rSortedPS K xs H Q ∨ rSortedIT K xs H Q) := by
  rintro H F vx x P Q s rx (h | h | h) hq
  · exact .inl (does_sortI H F vx x P Q s rx h hq)
  · exact .inr (.inl (does_sortP H F vx x P Q s rx h hq))
  · exact .inr (.inr (does_sortT H F vx x P Q s rx h hq))
theorem e_sort (ha : E2 X .bw a ma) (hg : Gl X "sorted") (hm : X.mg "sorted" = none) (he : starEach [a] X.env = (false, eval a X.env) :: starEach [] X.env := by rfl) (hpl : (backTo pos (starEach [] X.env)).any (·.1) = false := by rfl) : E2 X .nw (.Call (.Name "sorted" p) [a] [] pos) (m1 dSort ma) :=
  e_f1 (cr_sortedI.or (cr_sortedPS.or cr_sortedIT)) does_sort hg hm PyProof.Rows.boot_sorted ha (by decide) (by decide) he hpl
end
end TL
set_option Elab.async false
set_option linter.all false
set_option maxRecDepth 100000
set_option maxHeartbeats 4000000
/-! sum of a tuple; never, by hand -/
namespace TL
variable [Mode]
open PySem PySem.Spec PyProof.Rows L2
section
variable {X : Cx} {K : PySem.W.Frag} {a : Expr} {ma : EM} {p pos : Pos}
def rSumT (K : PySem.W.Frag) : List V → Hp → VK → Prop := fun vs H Q => ∃ (a : Addr) (ns : List Int), vs = [V.ref a] ∧ SqT K H a (ns.map V.int) ∧ Q (.int ns.sum) H
theorem cr_sumT (hc : X.calm = true) : CallR X (.builtin "sum") (rSumT X.K) := by
  intro pins s σ H vs us Q I r h
  obtain ⟨a, ns, rfl, hs, q⟩ := h
  obtain ⟨its, rv, hl, _⟩ := I.tuple hs
  rw [Vals.ref1 r]
  obtain ⟨xs, e⟩ := rv.ints.allInts.items
  have hn : numsOf (intItems xs).toList = ns := by rw [← e]; exact rv.ints.numsOf
  rw [nums_intItems] at hn
  rw [e] at hl
  refine PySem.W.ktm_sumG (I.ok.hd hc) hl fun h' tk t' hk => ?_
  rw [preSum_eq, List.take_of_length_le (by simp), hn]
  exact ⟨.int _, H, I.kept hk, ⟨_, rfl⟩, q⟩
def dSumT : Op1 := fun x P => ∃ ns : List Int, x = .tuple (ns.map .int) ∧ P (.int ns.sum)
theorem does_sumT : DoesF K .fz dSumT (rSumT K) := by
  rintro H F vx x P Q s rx ⟨ns, rfl, p⟩ hq
  obtain ⟨l, vs, rfl, h1, h2⟩ := bw_tup s rx
  rw [dpAll_ints h2] at h1
  exact ⟨l, ns, rfl, h1, hq _ _ H F p (PAdv.refl s) (.int _)⟩
def dSumA : Op1 := fun x P => dSum x P ∨ dSumT x P
theorem does_sumA : DoesF K .fz dSumA (fun xs H Q => rSum K xs H Q ∨ rSumT K xs H Q) := by
  rintro H F vx x P Q s rx (h | h) hq
  · exact .inl (does_sum H F vx x P Q s rx h hq)
  · exact .inr (does_sumT H F vx x P Q s rx h hq)
theorem e_sumA (hc : X.calm = true) (ha : E2 X .bw a ma) (hg : Gl X "sum") (hm : X.mg "sum" = none) (he : starEach [a] X.env = (false, eval a X.env) :: starEach [] X.env := by rfl) (hpl : (backTo pos (starEach [] X.env)).any (·.1) = false := by rfl) : E2 X .fz (.Call (.Name "sum" p) [a] [] pos) (m1 dSumA ma) :=
  e_f1 ((cr_sum hc).or (cr_sumT hc)) does_sumA hg hm PyProof.Rows.boot_sum ha (by decide) (by decide) he hpl
end
/-! ### never -/
abbrev NvR := List (Int × Int)
def nvP (p : Int × Int) : D := .tuple [.int p.1, .int p.2]
def nvD (l : NvR) : D := .tuple (l.map nvP)
def nvG (l : NvR) (j : Nat) : Int × Int := l.getD j (0, 0)
/-- the bar and the list of one's row in the table, k behind it looked at -/
def nvF (l : NvR) (i : Nat) : Nat → Int × List Nat
  | 0 => ((nvG l i).1 + (nvG l i).2, [])
  | k + 1 => if (nvG l (i + 1 + k)).1 ≤ (nvF l i k).1 then ((nvF l i k).1 + (nvG l (i + 1 + k)).2, (nvF l i k).2 ++ [i + 1 + k]) else nvF l i k
def nvT (l : NvR) : List (List Nat) := (List.range l.length).map fun i => (nvF l i (l.length - (i + 1))).2
def nvTD (l : NvR) : D := .list ((nvT l).map fun xs => .list (xs.map fun j => .int (j : Nat)))
def fNever : FM := fun as n P _ => ∃ l : NvR, as = [.d (nvD l)] ∧ l.length ≤ 1000 ∧ P (nvTD l) n
def natV (j : Nat) : V := .int (j : Nat)
abbrev nvN : List Str := ["row", "found", "one", "places", "bar", "other", "beast"]
def tNever (K : PySem.W.Frag) : TS :=
  tSeq (tAsg (tLc (iTup K (tVar 0)) (gName 6) tYes (tLst tNil) [6]) (gName 1))
    (tSeq (tFor (iEnum K (tCons (tVar 1) tNil)) (gTup K 2 (gCons (gName 2) (gCons (gName 3) gNil)))
      (tSeq (tAsg (tE K .fz (m1 dSumA (m2 dIx (mVar 0) (mVar 2)))) (gName 4))
        (tFor (iRng2 (tD K (aCons (m2 dAdd (mVar 2) (mC (.int 1))) (aCons (m1 dLen (mVar 0)) aNil)))) (gName 5)
          (tIfS (tT K (mT (m2 dLe (m2 dIx (m2 dIx (mVar 0) (mVar 5)) (mC (.int 0))) (mVar 4))))
            (tSeq (tDrop (tBM K "list" rAppend (tVar 3) (tD K (aCons (mVar 5) aNil)))) (tAug 4 (tE K .fz (m2 dIx (m2 dIx (mVar 0) (mVar 5)) (mC (.int 1)))) (rI0 fun i j => .int (i + j)))) tNext))))
      (tRet (tVar 1)))
def NoOwn (τ : Ev) : Prop := ∀ (i : Nat) (s : Sl), τ[i]? = some (some s) → s.own = false
theorem noOwn_of {τ : Ev} (h : (τ.all fun o => match o with | some s => !s.own | none => true) = true) : NoOwn τ := fun i s e => by
  have := List.all_eq_true.mp h (some s) (List.mem_of_getElem? e)
  simpa using this
/-- the table under way -/
structure NvS (A : Act) (D0 : Addr) (cs : List Addr) (tabs : List (List Nat)) (n : Nat) (τ : Ev) (σ : L2.St) (H F : Hp) : Prop where
  rel : Rel A τ n σ H F
  own : NoOwn τ
  cell : H D0 = some (.lst (cs.map .ref))
  cells : ∀ (j : Nat) (c : Addr), cs[j]? = some c → ∃ tb, tabs[j]? = some tb ∧ H c = some (.lst (tb.map natV))
  nd : (D0 :: cs).Nodup
  len : tabs.length = cs.length
  new : ∀ c ∈ D0 :: cs, F c = none ∧ A.H0 c = none
theorem Rel.updNew {A : Act} {τ : Ev} {n : Nat} {σ : L2.St} {H F : Hp} (R : Rel A τ n σ H F) (hτ : NoOwn τ) {c : Addr} {o u : HO} (h : H c = some u) (hu : ¬ Vol A.bx n c) (hf : F c = none) (h0 : A.H0 c = none) : Rel A τ n σ (L2.upd H c o) F := by
  refine ⟨R.ok, R.len, ⟨fun b v z x => ?_, R.adv.old, fun b v z => ?_, R.box.upd hu hf, R.adv.grow, R.adv.new⟩, fun i s e => ?_, fun i j a s s' hij e1 o1 _ _ _ => absurd o1 (by rw [hτ i s e1]; decide)⟩
  · rw [upd_ne (ne_of_none z h0)]; exact R.adv.keep b v z x
  · rw [upd_ne (ne_of_none z hf)]; exact R.same b v z
  · obtain ⟨v, g1, g2⟩ := R.sl i s e
    refine ⟨v, g1, ?_⟩
    have := hτ i s e
    cases s <;> first | exact g2 | cases this
section
variable {A : Act} {D0 : Addr} {cs : List Addr} {tabs : List (List Nat)} {n n' : Nat} {τ : Ev} {σ : L2.St} {H F H' F' : Hp}
theorem NvS.bx (N : NvS A D0 cs tabs n τ σ H F) : ∀ c ∈ D0 :: cs, ¬ Vol A.bx n c := fun c hc z => by
  obtain ⟨φ, h1⟩ := N.rel.box.at_ z
  rcases List.mem_cons.mp hc with rfl | hc
  · rw [N.cell] at h1; cases h1
  · obtain ⟨j, hj, e⟩ := List.mem_iff_getElem.mp hc
    obtain ⟨tb, _, h2⟩ := N.cells j c (by rw [← e]; exact List.getElem?_eq_getElem hj)
    rw [h2] at h1; cases h1
theorem NvS.adv (N : NvS A D0 cs tabs n τ σ H F) (a : Adv A.bx n n' H F H' F') : NvS A D0 cs tabs n' τ σ H' F' := by
  have hk : ∀ c ∈ D0 :: cs, H c ≠ none := fun c hc => by
    rcases List.mem_cons.mp hc with rfl | hc
    · rw [N.cell]; exact fun z => nomatch z
    · obtain ⟨j, hj, e⟩ := List.mem_iff_getElem.mp hc
      obtain ⟨tb, _, h2⟩ := N.cells j c (by rw [← e]; exact List.getElem?_eq_getElem hj)
      rw [h2]; exact fun z => nomatch z
  refine ⟨N.rel.step a, N.own, a.keep D0 _ N.cell (N.bx D0 (by simp)), fun j c e => ?_, N.nd, N.len, fun c hc => ⟨?_, (N.new c hc).2⟩⟩
  · obtain ⟨tb, h1, h2⟩ := N.cells j c e
    exact ⟨tb, h1, a.keep c _ h2 (N.bx c (by simp [List.mem_of_getElem? e]))⟩
  · rw [a.old c (hk c hc)]
    exact (N.new c hc).1
theorem NvS.set (N : NvS A D0 cs tabs n τ σ H F) (i : Nat) {s : Sl} {v : V} (hs : s.own = false) (h : SlOk A H F s v) : NvS A D0 cs tabs n (τ.set i (some s)) (σ.set i (some v)) H F := by
  refine ⟨N.rel.setS i h (fun z => absurd z (by rw [hs]; decide)), fun j s' e => ?_, N.cell, N.cells, N.nd, N.len, N.new⟩
  by_cases z : j = i
  · subst z
    have hj : j < τ.length := by
      have := (List.getElem?_eq_some_iff.mp e).1
      rwa [List.length_set] at this
    rw [List.getElem?_set_self hj] at e
    cases e
    exact hs
  · rw [List.getElem?_set_ne (Ne.symm z)] at e
    exact N.own j s' e
theorem NvS.app (N : NvS A D0 cs tabs n τ σ H F) {i : Nat} {c : Addr} {tb : List Nat} (hc : cs[i]? = some c) : NvS A D0 cs (tabs.set i tb) n τ σ (upd H c (.lst (tb.map natV))) F := by
  have hm : c ∈ cs := List.mem_of_getElem? hc
  obtain ⟨tb0, ht, h2⟩ := N.cells i c hc
  have hD : D0 ≠ c := fun e => by
    have := N.nd
    rw [List.nodup_cons] at this
    exact this.1 (e ▸ hm)
  have hnd : cs.Nodup := (List.nodup_cons.mp N.nd).2
  have hn := N.new c (by simp [hm])
  have hil : i < tabs.length := (List.getElem?_eq_some_iff.mp ht).1
  refine ⟨N.rel.updNew N.own h2 (N.bx c (by simp [hm])) hn.1 hn.2, N.own, by rw [upd_ne hD]; exact N.cell, fun j c' e => ?_, N.nd, by rw [List.length_set]; exact N.len, N.new⟩
  by_cases z : j = i
  · subst z
    rw [hc] at e
    cases e
    exact ⟨tb, List.getElem?_set_self hil, upd_same⟩
  · obtain ⟨tb1, h3, h4⟩ := N.cells j c' e
    refine ⟨tb1, by rw [List.getElem?_set_ne (Ne.symm z)]; exact h3, ?_⟩
    rw [upd_ne]
    · exact h4
    · intro q
      subst q
      obtain ⟨g1, g2⟩ := List.getElem?_eq_some_iff.mp e
      obtain ⟨g3, g4⟩ := List.getElem?_eq_some_iff.mp hc
      have pw := List.pairwise_iff_getElem.mp hnd
      rcases Nat.lt_or_gt_of_ne z with q | q
      · exact pw j i g1 g3 q (by rw [g2, g4])
      · exact pw i j g3 g1 q (by rw [g2, g4])
end
theorem nv_freeze {K : PySem.W.Frag} {F' : Hp} : ∀ (cs : List Addr) (tabs : List (List Nat)), tabs.length = cs.length → (∀ (j : Nat) (c : Addr), cs[j]? = some c → ∃ tb, tabs[j]? = some tb ∧ F' c = some (.lst (tb.map natV))) → DpAll K F' (cs.map .ref) (tabs.map fun xs => .list (xs.map fun j => .int (j : Nat)))
  | [], [], _, _ => .nil
  | [], _ :: _, h, _ => by simp at h
  | _ :: _, [], h, _ => by simp at h
  | c :: cs, tb :: tabs, h, hc => by
    obtain ⟨tb', e, hf⟩ := hc 0 c rfl
    cases e
    refine .cons (.lst (.inl (.inl hf)) ?_) (nv_freeze cs tabs (by simpa using h) fun j c' e => hc (j + 1) c' (by simpa using e))
    have := ints_dpAll (K := K) (F := F') (tb.map fun j => ((j : Nat) : Int))
    rw [show natV = fun j => V.int ((j : Nat) : Int) from rfl]
    simpa [Function.comp_def] using this
theorem nv_fresh {H0 H' : Hp} : ∀ (cs : List Addr) (tabs : List (List Nat)), tabs.length = cs.length → cs.Nodup → (∀ c ∈ cs, H0 c = none) → (∀ (j : Nat) (c : Addr), cs[j]? = some c → ∃ tb, tabs[j]? = some tb ∧ H' c = some (.lst (tb.map natV))) → FrA (FrT H0 H' 1) (cs.map .ref) (tabs.map fun xs => .list (xs.map fun j => .int (j : Nat))) cs
  | [], [], _, _, _, _ => rfl
  | [], _ :: _, h, _, _, _ => by simp at h
  | _ :: _, [], h, _, _, _ => by simp at h
  | c :: cs, tb :: tabs, h, nd, h0, hc => by
    obtain ⟨tb', e, hf⟩ := hc 0 c rfl
    cases e
    have nd' := List.nodup_cons.mp nd
    refine ⟨[c], cs, rfl, ⟨c, tb.map natV, tb.map fun j => .int (j : Nat), [], rfl, rfl, h0 c (by simp), .inl ⟨rfl, hf⟩, by simp, ?_⟩, nv_fresh cs tabs (by simpa using h) nd'.2 (fun c hc => h0 c (List.mem_cons_of_mem _ hc)) fun j c' e => hc (j + 1) c' (by simpa using e), fun a ha => by rw [List.mem_singleton.mp ha]; exact nd'.1⟩
    have z : ∀ {vs : List V} {ds : List D}, vs.length = ds.length → FrA (FrT H0 H' 0) vs ds [] := by
      intro vs
      induction vs with
      | nil => intro ds hl; cases ds with
        | nil => exact rfl
        | cons => simp at hl
      | cons v vs ih => intro ds hl; cases ds with
        | nil => simp at hl
        | cons d ds => exact ⟨[], [], rfl, rfl, ih (by simpa using hl), fun _ z => by cases z⟩
    exact z (by simp)
section
variable {P : Program} {w : World} {K : PySem.W.Frag} {mg : Str → Option Value} {base : Heap}
theorem ok_never {st : Stmt} {qual name : Str} {f : Addr} {fd : FuncData} {k : Nat} (F : FunD K name qual (defArgs st) (defBody st) (defScope st) [] [] f fd) (S : FnScope nvN ["row"] (defScope st))
    (hder : ∀ (cdv : Value) (A : Around) (outer : List Env) (s : Shared) (H : Hp) (E : XK), Room k (A.deeper (envOfC qual (defScope st) s.heap.objs.size f cdv)) → ∃ X, X = (cxOf CX0 P w K mg base nvN qual (defScope st) f cdv A outer s H E).nox ∧ PSs X (defBody st) (tNever K)) :
    FnOk P w K mg base CX0 (k + 1) f fd ["row"] (Pr K (.nn 2) 1 fNever) := by
  refine F.ok S (fun vs H Q E h => Pr.len vs H Q E h) fun cdv A outer s H vs Q E hr h => ?_
  obtain ⟨X, rfl, hd⟩ := hder cdv A outer s H E hr
  refine ⟨_, hd.nox, ?_⟩
  obtain ⟨F0, as, n, bx, P', PX, hl, sm, hb, hp, ⟨l, rfl, hl2, hP⟩, hq, hx⟩ := h
  have R := start_rel (N := nvN) sm hb hp
  obtain ⟨v0, e0, d0⟩ := R.sl 0 (.d (nvD l)) rfl
  cases d0 with
  | @tup a xs _ hs' ha =>
    have hs : SqT K F0 a xs := hs'.sq
    have hxl : xs.length = l.length := by rw [dpAll_len ha, List.length_map]
    have z20 : 2 ^ 20 ≤ sizeLine := by decide
    refine ⟨.ref a, e0, a, rfl, ⟨xs, seqT sm hs⟩, fun D0 hD0 => ?_⟩
    refine lc_it (walk_tup (K := K) (a := a) (xs := xs)) (fun i H' => ∃ cs : List Addr, cs.length = i ∧ H' D0 = some (.lst (cs.map .ref)) ∧ (∀ c ∈ cs, H' c = some (.lst [])) ∧ (D0 :: cs).Nodup ∧ (∀ c ∈ cs, H c = none) ∧ Same H H')
      ⟨[], rfl, upd_same, (fun _ z => nomatch z), List.nodup_cons.mpr ⟨(fun z => nomatch z), List.nodup_nil⟩, (fun _ z => nomatch z), (fun c o z => by rw [upd_ne (ne_of_none z hD0)]; exact z)⟩ (fun i H' _ ⟨cs, _, _, _, _, _, q⟩ => seqT (sm.trans q) hs) ?_ ?_
    · rintro i x H1 H2 hi ⟨cs, g1, g2, g3, g4, g5, g6⟩ ⟨rfl, hx⟩
      refine ⟨?_, ?_⟩
      · rw [wipe_set (by simp)]
        exact lc_read.wipe_wipe _ _
      · dsimp only [tYes]
        rw [if_pos rfl]
        refine ⟨Nat.zero_le _, fun q hq => ?_⟩
        have hDq : D0 ≠ q := fun e => by subst e; rw [hq] at g2; cases g2
        have hcq : ∀ c ∈ cs, c ≠ q := fun c hc e => by subst e; have := g3 c hc; rw [hq] at this; cases this
        refine ⟨cs.map .ref, by rw [upd_ne hDq]; exact g2, by simp; omega, cs ++ [q], by simp [g1], by rw [upd_same]; simp, fun c hc => ?_, ?_, fun c hc => ?_, fun c o z => ?_⟩
        · have hcD : c ≠ D0 := fun e => by
            subst e
            rcases List.mem_append.mp hc with hc | hc
            · rw [List.nodup_cons] at g4; exact g4.1 hc
            · exact hDq (by simpa using hc)
          rw [upd_ne hcD]
          rcases List.mem_append.mp hc with hc | hc
          · rw [upd_ne (hcq c hc)]; exact g3 c hc
          · have : c = q := by simpa using hc
            subst this
            exact upd_same
        · rw [List.nodup_cons] at g4 ⊢
          refine ⟨fun z => ?_, ?_⟩
          · rcases List.mem_append.mp z with z | z
            · exact g4.1 z
            · exact hDq (by simpa using z)
          · rw [List.nodup_append]
            exact ⟨g4.2, by simp, fun c hc b hb e => hcq c hc (by rw [e]; simpa using hb)⟩
        · rcases List.mem_append.mp hc with hc | hc
          · exact g5 c hc
          · have : c = q := by simpa using hc
            subst this
            cases z : H c with
            | none => rfl
            | some o => rw [g6 c o z] at hq; cases hq
        · rw [upd_ne (ne_of_none z hD0), upd_ne (fun e => by subst e; rw [g6 c o z] at hq; cases hq)]
          exact g6 c o z
    · rintro H1 ⟨cs, g1, g2, g3, g4, g5, g6⟩
      have hF0 : ∀ c, H c = none → F0 c = none := fun c z => by
        cases e : F0 c with
        | none => rfl
        | some o => rw [sm c o e] at z; cases z
      have N0 : NvS ⟨K, H, F0, bx, n⟩ D0 cs (List.replicate l.length []) n (startE 7 [.d (nvD l)]) (L2.start nvN vs) H1 F0 := by
        refine ⟨R.step (PAdv.adv ⟨g6, fun _ _ => rfl, sm.trans g6⟩ R.box), noOwn_of rfl, g2, fun j c e => ⟨[], ?_, g3 c (List.mem_of_getElem? e)⟩, g4, by simp [g1, hxl], fun c hc => ?_⟩
        · have := (List.getElem?_eq_some_iff.mp e).1
          rw [List.getElem?_replicate, if_pos (by omega)]
        · have : H c = none := by
            rcases List.mem_cons.mp hc with rfl | hc
            · exact hD0
            · exact g5 c hc
          exact ⟨hF0 c this, this⟩
      have N1 := N0.set 1 (s := .raw (.ref D0)) (v := .ref D0) rfl rfl
      have hcl : cs.length = l.length := by omega
      obtain ⟨v1, q1, q2⟩ := N1.rel.sl 1 (.raw (.ref D0)) rfl
      cases q2
      refine ⟨_, q1, D0, _, rfl, .inl (.inl N1.cell), ?_⟩
      refine for_it (walk_enum (K := K) (a := D0) (xs := cs.map .ref)) (fun i σ' H' => ∃ (F' : Hp) (y2 y3 y4 y5 : Option Sl), NvS ⟨K, H, F0, bx, n⟩ D0 cs ((List.range i).map (fun j => (nvF l j (l.length - (j + 1))).2) ++ List.replicate (l.length - i) []) n [some (.d (nvD l)), some (.raw (.ref D0)), y2, y3, y4, y5, none] σ' H' F')
        ⟨F0, none, none, none, none, by simp only [List.range_zero, List.map_nil, List.nil_append, Nat.sub_zero]; exact N1⟩ (fun i σ' H' _ ⟨_, _, _, _, _, N⟩ => .inl (.inl N.cell)) ?_ ?_
      · rintro i x σ' H1 H2 hi ⟨F1, y2, y3, y4, y5, N⟩ ⟨T, x1, x2, rfl, hT, rfl, e1, e2⟩
        have hi : i < l.length := by simpa [hcl] using hi
        cases e1
        have e2 : (cs.map V.ref)[i]? = some x2 := e2
        rw [List.getElem?_map] at e2
        cases ec : cs[i]? with
        | none => rw [ec] at e2; cases e2
        | some c =>
          rw [ec] at e2
          cases e2
          refine ⟨T, [.int (i : Nat), .ref c], rfl, .inl (.inl upd_same), rfl, .int (i : Nat), [.ref c], rfl, .ref c, [], rfl, rfl, ?_⟩
          have N2 := (N.adv ((PAdv.new' (o := .tup [.int (i : Nat), .ref c]) N.rel.same hT).adv N.rel.box)).set 2 (s := .d (.int (i : Nat))) (v := .int (i : Nat)) rfl (.int _)
          have N3 := N2.set 3 (s := .raw (.ref c)) (v := .ref c) rfl rfl
          have at_ : ∀ j : Nat, j < l.length → atI (l.map nvP) (j : Int) = some (nvP (nvG l j)) := fun j hj => by
            unfold atI ixN
            rw [if_pos (by omega), if_pos (by simpa using hj)]
            simp [nvG, hj]
          have ix0 : ∀ p : Int × Int, atI [PyData.int p.1, PyData.int p.2] 0 = some (.int p.1) := fun p => rfl
          have ix1 : ∀ p : Int × Int, atI [PyData.int p.1, PyData.int p.2] 1 = some (.int p.2) := fun p => rfl
          refine ⟨⟨K, H, F0, bx, n⟩, _, n, F1, fun d n' => d = .int ((nvG l i).1 + (nvG l i).2) ∧ n = n', rfl, N3.rel, ?_, ?_⟩
          · refine ⟨nvD l, rfl, .int (i : Nat), rfl, .inr (.inl ⟨_, _, _, rfl, rfl, at_ i hi, .inr ⟨[(nvG l i).1, (nvG l i).2], rfl, ?_, rfl⟩⟩)⟩
            simp
          rintro d n' v H3 F3 ⟨rfl, rfl⟩ ad r
          have N4 := (N3.adv ad).set 4 (s := .d (.int ((nvG l i).1 + (nvG l i).2))) (v := v) rfl r
          have hlen : ((l.map nvP).length : Int) = l.length := by simp
          refine ⟨⟨K, H, F0, bx, n⟩, _, n, F3, fun ds n2 => ds = [.int ((i : Nat) + 1), .int (l.length : Nat)] ∧ n = n2, rfl, N4.rel, ?_, ?_⟩
          · refine ⟨.int (i : Nat), rfl, (i : Nat), 1, rfl, rfl, nvD l, rfl, ?_⟩
            refine .inr (.inr ⟨_, rfl, ?_⟩)
            refine ⟨?_, rfl⟩
            show [PyData.int ((i : Int) + 1), PyData.int ((l.map nvP).length : Int)] = _
            rw [hlen]
          rintro ds n2 vs2 H4 F4 ⟨rfl, rfl⟩ ad2 r2
          have ev := dpAll_ints (ns := [(i : Int) + 1, (l.length : Int)]) r2
          have N5 := N4.adv ad2
          refine ⟨(i : Int) + 1, (l.length : Int), ev, ⟨by omega, by omega, by omega, by omega⟩, ?_⟩
          rw [show ((l.length : Int) - ((i : Int) + 1)).toNat = l.length - (i + 1) by omega]
          have htl : i < ((List.range i).map (fun j => (nvF l j (l.length - (j + 1))).2) ++ List.replicate (l.length - i) ([] : List Nat)).length := by simp; omega
          have t0 : ((List.range i).map (fun j => (nvF l j (l.length - (j + 1))).2) ++ List.replicate (l.length - i) ([] : List Nat)).set i [] = (List.range i).map (fun j => (nvF l j (l.length - (j + 1))).2) ++ List.replicate (l.length - i) [] := by
            apply List.ext_getElem?
            intro j
            by_cases hj : j = i
            · subst hj
              rw [List.getElem?_set_self htl, List.getElem?_append_right (by simp), List.getElem?_replicate, if_pos (by simp; omega)]
            · rw [List.getElem?_set_ne (Ne.symm hj)]
          refine for_it (walk_range (lo := (i : Int) + 1) (n := l.length - (i + 1))) (fun k σ2 H2 => ∃ (F2 : Hp) (y5 : Option Sl), NvS ⟨K, H, F0, bx, n⟩ D0 cs (((List.range i).map (fun j => (nvF l j (l.length - (j + 1))).2) ++ List.replicate (l.length - i) []).set i (nvF l i k).2) n [some (.d (nvD l)), some (.raw (.ref D0)), some (.d (.int (i : Nat))), some (.raw (.ref c)), some (.d (.int (nvF l i k).1)), y5, none] σ2 H2 F2)
            ⟨F4, y5, by rw [show (nvF l i 0).2 = [] from rfl, t0]; exact N5⟩ (fun _ _ _ _ _ => trivial) ?_ ?_
          · rintro k x σ5 H5 H5' hk ⟨F5, y5, N6⟩ ⟨rfl, hx⟩
            subst hx
            have hjl : i + 1 + k < l.length := by omega
            have ej : (i : Int) + 1 + (k : Nat) = ((i + 1 + k : Nat) : Int) := by omega
            dsimp only
            rw [ej]
            have N7 := N6.set 5 (s := .d (.int ((i + 1 + k : Nat) : Int))) (v := .int ((i + 1 + k : Nat) : Int)) rfl (.int _)
            refine tT_go (A := ⟨K, H, F0, bx, n⟩) rfl N7.rel (P := fun b n' => b = decide ((nvG l (i + 1 + k)).1 ≤ (nvF l i k).1) ∧ n = n') ?_ ?_
            · refine ⟨nvD l, rfl, .int ((i + 1 + k : Nat) : Int), rfl, .inr (.inl ⟨_, _, _, rfl, rfl, at_ _ hjl, ?_⟩)⟩
              refine .inr (.inl ⟨_, _, _, rfl, rfl, ix0 _, ?_⟩)
              exact ⟨_, rfl, _, _, rfl, rfl, _, rfl, rfl, rfl⟩
            rintro b n3 H6 F6 ⟨rfl, rfl⟩ ad3
            have N8 := N7.adv ad3
            have ht0 : (((List.range i).map (fun j => (nvF l j (l.length - (j + 1))).2) ++ List.replicate (l.length - i) ([] : List Nat)).set i (nvF l i k).2)[i]? = some (nvF l i k).2 := List.getElem?_set_self htl
            by_cases hle : (nvG l (i + 1 + k)).1 ≤ (nvF l i k).1
            · rw [if_pos (decide_eq_true hle)]
              obtain ⟨v3, p3, p4⟩ := N8.rel.sl 3 (.raw (.ref c)) rfl
              cases p4
              obtain ⟨tb, g1, g2⟩ := N8.cells i c ec
              rw [ht0] at g1
              cases g1
              refine ⟨_, p3, .inl ⟨rfl, _, .inl (.inl g2)⟩, ⟨K, H, F0, bx, n⟩, _, n, F6, fun ds n' => ds = [.int ((i + 1 + k : Nat) : Int)] ∧ n = n', rfl, N8.rel, ⟨_, rfl, rfl, rfl⟩, ?_⟩
              rintro ds n4 ws H7 F7 ⟨rfl, rfl⟩ ad4 r4
              have ew := dpAll_ints (ns := [((i + 1 + k : Nat) : Int)]) r4
              have N9 := N8.adv ad4
              obtain ⟨tb, g1, g2⟩ := N9.cells i c ec
              rw [ht0] at g1
              cases g1
              have htb : ∀ k, (nvF l i k).2.length ≤ k := fun k => by
                induction k with
                | zero => exact Nat.le_refl _
                | succ k ih =>
                  simp only [nvF]
                  split
                  · simp; omega
                  · omega
              refine ⟨c, _, .int ((i + 1 + k : Nat) : Int), rfl, ew, g2, by have := htb k; simp; omega, ?_⟩
              have N10 := N9.app (i := i) (tb := (nvF l i k).2 ++ [i + 1 + k]) ec
              rw [show ((nvF l i k).2 ++ [i + 1 + k]).map natV = (nvF l i k).2.map natV ++ [V.int ((i + 1 + k : Nat) : Int)] by simp [natV]] at N10
              obtain ⟨v4, p5, p6⟩ := N10.rel.sl 4 (.d (.int (nvF l i k).1)) rfl
              cases p6
              refine ⟨_, p5, ⟨K, H, F0, bx, n⟩, _, n, F7, fun d n' => d = .int (nvG l (i + 1 + k)).2 ∧ n = n', rfl, N10.rel, ?_, ?_⟩
              · refine ⟨nvD l, rfl, .int ((i + 1 + k : Nat) : Int), rfl, .inr (.inl ⟨_, _, _, rfl, rfl, at_ _ hjl, ?_⟩)⟩
                exact .inr (.inl ⟨_, _, _, rfl, rfl, ix1 _, rfl, rfl⟩)
              rintro d n5 v H8 F8 ⟨rfl, rfl⟩ ad5 r5
              cases r5
              refine ⟨_, _, rfl, rfl, F8, some (.d (.int ((i + 1 + k : Nat) : Int))), ?_⟩
              have N11 := (N10.adv ad5).set 4 (s := .d (.int ((nvF l i k).1 + (nvG l (i + 1 + k)).2))) (v := .int ((nvF l i k).1 + (nvG l (i + 1 + k)).2)) rfl (.int _)
              have ek : nvF l i (k + 1) = ((nvF l i k).1 + (nvG l (i + 1 + k)).2, (nvF l i k).2 ++ [i + 1 + k]) := by
                simp only [nvF, if_pos hle]
              rw [ek]
              rw [List.set_set] at N11
              exact N11
            · rw [if_neg (by simpa using hle)]
              refine ⟨F6, some (.d (.int ((i + 1 + k : Nat) : Int))), ?_⟩
              have ek : nvF l i (k + 1) = nvF l i k := by
                simp only [nvF, if_neg hle]
              rw [ek]
              exact N8
          · rintro σ5 H5 ⟨F5, y5, N6⟩
            have e3 : ((List.range i).map (fun j => (nvF l j (l.length - (j + 1))).2) ++ List.replicate (l.length - i) ([] : List Nat)).set i (nvF l i (l.length - (i + 1))).2 = (List.range (i + 1)).map (fun j => (nvF l j (l.length - (j + 1))).2) ++ List.replicate (l.length - (i + 1)) [] := by
              rw [List.range_succ, List.map_append, show l.length - i = (l.length - (i + 1)) + 1 by omega, List.replicate_succ, List.set_append_right _ _ (by simp)]
              simp
            rw [e3] at N6
            exact ⟨F5, _, _, _, _, N6⟩
      · rintro σ' H' ⟨F', y2, y3, y4, y5, N⟩
        rw [List.length_map, hcl] at N
        obtain ⟨v1, q1, q2⟩ := N.rel.sl 1 (.raw (.ref D0)) rfl
        cases q2
        have hT : (List.range l.length).map (fun j => (nvF l j (l.length - (j + 1))).2) ++ List.replicate (l.length - l.length) [] = nvT l := by simp [nvT]
        rw [hT] at N
        refine ⟨_, q1, hq (nvTD l) n (.ref D0) H' (fun a => if a ∈ D0 :: cs then H' a else F' a) hP ⟨N.rel.adv.keep, fun a ha => ?_, fun a o e => ?_, N.rel.adv.box.mono (fun c o e => ?_) (fun a o e => ?_) (fun c v => ?_), N.rel.adv.grow, N.rel.adv.new⟩ ?_⟩
        · have : a ∉ D0 :: cs := fun z => ha (N.new a z).2
          show (if a ∈ D0 :: cs then _ else _) = _
          rw [if_neg this]
          exact N.rel.adv.old a ha
        · have e : (if a ∈ D0 :: cs then H' a else F' a) = some o := e
          by_cases z : a ∈ D0 :: cs
          · rw [if_pos z] at e; exact e
          · rw [if_neg z] at e; exact N.rel.same a o e
        · have : c ∉ D0 :: cs := fun z => by rw [(N.new c z).1] at e; cases e
          show (if c ∈ D0 :: cs then _ else _) = _
          rw [if_neg this]
          exact e
        · have e : (if a ∈ D0 :: cs then H' a else F' a) = some o := e
          by_cases z : a ∈ D0 :: cs
          · rw [if_pos z] at e; exact e
          · rw [if_neg z] at e; exact N.rel.same a o e
        · have : c ∉ D0 :: cs := fun z => N.bx c z v
          exact ⟨rfl, if_neg this⟩
        · refine ⟨.lst (xs := cs.map .ref) (.inl (.inl ?_)) ?_, D0 :: cs, D0, cs.map .ref, _, cs, rfl, rfl, hD0, .inl ⟨rfl, N.cell⟩, (List.nodup_cons.mp N.nd).1, nv_fresh cs (nvT l) N.len (List.nodup_cons.mp N.nd).2 (fun c hc => (N.new c (List.mem_cons_of_mem _ hc)).2) N.cells⟩
          · show (if D0 ∈ D0 :: cs then _ else _) = _
            rw [if_pos (by simp)]
            exact N.cell
          · refine nv_freeze cs (nvT l) N.len fun j c e => ?_
            obtain ⟨tb, g1, g2⟩ := N.cells j c e
            refine ⟨tb, g1, ?_⟩
            show (if c ∈ D0 :: cs then _ else _) = _
            rw [if_pos (by simp [List.mem_of_getElem? e])]
            exact g2
end
end TL
set_option Elab.async false
set_option linter.all false
set_option maxRecDepth 100000
set_option maxHeartbeats 4000000
namespace TL
open PySem PySem.Spec PyProof.Rows L2
/-! ### a name's own list becomes the box -/
def Sl.plain : Sl → Bool
  | .d _ => true
  | .raw _ => true
  | .dk _ => true
  | .dt _ => true
  | _ => false
@[simp] theorem plain_d (x : D) : (Sl.d x).plain = true := rfl
section
variable {X : Cx}
end
/-! ### calls of defs with repr -/
section
variable {X : Cx} {x : Str} {p pos : Pos} {a : Expr} {es : List Expr}
end
end TL
set_option Elab.async false
set_option linter.all false
set_option maxRecDepth 100000
set_option maxHeartbeats 4000000
namespace TL
variable [Mode]
open PySem PySem.Spec PyProof.Rows L2
/-! ### an own list is lent -/
/-! ### a op b op c -/
section
variable {X : Cx} {a b c : Expr} {ma mb mc : EM} {pos : Pos}
end
end TL
namespace TL
open PySem PySem.Spec PyProof.Rows L2
section
variable {X : Cx} {a : Expr} {ma : EM}
end
end TL
set_option Elab.async false
set_option linter.all false
set_option maxRecDepth 100000
set_option maxHeartbeats 4000000
namespace TL
variable [Mode]
open PySem PySem.Spec PyProof.Rows L2
/-! ### methods of a tuple; index -/
section
variable {X : Cx} {pins : List (Addr × Obj)} {σ : L2.St} {H : Hp} {s : Shared}
theorem plT_is {p : Addr} {xs : List V} (I : Inv X pins σ H s) (h : PlT X.K H p xs) : s.TypeIs (.ref p) "tuple" ∧ ∃ ob, s.heap.get? p = some ob ∧ ob.dict = none := by
  rcases h with ⟨o, e, d⟩ | ⟨o, its, n, e1, e2, d, _⟩
  · obtain ⟨g, _, us, _, ⟨o', g', c, _⟩⟩ := I.hok p _ e
    exact ⟨⟨o', g', c⟩, o, g, d⟩
  · exact ⟨⟨o, I.kIn p o e1, e2⟩, o, I.kIn p o e1, d⟩
variable {o e : Expr} {es : List Expr} {to : TE} {t : TA} {name : Str} {apos cpos : Pos} {id : String} {r : V → List V → Hp → VK → Prop}
def tBMT (K : PySem.W.Frag) (r : V → List V → Hp → VK → Prop) (to : TE) (t : TA) : TE := fun σ H Q => to σ H fun x H1 => (∃ p xs, x = .ref p ∧ PlT K H1 p xs) ∧ t σ H1 fun xs H2 => r x xs H2 Q
theorem pe_bmT (slot : Slot "tuple" name id) (hty : typeOf (.builtin id) = pure (.type "method_descriptor")) (hm : MtR X id r) (ho : PE X o to) (ha : PA X (e :: es) t)
    (hbase : attributeBase o name X.env (eval o X.env) = eval o X.env := by rfl)
    (hfew : ((backTo cpos (starEach (e :: es) X.env)).all (fun x => !x.1) && (backToKw cpos (keywordEach [] X.env)).all (fun x => x.1.isSome)
      && decide ((e :: es).length + ([] : List Keyword).length + (if ([] : List Keyword).isEmpty then 0 else 1) < 30)) = true := by rfl)
    (hline : (apos.endLine == cpos.line) = true := by rfl) (hs : starEach (e :: es) X.env = (false, eval e X.env) :: starEach es X.env := by rfl) (hplain : (backTo cpos (starEach es X.env)).any (·.1) = false := by rfl) :
    PE X (.Call (.Attribute o name apos) (e :: es) [] cpos) (tBMT X.K r to t) := by
  refine ⟨fun pins s σ H Q I h => ?_⟩
  refine wpAny_Call_method_late hbase hfew hline rfl (thn (ho.run pins s σ H _ I h) fun v s1 ⟨x, H1, I1, r1, ⟨p, xs, ex, ty⟩, q1⟩ => ?_)
  subst ex
  obtain rfl : v = Value.ref p := r1
  obtain ⟨h1, h2⟩ := plT_is I1 ty
  refine ⟨"tuple", id, PySem.F.plainAttrs_tuple, slot, hty, h1, (fun a ea => by cases ea; exact h2), ?_⟩
  have hA := ha.run cpos pins s1 σ H1 _ I1 q1
  rw [hs] at hA ⊢
  refine Calls.callWith_builtin (by show (false || (backTo cpos (starEach es X.env)).any (·.1)) = false; rw [hplain] <;> rfl) (Calls.evalArgs_plain ?_)
  exact thn hA fun us s2 ⟨vs, H2, I2, r2, q2⟩ => hm pins s2 σ H2 (.ref p) vs (.ref p) us Q I2 rfl r2 q2
def rIndexT (K : PySem.W.Frag) : V → List V → Hp → VK → Prop := fun x xs H Q => ∃ (a : Addr) (y : V) (d : PyData) (ds : List PyData) (j : Nat) (z : PyData), x = V.ref a ∧ xs = [y] ∧ L2.Dp K H (V.ref a) (.tuple ds) ∧ L2.Dp K H y d ∧
  SeqAt.shaped (.tuple ds) = true ∧ SeqAt.shaped d = true ∧ ds[j]? = some z ∧ PyData.eqv z d = true ∧ (∀ (m : Nat) (z' : PyData), m < j → ds[m]? = some z' → PyData.eqv z' d = false) ∧ Q (.int (j : Nat)) H
theorem layAll_tup {ds : List PyData} (h : SeqAt.shaped (.tuple ds) = true) : PyData.canLayAll0 ds = true ∧ PyData.depthAll ds ≤ 64 := by
  unfold SeqAt.shaped at h
  simp [PyData.canLay0, PyData.depth] at h
  exact ⟨h.1, by omega⟩
theorem mt_indexT (hu : X.A.units + 65 < cLine) : MtR X "tuple.index" (rIndexT X.K) := by
  intro pins s σ H x xs v us Q I rx rxs h
  obtain ⟨a, y, d, ds, j, z, rfl, rfl, hl, hy, sl, sd, hz, hzj, hno, q⟩ := h
  cases rx
  cases rxs with
  | cons ry rt =>
    rename_i uy ut
    cases rt
    obtain ⟨bs, r1⟩ := L2.Dp.reads I d y uy hy ry
    obtain ⟨hxs, hdep⟩ := layAll_tup sl
    have hroom : X.A.units + 1 + min (PyData.depthAll ds) d.depth < cLine := by omega
    cases hl with
    | tup hs ha =>
      obtain ⟨its, rv, ⟨⟨cls, dd, data, sls⟩, ho, hc, n, hdt⟩, hlen⟩ := I.tuple hs
      simp only at hc hdt
      subst hc hdt
      obtain ⟨as, h4⟩ := L2.Dp.readsAll I ds _ its ha rv
      have hn : its.length = ds.length := SeqAt.ReadsAll.length ds its as h4
      have hmap : its.map (SeqAt.readOf s.heap) = ds := SeqAt.readsAll_map ds its as hxs h4
      obtain ⟨hjd, _⟩ := List.getElem?_eq_some_iff.mp hz
      have hjl : j < its.length := by omega
      have hj : j < its.toArray.size := by simpa using hjl
      have at_ : ∀ (m : Nat) (hm : m < its.toArray.size) (z' : PyData), ds[m]? = some z' → SeqAt.readOf s.heap its.toArray[m] = z' := by
        intro m hm z' hz'
        have hml : m < its.length := by simpa using hm
        rw [← hmap, List.getElem?_map, List.getElem?_eq_getElem hml] at hz'
        have e1 : SeqAt.readOf s.heap its[m] = z' := Option.some.inj hz'
        simpa using e1
      refine call_meets PySem.F.slot_tuple_index ⟨_, ho, rfl⟩ PySem.F.entry_tuple_index (PySem.F.args_tuple_index_2 _ _)
        (TI.tuple_indexAt a its.toArray n dd sls uy (fun u => PyData.eqv (SeqAt.readOf s.heap u) d) j hj ?_ ?_) ⟨ho, SeqAt.items_eqAt (vs := its.toArray) (show ReadsAll s.heap its.toArray.toList ds as from h4) r1 hxs (SeqAt.canLay_of_shaped sd) hroom, ⟨.int (j : Nat), H, I.tok _, ⟨_, rfl⟩, q⟩⟩
      · show PyData.eqv (SeqAt.readOf s.heap its.toArray[j]) d = true
        rw [at_ j hj z hz]
        exact hzj
      · intro m hm hmj
        have hmd : m < ds.length := by
          have : m < its.length := by simpa using hm
          omega
        show PyData.eqv (SeqAt.readOf s.heap its.toArray[m]) d = false
        rw [at_ m hm _ (List.getElem?_eq_getElem hmd)]
        exact hno m _ hmj (List.getElem?_eq_getElem hmd)
end
def mIndexT (a b : EM) : EM := fun τ n Q => a τ n fun x n1 => ∃ ds, x = .tuple ds ∧ b τ n1 fun y n2 => ∃ j z, SeqAt.shaped (.tuple ds) = true ∧ SeqAt.shaped y = true ∧ ds[j]? = some z ∧ PyData.eqv z y = true ∧ (∀ (m : Nat) (z' : D), m < j → ds[m]? = some z' → PyData.eqv z' y = false) ∧ Q (.int (j : Nat)) n2
section
variable {X : Cx} {a b : Expr} {ma mb : EM} {apos cpos : Pos}
theorem e_indexT {k : Nat} (hr : Room k X.A) (ha : E2 X .fz a ma) (hb : E2 X .fz b mb) (hbase : attributeBase a "index" X.env (eval a X.env) = eval a X.env := by rfl)
    (hfew : ((backTo cpos (starEach [b] X.env)).all (fun x => !x.1) && (backToKw cpos (keywordEach [] X.env)).all (fun x => x.1.isSome)
      && decide (([b] : List Expr).length + ([] : List Keyword).length + (if ([] : List Keyword).isEmpty then 0 else 1) < 30)) = true := by rfl)
    (hline : (apos.endLine == cpos.line) = true := by rfl) (hs : starEach [b] X.env = (false, eval b X.env) :: starEach [] X.env := by rfl) (hplain : (backTo cpos (starEach [] X.env)).any (·.1) = false := by rfl) :
    E2 X .fz (.Call (.Attribute a "index" apos) [b] [] cpos) (mIndexT ma mb) := by
  refine ⟨pe_weak (pe_bmT PySem.F.slot_tuple_index PySem.F.type_tuple_index (mt_indexT (Room.units65 hr)) ha.pe (pa_cons hb.pe pa_nil hs) hbase hfew hline hs hplain) fun σ H Q ⟨A, τ, n, F, P, eK, R, hm, hq⟩ => tE_run eK R hm ?_⟩
  rintro x n1 v1 H1 F1 ⟨ds, rfl, p1⟩ a1 r1
  have r1' : Dp X.K F1 v1 (.tuple ds) := r1
  cases id r1' with
  | tup hs ha =>
    refine ⟨⟨_, _, rfl, hs.mono a1.sub⟩, tE_run eK (R.step a1) p1 ?_⟩
    rintro y n2 v2 H2 F2 ⟨j, z, s1, s2, e1, e2, e3, p2⟩ a2 r2
    have a12 := a1.trans a2
    have r2' : Dp X.K F2 v2 y := r2
    have s12 := a2.fro a1.sub
    refine ⟨_, v2, y, ds, j, z, rfl, rfl, ?_, ?_, s1, s2, e1, e2, e3, hq _ n2 _ H2 F2 p2 a12 (.int _)⟩
    · exact dp_l2 _ _ (lay0_shaped s1) (dp_mono (s12.trans a2.sub) _ _ r1')
    · exact dp_l2 _ _ (lay0_shaped s2) (dp_mono a2.sub _ _ r2')
end
@[simp] theorem mIndexT_ap {a b : EM} {τ : Ev} {n : Nat} {Q : D → Nat → Prop} : mIndexT a b τ n Q ↔ a τ n fun x n1 => ∃ ds, x = .tuple ds ∧ b τ n1 fun y n2 => ∃ j z, SeqAt.shaped (.tuple ds) = true ∧ SeqAt.shaped y = true ∧ ds[j]? = some z ∧ PyData.eqv z y = true ∧ (∀ (m : Nat) (z' : D), m < j → ds[m]? = some z' → PyData.eqv z' y = false) ∧ Q (.int (j : Nat)) n2 := Iff.rfl
end TL
set_option Elab.async false
set_option linter.all false
set_option maxRecDepth 100000
set_option maxHeartbeats 4000000
namespace TL
variable [Mode]
open PySem PySem.Spec PyProof.Rows L2
/-! ### xs[::-1] -/
section
variable {X : Cx} {a : Expr} {ma : EM} {pos : Pos}
end
end TL
set_option Elab.async false
set_option linter.all false
set_option maxRecDepth 100000
set_option maxHeartbeats 4000000
namespace TL
variable [Mode]
open PySem PySem.Spec PyProof.Rows L2
/-! ### list.index -/
section
variable {X : Cx} {a b : Expr} {ma mb : EM} {apos cpos : Pos}
end
end TL
set_option Elab.async false
set_option linter.all false
set_option maxRecDepth 100000
set_option maxHeartbeats 4000000
namespace TL
variable [Mode]
open PySem PySem.Spec PyProof.Rows L2
/-! ### sorted(set(xs)), a list of ints -/
section
variable {P : Program} {w : World} {A : Around} {E : Value → Shared → Prop} {s : Shared}
end
section
variable {X : Cx}
variable {a : Expr} {ma : EM} {p p2 q pos : Pos}
end
end TL
set_option Elab.async false
set_option linter.all false
set_option maxRecDepth 100000
set_option maxHeartbeats 4000000
namespace TL
variable [Mode]
open PySem PySem.Spec PyProof.Rows L2
/-! ### statements never reached; constants of the module -/
section
variable {X : Cx}
end
end TL
set_option Elab.async false
set_option linter.all false
set_option maxRecDepth 100000
set_option maxHeartbeats 4000000
namespace TL
variable [Mode]
open PySem PySem.Spec PyProof.Rows L2
/-! ### zip(xs, ys, strict=True), each a list or a tuple -/
def ItB : Bool → Heap → Addr → Addr → Nat → Prop
  | true, h, it, l, i => h.IsTupleIter it l i
  | false, h, it, l, i => h.IsListIter it l i
def SqB : Bool → Heap → Addr → Array Value → Prop
  | true, h, l, xs => h.IsTuple l xs
  | false, h, l, xs => h.IsList l xs
theorem ItB.at {b : Bool} {h h' : Heap} {a l i} (x : ItB b h a l i) (e : ∀ o, h.get? a = some o → h'.get? a = some o) : ItB b h' a l i := by
  cases b with
  | true => exact Heap.IsTupleIter.at x e
  | false => exact Heap.IsListIter.at x e
theorem SqB.at {b : Bool} {h h' : Heap} {a xs} (x : SqB b h a xs) (e : ∀ o, h.get? a = some o → h'.get? a = some o) : SqB b h' a xs := by
  cases b with
  | true => exact Heap.IsTuple.at x e
  | false => exact Heap.IsList.at x e
theorem ItB.get {b : Bool} {h : Heap} {a l i} (x : ItB b h a l i) : ∃ o, h.get? a = some o ∧ ∀ v, o.data ≠ .cell v := by
  cases b with
  | true =>
    obtain ⟨o, e, _, d⟩ := x
    exact ⟨o, e, fun v q => by rw [d] at q; cases q⟩
  | false =>
    obtain ⟨o, e, _, d⟩ := x
    exact ⟨o, e, fun v q => by rw [d] at q; cases q⟩
section
variable {prog : Program} {w : World} {A : Around} {E : Value → Shared → Prop} {s : Shared}
theorem nextE_item {c : Bool} {it l : Addr} {i : Nat} {items : Array Value} {x : Value} {Q : Option Value → Shared → Prop} (hit : ItB c s.heap it l i) (hl : SqB c s.heap l items) (hx : items[i]? = some x)
    (hQ : ∀ h', ItB c h' it l (i + 1) → Heap.SameBut it s.heap h' → Q (some x) { s with heap := h' }) : wpAny (model prog w) A (Builtin.SmallTypes.nextOrEnd (.ref it)) Q E s := by
  unfold Builtin.SmallTypes.nextOrEnd
  refine wpAny_bind (wpAny_attempt ?_)
  cases c with
  | true => exact RZ.nextOf_tuple_item hit hl hx fun h' a b => wpAny_pure (hQ h' a b)
  | false => exact wpAny_nextOf_list_item hit hl hx fun h' a b => wpAny_pure (hQ h' a b)
theorem nextE_end {c : Bool} {it l : Addr} {i : Nat} {items : Array Value} {Q : Option Value → Shared → Prop} (hh : A.handled = none) (hit : ItB c s.heap it l i) (hl : SqB c s.heap l items) (hx : items[i]? = none)
    (hQ : ∀ h', Heap.ExtBut it s.heap h' → Q none { s with heap := h' }) : wpAny (model prog w) A (Builtin.SmallTypes.nextOrEnd (.ref it)) Q E s := by
  unfold Builtin.SmallTypes.nextOrEnd
  refine wpAny_bind (wpAny_attempt ?_)
  have key : ∀ h' e, Heap.ExtBut it s.heap h' → (∃ o, h'.get? e = some o ∧ o.cls = .type "StopIteration") → wpAny (model prog w) A (do if ← isInstance (.ref e) (.type "StopIteration") then pure none else throw (.ref e)) Q E { s with heap := h' } := fun h' e hk ⟨o, ho, hc⟩ => by
    refine wpAny_bind (wpAny_isInstance (T := "StopIteration") (b := true) ⟨o, ho, hc⟩ isSubtype_stop ?_)
    exact wpAny_pure (hQ h' hk)
  cases c with
  | true => exact RZ.nextOf_tuple_end hh hit hl hx key
  | false => exact wpAny_nextOf_list_end hh hit hl hx key
abbrev IsZipS (h : Heap) (z TI TO : Addr) (f0 : Value) : Prop :=
  h.get? z = some { cls := .type "zip", dict := none, data := .fields #[f0, .bool false, .bool true, .ref TI, .ref TO], slots := #[] }
theorem zipS_item {c1 c2 : Bool} {z TI TO i1 i2 l1 l2 : Addr} {k1 k2 : Nat} {xs ys : Array Value} {x y a b : Value} {Q : Value → Shared → Prop} (D : ZipApart z TI TO i1 i2 l1 l2)
    (hz : IsZipS s.heap z TI TO .none) (hTI : IsPair s.heap TI (.ref i1) (.ref i2)) (hTO : IsPair s.heap TO a b)
    (h1 : ItB c1 s.heap i1 l1 k1) (h2 : ItB c2 s.heap i2 l2 k2) (hl1 : SqB c1 s.heap l1 xs) (hl2 : SqB c2 s.heap l2 ys) (hx : xs[k1]? = some x) (hy : ys[k2]? = some y)
    (hQ : ∀ h', IsZipS h' z TI TO (rawInt s.heap.objs.size) → IsPair h' TO x y → ItB c1 h' i1 l1 (k1 + 1) → ItB c2 h' i2 l2 (k2 + 1) → IsPair h' s.heap.objs.size x y → h'.objs.size = s.heap.objs.size + 1 →
      (∀ c o, c ≠ z → c ≠ TO → c ≠ i1 → c ≠ i2 → s.heap.get? c = some o → h'.get? c = some o) → Q (.ref s.heap.objs.size) { s with heap := h' }) :
    wpAny (model prog w) A (Builtin.«zip.__next__» ⟨[.ref z], []⟩) (fun fin s' => ∃ v, fin = .done (.ret v) ∧ Q v s') E s := by
  show wpAny _ _ (field (.ref z) 2 >>= _) _ _ _
  refine wpAny_bind (wpAny_field hz rfl (x := .bool true) rfl ?_)
  show wpAny _ _ (field (.ref z) 3 >>= _) _ _ _
  refine wpAny_bind (wpAny_field hz rfl (x := .ref TI) rfl ?_)
  refine wpAny_bind (wpAny_seqItems hTI rfl ?_)
  show wpAny _ _ (Builtin.SmallTypes.ownedTupleIsFree (.ref z) >>= _) _ _ _
  refine wpAny_bind ?_
  unfold Builtin.SmallTypes.ownedTupleIsFree
  refine wpAny_bind (wpAny_field hz rfl (x := .none) rfl (wpAny_pure ?_))
  simp only [if_true]
  refine wpAny_bind (wpAny_rule ?_)
  refine wpAny_bind (wpAny_field hz rfl (x := .ref TO) rfl ?_)
  refine wpAny_bind (wpAny_setField_rec hz (by simp) fun h₁ hz₁ hs₁ => ?_)
  replace hz₁ : IsZipS h₁ z TI TO .ellipsis := hz₁
  refine wpAny_bind ?_
  simp only [List.zipIdx_cons, List.zipIdx_nil, List.forIn_cons, List.forIn_nil]
  refine wpAny_bind (wpAny_bind (wpAny_onRaise ?_))
  show wpAny _ _ (Builtin.SmallTypes.nextOrEnd (.ref i1)) _ _ _
  refine nextE_item (h1.at fun o e => hs₁.extBut _ o D.i1z e) (hl1.at fun o e => hs₁.extBut _ o D.l1z e) hx fun h₂ h1₂ hs₂ => ?_
  have hTO₂ : IsPair h₂ TO a b := hs₂.extBut _ _ D.TOi1 (hs₁.extBut _ _ D.TOz hTO)
  refine wpAny_bind (wpAny_seqItems hTO₂ rfl ?_)
  refine wpAny_bind (wpAny_updateSeq_pair hTO₂ fun h₃ hTO₃ hs₃ => ?_)
  replace hTO₃ : IsPair h₃ TO x b := hTO₃
  refine wpAny_bind (wpAny_letGo (wpAny_pure ?_))
  refine wpAny_bind (wpAny_bind (wpAny_onRaise ?_))
  show wpAny _ _ (Builtin.SmallTypes.nextOrEnd (.ref i2)) _ _ _
  refine nextE_item (h2.at fun o e => hs₃.extBut _ o D.TOi2.symm (hs₂.extBut _ o D.i12.symm (hs₁.extBut _ o D.i2z e)))
    (hl2.at fun o e => hs₃.extBut _ o D.l2TO (hs₂.extBut _ o D.l2i1 (hs₁.extBut _ o D.l2z e))) hy fun h₄ h2₄ hs₄ => ?_
  have hTO₄ : IsPair h₄ TO x b := hs₄.extBut _ _ D.TOi2 hTO₃
  refine wpAny_bind (wpAny_seqItems hTO₄ rfl ?_)
  refine wpAny_bind (wpAny_updateSeq_pair hTO₄ fun h₅ hTO₅ hs₅ => ?_)
  replace hTO₅ : IsPair h₅ TO x y := hTO₅
  refine wpAny_bind (wpAny_letGo (wpAny_pure (wpAny_pure ?_)))
  refine wpAny_bind (wpAny_seqItems hTO₅ rfl ?_)
  refine wpAny_bind (wpAny_newTuple ?_)
  have hsz : h₅.objs.size = s.heap.objs.size := by rw [hs₅.1, hs₄.1, hs₃.1, hs₂.1, hs₁.1]
  have hz₅ : IsZipS h₅ z TI TO .ellipsis := hs₅.extBut _ _ D.TOz.symm (hs₄.extBut _ _ D.i2z.symm (hs₃.extBut _ _ D.TOz.symm (hs₂.extBut _ _ D.i1z.symm hz₁)))
  have hk₅ : ∀ c o, c ≠ z → c ≠ TO → c ≠ i1 → c ≠ i2 → s.heap.get? c = some o → h₅.get? c = some o := fun c o c1 c2 c3 c4 e =>
    hs₅.extBut _ _ c2 (hs₄.extBut _ _ c4 (hs₃.extBut _ _ c2 (hs₂.extBut _ _ c3 (hs₁.extBut _ _ c1 e))))
  have h1₅ : ItB c1 h₅ i1 l1 (k1 + 1) := h1₂.at fun o e => hs₅.extBut _ o D.TOi1.symm (hs₄.extBut _ o D.i12 (hs₃.extBut _ o D.TOi1.symm e))
  have h2₅ : ItB c2 h₅ i2 l2 (k2 + 1) := h2₄.at fun o e => hs₅.extBut _ o D.TOi2.symm e
  have hzlt : z < h₅.objs.size := Heap.lt_size hz₅
  show wpAny _ _ (Builtin.SmallTypes.ownedTupleHandOut (.ref z) (.ref h₅.objs.size) >>= _) _ _ _
  refine wpAny_bind ?_
  unfold Builtin.SmallTypes.ownedTupleHandOut
  have hz₆ : IsZipS (h₅.push { cls := .type "tuple", data := .seq #[x, y] }) z TI TO .ellipsis := Heap.get?_push_of_some _ hz₅
  refine wpAny_bind (wpAny_setField_rec hz₆ (by simp) fun h₇ hz₇ hs₇ => ?_)
  replace hz₇ : IsZipS h₇ z TI TO (rawInt h₅.objs.size) := hz₇
  refine wpAny_setField_rec hz₇ (by simp) fun h₈ hz₈ hs₈ => ?_
  replace hz₈ : IsZipS h₈ z TI TO (rawInt h₅.objs.size) := hz₈
  have up : ∀ c o, c ≠ z → h₅.get? c = some o → h₈.get? c = some o := fun c o c1 e => hs₈.extBut _ _ c1 (hs₇.extBut _ _ c1 (Heap.get?_push_of_some _ e))
  have hT₈ : IsPair h₈ h₅.objs.size x y := hs₈.extBut _ _ (Nat.ne_of_gt hzlt) (hs₇.extBut _ _ (Nat.ne_of_gt hzlt) (Heap.get?_push_size _ rfl))
  have hz8 : h₈.objs.size = h₅.objs.size + 1 := by rw [hs₈.1, hs₇.1, Heap.size_push]
  rw [hsz] at hz₈ hT₈ hz8
  refine wpAny_pure ⟨_, rfl, ?_⟩
  show Q (.ref h₅.objs.size) _
  rw [hsz]
  exact hQ h₈ hz₈ (up _ _ D.TOz hTO₅) (h1₅.at fun o e => up _ o D.i1z e) (h2₅.at fun o e => up _ o D.i2z e) hT₈ hz8 fun c o c1 c2 c3 c4 e => up c o c1 (hk₅ c o c1 c2 c3 c4 e)
theorem zipS_end {c1 c2 : Bool} {z TI TO i1 i2 l1 l2 : Addr} {k1 k2 : Nat} {xs ys : Array Value} {a b : Value} {Q : Fin → Shared → Prop} (hh : A.handled = none) (D : ZipApart z TI TO i1 i2 l1 l2)
    (hz : IsZipS s.heap z TI TO .none) (hTI : IsPair s.heap TI (.ref i1) (.ref i2)) (hTO : IsPair s.heap TO a b)
    (h1 : ItB c1 s.heap i1 l1 k1) (h2 : ItB c2 s.heap i2 l2 k2) (hl1 : SqB c1 s.heap l1 xs) (hl2 : SqB c2 s.heap l2 ys) (hx : xs[k1]? = none) (hy : ys[k2]? = none)
    (hE : ∀ h' e, (∀ c o, c ≠ z → c ≠ TO → c ≠ i1 → c ≠ i2 → s.heap.get? c = some o → h'.get? c = some o) → (∃ o, h'.get? e = some o ∧ o.cls = .type "StopIteration") → E (.ref e) { s with heap := h' }) :
    wpAny (model prog w) A (Builtin.«zip.__next__» ⟨[.ref z], []⟩) Q E s := by
  show wpAny _ _ (field (.ref z) 2 >>= _) _ _ _
  refine wpAny_bind (wpAny_field hz rfl (x := .bool true) rfl ?_)
  show wpAny _ _ (field (.ref z) 3 >>= _) _ _ _
  refine wpAny_bind (wpAny_field hz rfl (x := .ref TI) rfl ?_)
  refine wpAny_bind (wpAny_seqItems hTI rfl ?_)
  show wpAny _ _ (Builtin.SmallTypes.ownedTupleIsFree (.ref z) >>= _) _ _ _
  refine wpAny_bind ?_
  unfold Builtin.SmallTypes.ownedTupleIsFree
  refine wpAny_bind (wpAny_field hz rfl (x := .none) rfl (wpAny_pure ?_))
  simp only [if_true]
  refine wpAny_bind (wpAny_rule ?_)
  refine wpAny_bind (wpAny_field hz rfl (x := .ref TO) rfl ?_)
  refine wpAny_bind (wpAny_setField_rec hz (by simp) fun h₁ hz₁ hs₁ => ?_)
  replace hz₁ : IsZipS h₁ z TI TO .ellipsis := hz₁
  refine wpAny_bind ?_
  simp only [List.zipIdx_cons, List.zipIdx_nil, List.forIn_cons, List.forIn_nil]
  refine wpAny_bind (wpAny_bind (wpAny_onRaise ?_))
  show wpAny _ _ (Builtin.SmallTypes.nextOrEnd (.ref i1)) _ _ _
  refine nextE_end hh (h1.at fun o e => hs₁.extBut _ o D.i1z e) (hl1.at fun o e => hs₁.extBut _ o D.l1z e) hx fun h₂ hs₂ => ?_
  have hz₂ : IsZipS h₂ z TI TO .ellipsis := hs₂ _ _ D.i1z.symm hz₁
  refine wpAny_bind (wpAny_setField_rec hz₂ (by simp) fun h₃ hz₃ hs₃ => ?_)
  have h2₃ : ItB c2 h₃ i2 l2 k2 := h2.at fun o e => hs₃.extBut _ o D.i2z (hs₂ _ o D.i12.symm (hs₁.extBut _ o D.i2z e))
  have hl2₃ : SqB c2 h₃ l2 ys := hl2.at fun o e => hs₃.extBut _ o D.l2z (hs₂ _ o D.l2i1 (hs₁.extBut _ o D.l2z e))
  refine wpAny_bind ?_
  show wpAny _ _ (forIn [(Value.ref i2, 1)] _ _ >>= _) _ _ _
  simp only [List.forIn_cons, List.forIn_nil]
  refine wpAny_bind (wpAny_bind ?_)
  refine wpAny_bind (nextE_end hh h2₃ hl2₃ hy fun h₄ hs₄ => ?_)
  refine wpAny_pure (wpAny_pure ?_)
  refine wpAny_bind (wpAny_rule ?_)
  unfold Builtin.SmallTypes.stopIteration
  refine wpAny_bind ?_
  simp only [newExc, newTuple]
  refine wpAny_bind (wpAny_newObj_type ?_ (by size_fits))
  refine wpAny_bind (m := firstArgMember _ _) (wpAny_of_eq (a := Value.none) (by first | rfl | (simp only [firstArgMember]; rfl)) ?_)
  refine wpAny_newObj_type ?_ (by size_fits)
  simp only [raiseNew]
  refine wpAny_bind (wpAny_handled ?_)
  rw [hh]
  refine wpAny_bind (wpAny_pure (wpAny_throw ?_))
  exact hE _ _ (fun c o c1 c2 c3 c4 x => Heap.get?_push_of_some _ (Heap.get?_push_of_some _ (hs₄ _ _ c4 (hs₃.extBut _ _ c1 (hs₂ _ _ c3 (hs₁.extBut _ _ c1 x)))))) ⟨_, Heap.get?_push_size _ rfl, rfl⟩
theorem nextS_item {c1 c2 : Bool} {z TI TO i1 i2 l1 l2 : Addr} {k1 k2 : Nat} {xs ys : Array Value} {x y a b : Value} {Q : Option Value → Shared → Prop} (D : ZipApart z TI TO i1 i2 l1 l2)
    (hz : IsZipS s.heap z TI TO .none) (hTI : IsPair s.heap TI (.ref i1) (.ref i2)) (hTO : IsPair s.heap TO a b)
    (h1 : ItB c1 s.heap i1 l1 k1) (h2 : ItB c2 s.heap i2 l2 k2) (hl1 : SqB c1 s.heap l1 xs) (hl2 : SqB c2 s.heap l2 ys) (hx : xs[k1]? = some x) (hy : ys[k2]? = some y)
    (hQ : ∀ h', IsZipS h' z TI TO (rawInt s.heap.objs.size) → IsPair h' TO x y → ItB c1 h' i1 l1 (k1 + 1) → ItB c2 h' i2 l2 (k2 + 1) → IsPair h' s.heap.objs.size x y → h'.objs.size = s.heap.objs.size + 1 →
      (∀ c o, c ≠ z → c ≠ TO → c ≠ i1 → c ≠ i2 → s.heap.get? c = some o → h'.get? c = some o) → Q (some (.ref s.heap.objs.size)) { s with heap := h' }) :
    wpAny (model prog w) A (pyNext (.ref z)) Q E s := by
  have hT : s.TypeIs (.ref z) "zip" := ⟨_, hz, rfl⟩
  unfold pyNext
  exact wpAny_bind (wpAny_attempt (wpAny_callSpecial?_slot (name := Str.ofString "__next__") hT F.slot_zip_next
    (wpAny_call_entry F.slot_zip_next hT F.entry_zip_next
      (zipS_item D hz hTI hTO h1 h2 hl1 hl2 hx hy fun h' a1 a2 a3 a4 a5 a6 a7 => wpAny_pure (hQ h' a1 a2 a3 a4 a5 a6 a7)) (F.args_zip_next_1 _))))
theorem nextS_end {c1 c2 : Bool} {z TI TO i1 i2 l1 l2 : Addr} {k1 k2 : Nat} {xs ys : Array Value} {a b : Value} {Q : Option Value → Shared → Prop} (hh : A.handled = none) (D : ZipApart z TI TO i1 i2 l1 l2)
    (hz : IsZipS s.heap z TI TO .none) (hTI : IsPair s.heap TI (.ref i1) (.ref i2)) (hTO : IsPair s.heap TO a b)
    (h1 : ItB c1 s.heap i1 l1 k1) (h2 : ItB c2 s.heap i2 l2 k2) (hl1 : SqB c1 s.heap l1 xs) (hl2 : SqB c2 s.heap l2 ys) (hx : xs[k1]? = none) (hy : ys[k2]? = none)
    (hQ : ∀ h', (∀ c o, c ≠ z → c ≠ TO → c ≠ i1 → c ≠ i2 → s.heap.get? c = some o → h'.get? c = some o) → Q none { s with heap := h' }) : wpAny (model prog w) A (pyNext (.ref z)) Q E s := by
  have hT : s.TypeIs (.ref z) "zip" := ⟨_, hz, rfl⟩
  unfold pyNext
  refine wpAny_bind (wpAny_attempt (wpAny_callSpecial?_slot (name := Str.ofString "__next__") hT F.slot_zip_next
    (wpAny_call_entry F.slot_zip_next hT F.entry_zip_next (zipS_end hh D hz hTI hTO h1 h2 hl1 hl2 hx hy fun h' e hk he => ?_) (F.args_zip_next_1 _))))
  obtain ⟨o, ho, hc⟩ := he
  refine wpAny_bind (wpAny_isInstance (T := "StopIteration") (b := true) ⟨o, ho, hc⟩ isSubtype_stop ?_)
  exact wpAny_pure (hQ _ hk)
theorem goS {elts : List Expr} {x1} {pos : Pos} {z TI TO T : Addr} {Q : Unit → Shared → Prop} (hz : IsZipS s.heap z TI TO (rawInt T))
    (hQ : ∀ h', IsZipS h' z TI TO .none → Heap.SameBut z s.heap h' → Q () { s with heap := h' }) :
    wpAny (model prog w) A (letOwnedTupleGo (.Tuple elts x1 pos) (.ref z) (.ref T)) Q E s := by
  unfold letOwnedTupleGo
  refine wpAny_bind (wpAny_load hz ?_)
  show wpAny _ _ (if (["enumerate", "zip", "dict_itemiterator", "dict_reverseitemiterator", "odict_iterator", "itertools.zip_longest", "itertools.pairwise"].contains "zip" &&
      (#[rawInt T, .bool false, .bool true, .ref TI, .ref TO] : Array Value)[0]? == some (rawInt T)) = true then _ else _) Q E s
  rw [if_pos (by simp)]
  refine wpAny_bind (wpAny_rule ?_)
  show wpAny _ _ (setField (.ref z) 0 .none) Q E s
  exact wpAny_setField_rec hz (by simp) fun h' hz' hs' => hQ h' hz' hs'
theorem iterS {z TI TO : Addr} {f0 : Value} {Q : Value → Shared → Prop} (hz : IsZipS s.heap z TI TO f0) (h : Q (.ref z) s) : wpAny (model prog w) A (pyIter (.ref z)) Q E s := by
  have hT : s.TypeIs (.ref z) "zip" := ⟨_, hz, rfl⟩
  refine wpAny_pyIter_slot hT F.slot_zip_iter (wpAny_call_entry F.slot_zip_iter hT F.entry_zip_iter ?_ (F.args_zip_iter_1 _))
  show wpAny _ _ (ret (.ref z)) _ _ s
  exact wpAny_pure ⟨_, rfl, "zip", _, hT, F.slot_zip_next.lookup, h⟩
end
def itO (c : Bool) (l : Addr) : Obj := { cls := .type (if c then "tuple_iterator" else "list_iterator"), data := .fields #[.ref l, .int 0 0] }
abbrev zsH1 (c1 : Bool) (h : Heap) (l1 : Addr) : Heap := h.push (itO c1 l1)
abbrev zsH2 (c1 c2 : Bool) (h : Heap) (l1 l2 : Addr) : Heap := (zsH1 c1 h l1).push (itO c2 l2)
abbrev zsH3 (c1 c2 : Bool) (h : Heap) (l1 l2 : Addr) : Heap := (zsH2 c1 c2 h l1 l2).push { cls := .type "tuple", data := .seq #[.ref h.objs.size, .ref (zsH1 c1 h l1).objs.size] }
abbrev zsH4 (c1 c2 : Bool) (h : Heap) (l1 l2 : Addr) : Heap := (zsH3 c1 c2 h l1 l2).push { cls := .type "tuple", data := .seq #[.none, .none] }
abbrev zsH5 (c1 c2 : Bool) (h : Heap) (l1 l2 : Addr) : Heap := (zsH4 c1 c2 h l1 l2).push { cls := .type "zip", data := .fields #[.none, .bool false, .bool true, .ref (zsH2 c1 c2 h l1 l2).objs.size, .ref (zsH3 c1 c2 h l1 l2).objs.size] }
abbrev stk : Str := Str.ofString "strict"
theorem iterB {prog : Program} {w : World} {A : Around} {E : Value → Shared → Prop} {s : Shared} {c : Bool} {l : Addr} {xs : Array Value} {Q : Value → Shared → Prop} (hl : SqB c s.heap l xs)
    (h : Q (.ref s.heap.objs.size) { s with heap := s.heap.push (itO c l) }) : wpAny (model prog w) A (pyIter (.ref l)) Q E s := by
  cases c with
  | true => exact wpAny_pyIter_tuple hl h
  | false => exact wpAny_pyIter_list hl h
set_option maxHeartbeats 3000000 in
theorem meets_zsNew (c1 c2 : Bool) (l1 l2 : Addr) (xs ys : Array Value) :
    Meets (Builtin.«zip.__new__» ⟨[.type "zip", .ref l1, .ref l2], [(stk, .bool true)]⟩) (fun _ R s => SqB c1 s.heap l1 xs ∧ SqB c2 s.heap l2 ys ∧
      R (.ok (.ret (.ref (zsH4 c1 c2 s.heap l1 l2).objs.size))) { s with heap := zsH5 c1 c2 s.heap l1 l2 }) :=
  .of_wp fun prog w A R s h => by
    obtain ⟨hp, g, d, tk, os⟩ := s; obtain ⟨hl1, hl2, h⟩ := h
    have hsub := sub_zip
    have e1 : (Str.ofString "strict" != ("strict" : Str)) = false := by decide +kernel
    have hL1 : SqB c1 (Shared.heap ⟨hp, g, d, tk, os⟩) l1 xs := hl1
    have hL2 : SqB c2 (Shared.heap ⟨hp.push (itO c1 l1), g, d, tk, os⟩) l2 ys := hl2.at fun o e => Heap.get?_push_of_some _ e
    wp_walk using iterB hL1, iterB hL2
    exact ⟨_, rfl, h⟩
end TL
set_option Elab.async false
set_option linter.all false
set_option maxRecDepth 100000
set_option maxHeartbeats 4000000
namespace TL
variable [Mode]
open PySem PySem.Spec PyProof.Rows L2
theorem tcS (a b v : Value) : checkTypeCall "zip" ⟨[a, b], [(stk, v)]⟩ = pure () := by kernel_rfl
theorem ncS (a b v : Value) : checkBuiltinCall "zip.__new__" ⟨[.type "zip", a, b], [(stk, v)]⟩ = pure () := by kernel_rfl
theorem aoS (obj a b v : Value) : argsOk "object.__init__" ⟨[obj, a, b], [(stk, v)]⟩ := by unfold argsOk; kernel_rfl
theorem itO_is (c : Bool) {h : Heap} {a l : Addr} (e : h.get? a = some (itO c l)) : ItB c h a l 0 := by
  cases c with
  | true => exact ⟨_, e, rfl, rfl⟩
  | false => exact ⟨_, e, rfl, rfl⟩
section
variable {prog : Program} {w : World} {A : Around} {E : Value → Shared → Prop} {s : Shared}
theorem call_zipS {c1 c2 : Bool} {l1 l2 : Addr} {xs ys : Array Value} {Q : Value → Shared → Prop} (hl1 : SqB c1 s.heap l1 xs) (hl2 : SqB c2 s.heap l2 ys)
    (h : ∀ h', IsZipS h' (s.heap.objs.size + 4) (s.heap.objs.size + 2) (s.heap.objs.size + 3) .none → IsPair h' (s.heap.objs.size + 2) (.ref s.heap.objs.size) (.ref (s.heap.objs.size + 1)) →
      IsPair h' (s.heap.objs.size + 3) .none .none → ItB c1 h' s.heap.objs.size l1 0 → ItB c2 h' (s.heap.objs.size + 1) l2 0 → h'.objs.size = s.heap.objs.size + 5 →
      (∀ c o, s.heap.get? c = some o → h'.get? c = some o) → Q (.ref (s.heap.objs.size + 4)) { s with heap := h' }) :
    wpAny (model prog w) A (call (.type "zip") [.ref l1, .ref l2] [(stk, .bool true)]) Q E s := by
  refine callType_newKw F.called_zip (by decide) (tcS _ _ _) (ncS _ _ _) (fun obj => aoS obj _ _ _) F.entry_zip_new
    (meets_zsNew c1 c2 l1 l2 xs ys) ⟨hl1, hl2, ?_⟩
  have fr : ∀ c l, (itO c l).isFreed = false := fun c l => by cases c <;> rfl
  have z1 : (zsH1 c1 s.heap l1).objs.size = s.heap.objs.size + 1 := Heap.size_push ..
  have z2 : (zsH2 c1 c2 s.heap l1 l2).objs.size = s.heap.objs.size + 2 := by rw [Heap.size_push, z1]
  have z3 : (zsH3 c1 c2 s.heap l1 l2).objs.size = s.heap.objs.size + 3 := by rw [Heap.size_push, z2]
  have z4 : (zsH4 c1 c2 s.heap l1 l2).objs.size = s.heap.objs.size + 4 := by rw [Heap.size_push, z3]
  have z5 : (zsH5 c1 c2 s.heap l1 l2).objs.size = s.heap.objs.size + 5 := by rw [Heap.size_push, z4]
  have g5 : (zsH5 c1 c2 s.heap l1 l2).get? (zsH4 c1 c2 s.heap l1 l2).objs.size = some _ := Heap.get?_push_size _ rfl
  have g4 : (zsH5 c1 c2 s.heap l1 l2).get? (zsH3 c1 c2 s.heap l1 l2).objs.size = some _ := Heap.get?_push_of_some _ (Heap.get?_push_size _ rfl)
  have g3 : (zsH5 c1 c2 s.heap l1 l2).get? (zsH2 c1 c2 s.heap l1 l2).objs.size = some _ := Heap.get?_push_of_some _ (Heap.get?_push_of_some _ (Heap.get?_push_size _ rfl))
  have g2 : (zsH5 c1 c2 s.heap l1 l2).get? (zsH1 c1 s.heap l1).objs.size = some _ := Heap.get?_push_of_some _ (Heap.get?_push_of_some _ (Heap.get?_push_of_some _ (Heap.get?_push_size _ (fr c2 l2))))
  have g1 : (zsH5 c1 c2 s.heap l1 l2).get? s.heap.objs.size = some _ := Heap.get?_push_of_some _ (Heap.get?_push_of_some _ (Heap.get?_push_of_some _ (Heap.get?_push_of_some _ (Heap.get?_push_size _ (fr c1 l1)))))
  show _ ∧ _
  rw [z2, z3, z4] at g5
  rw [z1, z2] at g3
  rw [z3] at g4
  rw [z1] at g2
  rw [z4]
  exact ⟨⟨_, g5, rfl⟩, h _ g5 g3 g4 (itO_is c1 g1) (itO_is c2 g2) z5 fun c o x =>
    Heap.get?_push_of_some _ (Heap.get?_push_of_some _ (Heap.get?_push_of_some _ (Heap.get?_push_of_some _ (Heap.get?_push_of_some _ x))))⟩
theorem callWith_typeKw {M : Model} {A : Around} {E : Value → Shared → Prop} {s : Shared} {env : Env} {pos : Pos} {T : String} {e : Expr} {rest : List Expr} {kws : List Keyword} {Q : Value → Shared → Prop}
    (h : wpAny M A (spliced (backTo pos (starEach (e :: rest) env))) (fun vs s₁ => wpAny M A (evalAll ((backToKw pos (keywordEach kws env)).map (·.2)))
      (fun kvs s₂ => wpAny M A (call (.type T) vs (((backToKw pos (keywordEach kws env)).filterMap (·.1)).zip kvs)) Q E s₂) E s₁) E s)
    (he : backTo pos (starEach (e :: rest) env) = (false, eval e env) :: backTo pos (starEach rest env) := by rfl)
    (hplain : (backTo pos (starEach (e :: rest) env)).any (·.1) = false := by rfl)
    (hall : (backToKw pos (keywordEach kws env)).all (·.1.isSome) = true := by rfl)
    (hkw : (backToKw pos (keywordEach kws env)).any (·.1.isNone) = false := by rfl) :
    wpAny M A (callWith pos (.type T) [] (backTo pos (starEach (e :: rest) env)) (backToKw pos (keywordEach kws env))) Q E s := by
  unfold callWith
  refine wpAny_bind (wpAny_holding (wpAny_mono (Q := fun a s₁ => wpAny M A (call (.type T) ([] ++ a.pos) a.kw) Q E s₁) ?_ (fun a s₁ h₁ => wpAny_bind (wpAny_standAt ?_)) fun _ _ x => x))
  · rw [he] at h ⊢
    exact PyProof.Rows.evalArgs_kwB hall h
  simp only [hplain, hkw, Bool.or_false]
  refine wpAny_bind (wpAny_pure ?_)
  exact wpAny_bind (wpAny_mono h₁ (fun r s₂ hr => wpAny_bind (wpAny_holding (wpAny_point (wpAny_pure hr)))) fun _ _ x => x)
end
/-! ### as HandS reads it -/
def SqX (c : Bool) (K : PySem.W.Frag) (H : Hp) (a : Addr) (xs : List V) : Prop := if c = true then SqT K H a xs else SqL K H a xs
/-- what stands at a and b as they are at each turn, the items in new pairs -/
def ItzS (c1 c2 : Bool) (K : PySem.W.Frag) (a b : Addr) : It :=
  ⟨fun i H => ∃ (xs ys : List V) (x y : V), SqX c1 K H a xs ∧ SqX c2 K H b ys ∧ xs[i]? = some x ∧ ys[i]? = some y,
    fun i H v H' => ∃ T x y, v = .ref T ∧ H T = none ∧ H' = upd H T (.tup [x, y]) ∧ (∀ xs, SqX c1 K H a xs → xs[i]? = some x) ∧ ∀ ys, SqX c2 K H b ys → ys[i]? = some y,
    fun i H => ∃ xs ys : List V, SqX c1 K H a xs ∧ SqX c2 K H b ys ∧ xs.length ≤ i ∧ ys.length ≤ i⟩
theorem sqx_get {X : Cx} {pins : List (Addr × Obj)} {σ : L2.St} {H : Hp} {s : Shared} {c : Bool} {a : Addr} {xs : List V} (I : Inv X pins σ H s) (h : SqX c X.K H a xs) : ∃ its : List Value, Vals xs its ∧ SqB c s.heap a its.toArray ∧ a < s.heap.objs.size := by
  cases c with
  | true =>
    obtain ⟨its, rv, p, _⟩ := I.tuple (show SqT X.K H a xs from h)
    obtain ⟨o, ho, _⟩ := id p
    exact ⟨its, rv, p, Heap.lt_size ho⟩
  | false =>
    obtain ⟨its, rv, p, _⟩ := I.list (show SqL X.K H a xs from h)
    exact ⟨its, rv, p.isList, p.lt⟩
theorem sqx_inj {X : Cx} {pins : List (Addr × Obj)} {σ : L2.St} {H : Hp} {s : Shared} {c : Bool} {a : Addr} {xs ys : List V} (I : Inv X pins σ H s) (h : SqX c X.K H a xs) (h' : SqX c X.K H a ys) : xs = ys := by
  cases c with
  | true => exact I.tuple_inj (show SqT X.K H a xs from h) h'
  | false => exact I.list_inj (show SqL X.K H a xs from h) h'
theorem turn_zipS {c1 c2 : Bool} {P : Program} {w : World} {K : PySem.W.Frag} {elts : List Expr} {kk : Nat} {tpos : Pos} {a b z TI TO i1 i2 : Addr} (D : ZipApart z TI TO i1 i2 a b) :
    Turn P w K (.Tuple elts kk tpos) (ItzS c1 c2 K a b) [z, TI, TO, i1, i2] z (fun i h => IsZipS h z TI TO .none ∧ IsPair h TI (.ref i1) (.ref i2) ∧ (∃ x y, IsPair h TO x y) ∧ ItB c1 h i1 a i ∧ ItB c2 h i2 b i) where
  mem := by simp
  obj := fun i h st c hc => by
    obtain ⟨hz, hTI, ⟨x, y, hTO⟩, h1, h2⟩ := st
    have e' : c = z ∨ c = TI ∨ c = TO ∨ c = i1 ∨ c = i2 := by simpa using hc
    rcases e' with q | q | q | q | q
    · rw [q]; exact ⟨_, hz, fun v q => nomatch q⟩
    · rw [q]; exact ⟨_, hTI, fun v q => nomatch q⟩
    · rw [q]; exact ⟨_, hTO, fun v q => nomatch q⟩
    · rw [q]; exact h1.get
    · rw [q]; exact h2.get
  keep := fun i h h' st k => by
    obtain ⟨hz, hTI, ⟨x, y, hTO⟩, h1, h2⟩ := st
    exact ⟨k z (by simp) _ hz, k TI (by simp) _ hTI, ⟨x, y, k TO (by simp) _ hTO⟩, h1.at fun o q => k i1 (by simp) o q, h2.at fun o q => k i2 (by simp) o q⟩
  item := by
    intro X hP hw hK hc i pins s σ H E I hf st hg
    subst hP hw hK
    obtain ⟨hz, hTI, ⟨x0, y0, hTO⟩, h1, h2⟩ := st
    obtain ⟨xs, ys, x, y, hqx, hqy, hx, hy⟩ := hg
    obtain ⟨its, rv, p, _⟩ := sqx_get I hqx
    obtain ⟨its2, rv2, p2, _⟩ := sqx_get I hqy
    obtain ⟨u, hu, ru⟩ := rv.get hx
    obtain ⟨u2, hu2, ru2⟩ := rv2.get hy
    have hzl : z < s.heap.objs.size := Heap.lt_size hz
    refine nextS_item D hz hTI hTO h1 h2 p p2 (x := u) (y := u2) (by simpa using hu) (by simpa using hu2) fun h' z' TO' h1' h2' hT hsz hk => ?_
    refine ⟨_, rfl, goS (s := { s with heap := h' }) z' fun h'' z'' sb => ?_⟩
    have hT2 : h''.get? s.heap.objs.size = some { cls := .type "tuple", data := .seq #[u, u2] } := (sb.2 _ (Nat.ne_of_gt hzl)).trans hT
    have new : ObjOk X.prog X.w (upd H s.heap.objs.size (.tup [x, y])) h'' s.heap.objs.size (.tup [x, y]) :=
      ⟨by show 2 ≤ sizeLine; decide, [u, u2], .cons ru (.cons ru2 .nil), ⟨_, hT2, rfl, _, rfl⟩⟩
    have I1 : Inv X pins σ (upd H s.heap.objs.size (.tup [x, y])) { s with heap := h'' } :=
      I.turnedNew (t' := s.toks) (ch := [z, TI, TO, i1, i2]) (fun c o hb q => (sb.2 c (fun q' => hb (by simp [q']))).trans (hk c o (fun q' => hb (by simp [q'])) (fun q' => hb (by simp [q'])) (fun q' => hb (by simp [q'])) (fun q' => hb (by simp [q'])) q)) hf (Nat.le_refl _) new
    refine ⟨.ref s.heap.objs.size, _, I1, rfl, ⟨_, x, y, rfl, I.hok.fresh (Nat.le_refl _), rfl, fun l hl => by rw [sqx_inj I hl hqx]; exact hx, fun l hl => by rw [sqx_inj I hl hqy]; exact hy⟩, ⟨z'', ?_, ⟨u, u2, ?_⟩, ?_, ?_⟩, fun c hcm => ?_⟩
    · exact (sb.2 _ D.TIz).trans (hk _ _ D.TIz D.TITO D.TIi1 D.TIi2 hTI)
    · exact (sb.2 _ D.TOz).trans TO'
    · exact h1'.at fun o q => (sb.2 _ D.i1z).trans q
    · exact h2'.at fun o q => (sb.2 _ D.i2z).trans q
    · have hlt : c < s.heap.objs.size := by
        have e' : c = z ∨ c = TI ∨ c = TO ∨ c = i1 ∨ c = i2 := by simpa using hcm
        rcases e' with q | q | q | q | q
        · rw [q]; exact hzl
        · rw [q]; exact Heap.lt_size hTI
        · rw [q]; exact Heap.lt_size hTO
        · rw [q]; obtain ⟨_, e1, _⟩ := h1.get; exact Heap.lt_size e1
        · rw [q]; obtain ⟨_, e2, _⟩ := h2.get; exact Heap.lt_size e2
      rw [upd_ne (Nat.ne_of_lt hlt)]
      exact (hf c hcm).1
  done := by
    intro X hP hw hK hc i pins s σ H E I hf st hg
    subst hP hw hK
    obtain ⟨hz, hTI, ⟨x0, y0, hTO⟩, h1, h2⟩ := st
    obtain ⟨xs, ys, hqx, hqy, q1, q2⟩ := hg
    obtain ⟨its, rv, p, _⟩ := sqx_get I hqx
    obtain ⟨its2, rv2, p2, _⟩ := sqx_get I hqy
    have l1 := rv.length
    have l2 := rv2.length
    exact nextS_end (I.ok.hd hc) D hz hTI hTO h1 h2 p p2 (by simp; omega) (by simp; omega) fun h' hk => ⟨rfl, I.turnedL (t' := s.toks) (ch := [z, TI, TO, i1, i2]) (fun c o hb q =>
      hk c o (fun q' => hb (by simp [q'])) (fun q' => hb (by simp [q'])) (fun q' => hb (by simp [q'])) (fun q' => hb (by simp [q'])) q) hf⟩
  self := fun A i s Q E st h => iterS st.1 h
def iZipSx (K : PySem.W.Frag) (ta : TA) : TI := fun σ H R => ta σ H fun vs H1 => ∃ c1 c2 a b xs ys, vs = [.ref a, .ref b] ∧ SqX c1 K H1 a xs ∧ SqX c2 K H1 b ys ∧ R (ItzS c1 c2 K a b) H1
theorem pi_zipS {X : Cx} {e e2 : Expr} {ta : TA} {p pos tpos kpos : Pos} {elts : List Expr} {kk ck : Nat} {cpos : Pos} (hg : Gl X "zip") (hm : X.mg "zip" = none) (ha : PA X [e, e2] ta)
    (he : backTo pos (starEach [e, e2] X.env) = (false, eval e X.env) :: backTo pos (starEach [e2] X.env) := by rfl) (hpl : (backTo pos (starEach [e, e2] X.env)).any (·.1) = false := by rfl) :
    PI X (.Tuple elts kk tpos) (.Call (.Name "zip" p) [e, e2] [⟨some "strict", .Constant (.bool true) ck cpos, kpos⟩] pos) (iZipSx X.K ta) := by
  refine ⟨fun pins s σ H R I h => ?_⟩
  refine wpAny_Call_Name_kw (ld_blt I hg hm PyProof.Rows.boot_zip ?_)
  refine callWith_typeKw (thn (ha.run pos pins s σ H _ I h) fun us s1 ⟨vs, H1, I1, r1, q1⟩ => thn ((pk_cons pe_bl pk_nil).run pos pins s1 σ H1 (fun zs H2 => zs = [.bl true] ∧ H1 = H2) I1 ⟨rfl, rfl⟩) fun ws s2 ⟨zs, H2, I2, r2, e1, e2⟩ => ?_) he hpl rfl rfl
  subst e1 e2
  obtain ⟨c1, c2, a, b, xs, ys, ex, hqx, hqy, q⟩ := q1
  subst ex
  cases r2 with
  | cons rb rn =>
  cases rn
  cases rb
  cases r1 with
  | cons r rr =>
    cases rr with
    | cons r' rr =>
      cases rr
      cases r
      cases r'
      have fresh5 : ∀ c, c ∈ [s2.heap.objs.size + 4, s2.heap.objs.size + 2, s2.heap.objs.size + 3, s2.heap.objs.size, s2.heap.objs.size + 1] → FpOk X pins H1 c := fun c hcm => by
        have e' : c = s2.heap.objs.size + 4 ∨ c = s2.heap.objs.size + 2 ∨ c = s2.heap.objs.size + 3 ∨ c = s2.heap.objs.size ∨ c = s2.heap.objs.size + 1 := by simpa using hcm
        have hle : s2.heap.objs.size ≤ c := by
          rcases e' with z | z | z | z | z
          · rw [z]; exact Nat.le_add_right _ _
          · rw [z]; exact Nat.le_add_right _ _
          · rw [z]; exact Nat.le_add_right _ _
          · rw [z]; exact Nat.le_refl _
          · rw [z]; exact Nat.le_add_right _ _
        exact I2.fpOk hle (I2.hok.fresh hle)
      obtain ⟨its, rv, p1, b1⟩ := sqx_get I2 hqx
      obtain ⟨its2, rv2, p2, b2⟩ := sqx_get I2 hqy
      refine call_zipS p1 p2 fun h' hz hTI hTO h1 h2 hsz hk => iterS hz ?_
      have I3 : Inv X pins σ H1 { s2 with heap := h' } := I2.kept (t' := s2.toks) hk
      exact ⟨s2.heap.objs.size + 4, [s2.heap.objs.size + 4, s2.heap.objs.size + 2, s2.heap.objs.size + 3, s2.heap.objs.size, s2.heap.objs.size + 1], _, _, H1, rfl, I3, turn_zipS (PySem.W.ktu_apart s2.heap.objs.size a b b1 b2), ⟨hz, hTI, ⟨_, _, hTO⟩, h1, h2⟩, fresh5, q⟩
/-! ### as plain data -/
def dZipS (x y : D) (P : List D → Prop) : Prop := ∃ xs ys, (x = .list xs ∨ x = .tuple xs) ∧ (y = .list ys ∨ y = .tuple ys) ∧ xs.length = ys.length ∧ P (zipD xs ys)
def iZpS (m m' : EM) : IM := fun τ n Q => m τ n fun x n1 => m' τ n1 fun y n2 => dZipS x y fun zs => Q zs n2
theorem sqx_mono {c : Bool} {K : PySem.W.Frag} {H H' : Hp} {a : Addr} {xs : List V} (e : Same H H') (h : SqX c K H a xs) : SqX c K H' a xs := by
  cases c with
  | true => exact seqT e (show SqT K H a xs from h)
  | false => exact e.seq (show SqL K H a xs from h)
theorem dp_sqx {K : PySem.W.Frag} {F : Hp} {v : V} {x : D} {xs : List D} (e : x = .list xs ∨ x = .tuple xs) (h : Dp K F v x) : ∃ (c : Bool) (a : Addr) (vs : List V), v = .ref a ∧ SqX c K F a vs ∧ DpAll K F vs xs := by
  rcases e with rfl | rfl
  · cases h with
    | lst h1 d1 => exact ⟨false, _, _, rfl, h1, d1⟩
  · cases h with
    | tup h1 d1 => exact ⟨true, _, _, rfl, h1.sq, d1⟩
theorem itzS_yf {K : PySem.W.Frag} {F : Hp} {c1 c2 : Bool} {a b : Addr} {vs ws : List V} {xs ys : List D} (hlen : xs.length = ys.length) (h : SqX c1 K F a vs) (h' : SqX c2 K F b ws) (hd : DpAll K F vs xs) (hd' : DpAll K F ws ys) : YF K (ItzS c1 c2 K a b) (zipD xs ys) F := fun i H F2 s1 s2 => by
  have hH : SqX c1 K H a vs := sqx_mono s2 (sqx_mono s1 h)
  have hH' : SqX c2 K H b ws := sqx_mono s2 (sqx_mono s1 h')
  refine ⟨fun d e => ?_, fun hl => ⟨vs, ws, hH, hH', ?_⟩⟩
  · rw [zipD_get] at e
    cases q : xs[i]? with
    | none => rw [q] at e; cases e
    | some x =>
      cases q' : ys[i]? with
      | none => rw [q, q'] at e; cases e
      | some y =>
        rw [q, q'] at e
        cases e
        obtain ⟨v, e1, e2⟩ := dpAll_get hd q
        obtain ⟨u, e3, e4⟩ := dpAll_get hd' q'
        refine ⟨⟨vs, ws, v, u, hH, hH', e1, e3⟩, ?_⟩
        rintro x' H2 ⟨T, w1, w2, rfl, hT, rfl, f1, f2⟩
        have g1 := f1 vs hH
        have g2 := f2 ws hH'
        rw [e1] at g1
        rw [e3] at g2
        cases g1
        cases g2
        exact pair_yield s2 hT (dp_mono s1 x _ e2) (dp_mono s1 y _ e4)
  · rw [zipD_len] at hl
    rw [dpAll_len hd, dpAll_len hd']
    omega
section
variable {X : Cx} {a b : Expr} {ma mb : EM} {p pos tpos kpos cpos : Pos}
theorem i_zipS {elts : List Expr} {kk ck : Nat} (hg : Gl X "zip") (hm : X.mg "zip" = none) (ha : E2 X .fz a ma) (hb : E2 X .fz b mb)
    (hs : starEach [a, b] X.env = (false, eval a X.env) :: starEach [b] X.env := by rfl) (hs' : starEach [b] X.env = (false, eval b X.env) :: starEach [] X.env := by rfl)
    (he : backTo pos (starEach [a, b] X.env) = (false, eval a X.env) :: backTo pos (starEach [b] X.env) := by rfl) (hpl : (backTo pos (starEach [a, b] X.env)).any (·.1) = false := by rfl) :
    I2 X (.Tuple elts kk tpos) (.Call (.Name "zip" p) [a, b] [⟨some "strict", .Constant (.bool true) ck cpos, kpos⟩] pos) (iZpS ma mb) := by
  refine ⟨pi_weak (pi_zipS hg hm (pa_cons ha.pe (pa_cons hb.pe pa_nil hs') hs) he hpl) fun σ H R ⟨A, τ, n, F, P, eK, Rl, hm, hq⟩ => tE_run eK Rl hm fun x n1 v1 H1 F1 p1 a1 r1 => tE_run eK (Rl.step a1) p1 ?_⟩
  rintro y n2 v2 H2 F2 ⟨xs, ys, ex, ey, hlen, q⟩ a2 r2
  have r1' := dp_mono (a2.fro a1.sub) x v1 r1
  have a12 := a1.trans a2
  obtain ⟨c1, l1, vs, rfl, h1, d1⟩ := dp_sqx ex r1'
  obtain ⟨c2, l2, ws, rfl, h2, d2⟩ := dp_sqx ey r2
  exact ⟨c1, c2, l1, l2, vs, ws, rfl, sqx_mono a2.sub h1, sqx_mono a2.sub h2, hq _ n2 _ H2 F2 q a12 (itzS_yf hlen h1 h2 d1 d2)⟩
end
@[simp] theorem dZipS_LT {xs ys : List D} {P : List D → Prop} : dZipS (.list xs) (.tuple ys) P ↔ xs.length = ys.length ∧ P (zipD xs ys) := by simp [dZipS]
@[simp] theorem dZipS_LL {xs ys : List D} {P : List D → Prop} : dZipS (.list xs) (.list ys) P ↔ xs.length = ys.length ∧ P (zipD xs ys) := by simp [dZipS]
@[simp] theorem dZipS_TT {xs ys : List D} {P : List D → Prop} : dZipS (.tuple xs) (.tuple ys) P ↔ xs.length = ys.length ∧ P (zipD xs ys) := by simp [dZipS]
@[simp] theorem dZipS_TL {xs ys : List D} {P : List D → Prop} : dZipS (.tuple xs) (.list ys) P ↔ xs.length = ys.length ∧ P (zipD xs ys) := by simp [dZipS]
@[simp] theorem iZpS_ap {m m' : EM} {τ : Ev} {n : Nat} {R : List D → Nat → Prop} : iZpS m m' τ n R ↔ m τ n fun x n1 => m' τ n1 fun y n2 => dZipS x y fun zs => R zs n2 := Iff.rfl
end TL
set_option Elab.async false
set_option linter.all false
set_option maxRecDepth 100000
set_option maxHeartbeats 4000000
namespace TL
variable [Mode]
open PySem PySem.Spec PyProof.Rows L2
/-! ### dicts whose keys are tuples of ints -/
section
variable {X : Cx} {pins : List (Addr × Obj)} {σ : L2.St} {H : Hp} {s : Shared}
end
/-! ### a dict comprehension, the dict by an own description -/
section
variable {X : Cx} {α : Type}
end
end TL
set_option Elab.async false
set_option linter.all false
set_option maxRecDepth 100000
set_option maxHeartbeats 4000000
namespace TL
variable [Mode]
open PySem PySem.Spec PyProof.Rows L2
/-! ### dicts with tuple keys, as plain data -/
structure DeI (A : Act) (bx : Bx) (n1 : Nat) (H1 F1 : Hp) (D0 : Addr) (acc : List (List Int)) (n : Nat) (H F : Hp) : Prop where
  adv : Adv bx n1 n H1 F1 H F
  fr : F D0 = none
  nb : ¬ Vol bx n D0
  at_ : ∃ kbs, H D0 = some (dE D0 kbs) ∧ (∀ p ∈ kbs, PlT A.K F p.2 (p.1.map V.int)) ∧ kbs.map (·.1) = acc
theorem DeI.step {A : Act} {bx : Bx} {n1 n n' : Nat} {H1 F1 H F H' F' : Hp} {D0 : Addr} {acc : List (List Int)} (L : DeI A bx n1 H1 F1 D0 acc n H F) (ad : Adv bx n n' H F H' F') : DeI A bx n1 H1 F1 D0 acc n' H' F' := by
  obtain ⟨kbs, h1, h2, h3⟩ := L.at_
  refine ⟨L.adv.trans ad, ?_, (fun z => (ad.new D0 z).elim L.nb fun w => by rw [h1] at w; cases w), kbs, ad.keep D0 _ h1 L.nb, fun p hp => (h2 p hp).mono (ad.fro L.adv.sub), h3⟩
  rw [ad.old D0 (by rw [h1]; exact fun z => nomatch z)]
  exact L.fr
section
variable {X : Cx} {K : PySem.W.Frag} {tg iter : Expr} {a b o kx vx : Expr} {ma mb mk mv : EM} {p pos tpos spos dpos : Pos} {kr : Kd} {x : Str}
end
end TL
set_option Elab.async false
set_option linter.all false
set_option maxRecDepth 100000
set_option maxHeartbeats 4000000
namespace TL
variable [Mode]
open PySem PySem.Spec PyProof.Rows L2
/-! ### xs[i] += e; dict([(k, v) ..]) -/
section
variable {X : Cx}
variable {o b e : Expr} {mb me : EM} {kr : Kd} {tpos pos : Pos} {x : Str}
end
end TL
set_option Elab.async false
set_option linter.all false
set_option maxRecDepth 100000
set_option maxHeartbeats 4000000
namespace TL
variable [Mode]
open PySem PySem.Spec PyProof.Rows L2
/-! ### two names at once, some of them in cells: by a tuple -/
section
variable {X : Cx} {a b : Expr} {ma mb : EM} {kr : Kd} {pos : Pos}
end
end TL
set_option Elab.async false
set_option linter.all false
set_option maxRecDepth 100000
set_option maxHeartbeats 4000000
namespace TL
variable [Mode]
open PySem PySem.Spec PyProof.Rows L2
/-! ### sum of a list of truths -/
section
variable {prog : Program} {w : World} {A : Around} {E : Value → Shared → Prop} {s : Shared} {t : Addr}
end
section
variable {X : Cx} {K : PySem.W.Frag} {a : Expr} {ma : EM} {p pos : Pos}
end
end TL
set_option Elab.async false
set_option linter.all false
set_option maxRecDepth 100000
set_option maxHeartbeats 4000000
/-! sorted: of pairs of a text and an int -/
namespace TL
variable [Mode]
open PySem PySem.Spec PyProof.Rows L2
def IsPairT (h : Heap) (v : Value) (p : Str × Int) : Prop := ∃ a o t u n, v = .ref a ∧ h.get? a = some o ∧ o.cls = .type "tuple" ∧ o.data = .seq #[.str p.1 t, .int p.2 u] n
theorem IsPairT.keeps {h h' : Heap} {v : Value} {x : Str × Int} (p : IsPairT h v x) (k : ∀ b o, h.get? b = some o → o.cls = .type "tuple" → h'.get? b = some o) : IsPairT h' v x := by
  obtain ⟨a, o, t, u, n, e, ho, hc, hd⟩ := p
  exact ⟨a, o, t, u, n, e, k _ _ ho hc, hc, hd⟩
section
variable {prog : Program} {w : World} {A : Around} {E : Value → Shared → Prop} {s : Shared}
end
section
variable {X : Cx}
end
section
variable {X : Cx} {K : PySem.W.Frag} {a : Expr} {ma : EM} {p pos : Pos}
end
end TL
set_option Elab.async false
set_option linter.all false
set_option maxRecDepth 100000
set_option maxHeartbeats 4000000
/-! a list unpacked to names -/
namespace TL
variable [Mode]
open PySem PySem.Spec PyProof.Rows L2
section
variable {prog : Program} {w : World} {A : Around} {E : Value → Shared → Prop} {s : Shared}
end
section
variable {X : Cx} {pos : Pos}
end
end TL
set_option Elab.async false
set_option linter.all false
set_option maxRecDepth 100000
set_option maxHeartbeats 4000000
/-! new lists within new lists, changed and left -/
namespace TL
variable [Mode]
open PySem PySem.Spec PyProof.Rows L2
section
variable {X : Cx} {pos : Pos} {a b : Expr} {ma mb : EM} {kr : Kd}
theorem frA_zero {H0 H : Hp} : ∀ {vs : List V} {ds : List D}, vs.length = ds.length → FrA (FrT H0 H 0) vs ds []
  | [], [], _ => rfl
  | v :: vs, d :: ds, h => ⟨[], [], rfl, rfl, frA_zero (by simpa using h), fun _ z => by cases z⟩
  | [], _ :: _, h => by simp at h
  | _ :: _, [], h => by simp at h
theorem E2.n1 (h : E2 X .nw a ma) : E2 X (.nn 1) a ma := ⟨pe_weak h.pe fun σ H Q ⟨A, τ, n, F, P, eK, R, hm, hq⟩ => ⟨A, τ, n, F, P, eK, R, hm, fun d n' v H' F' p a r => by
  obtain ⟨F2, h1, h2, h3, hB, h4⟩ := nw_fz a.sub r
  obtain ⟨q, vs, xs, rfl, rfl, h0, hf, g1, g2⟩ := r
  exact hq _ n' _ H' F2 p ⟨a.keep, fun c hc => (h1 c hc).trans (a.old c hc), h2, hB _ _ a.box, a.grow, a.new⟩ ⟨h4, [q], q, vs, xs, [], rfl, rfl, h0, .inl ⟨rfl, g1⟩, by simp, frA_zero (dpAll_len g2)⟩⟩⟩
theorem E2.ofN {k : Nat} (h : E2 X (.nn k) a ma) : E2 X .fz a ma := ⟨pe_weak h.pe fun σ H Q ⟨A, τ, n, F, P, eK, R, hm, hq⟩ => ⟨A, τ, n, F, P, eK, R, hm, fun d n' v H' F' p a r => hq d n' v H' F' p a r.1⟩⟩
/-! ### displays -/
theorem keep_node {bx : Bx} {n n' : Nat} {H F H' F' : Hp} (x : Adv bx n n' H F H' F') (b : BoxOk bx n H F) {c : Addr} (z : ∃ u, H c = some u ∧ ∀ φ, u ≠ .ext φ) : H' c = H c := by
  obtain ⟨u, z, zu⟩ := z
  have nb : ¬ Vol bx n c := BoxOk.no b z zu
  rw [z]
  exact x.keep c u z nb
/-! ### questions: if c: return e -/
abbrev QM := Ev → Nat → (Nat → Prop) → (D → Nat → Prop) → Prop
def tQ (K : PySem.W.Frag) (kr : Kd) (m : QM) (tn : TS) : TS := fun Dd σ H => ∃ A τ n F N P, A.K = K ∧ Rel A τ n σ H F ∧ m τ n N P ∧ (∀ n' H' F', N n' → Adv A.bx n n' H F H' F' → tn Dd σ H') ∧ (∀ d n' v H' F', P d n' → Adv A.bx n n' H F H' F' → RepK K kr H H' F' v d → Dd.rt v H')
def qNil : QM := fun _ n N _ => N n
def qIf (c : CM) (mb : EM) (r : QM) : QM := fun τ n N P => c τ n fun t n1 => if t = true then mb τ n1 P else r τ n1 N P
theorem q_nil {tail : List Stmt} {tn : TS} (h : PSs X tail tn) : PSs X tail (tQ X.K kr qNil tn) := pss_weak h fun Dd σ H ⟨A, τ, n, F, N, P, eK, R, hm, hn, hr⟩ => hn n H F hm (Adv.refl R.same R.box)
theorem q_if {c : Expr} {cc : CM} {tail : List Stmt} {tn : TS} {m : QM} {p2 : Pos} (hc : T2 X c cc) (hb : E2 X kr b mb) (h : PSs X tail (tQ X.K kr m tn)) : PSs X (.If c [.Return (some b) p2] [] pos :: tail) (tQ X.K kr (qIf cc mb m) tn) := by
  refine pss_weak (pss_cons (ps_if hc.pt (pss_one (ps_ret hb.pe)) pss_nil) h) fun Dd σ H ⟨A, τ, n, F, N, P, eK, R, hm, hn, hr⟩ => tT_go eK R hm fun d n1 H1 F1 p1 a1 => ?_
  cases d with
  | true =>
    refine iteT (tE_run eK (R.step a1) (by simpa using p1) fun d n2 v H2 F2 p2 a2 r2 => ?_)
    exact hr d n2 v H2 F2 p2 (a1.trans a2) (r2.h0 fun c z => a1.none_back c z)
  | false =>
    refine iteF ⟨A, τ, n1, F1, N, P, eK, R.step a1, by simpa using p1, fun n2 H2 F2 p2 a2 => hn n2 H2 F2 p2 (a1.trans a2), fun d n2 v H2 F2 p2 a2 r2 => hr d n2 v H2 F2 p2 (a1.trans a2) (r2.h0 fun c z => a1.none_back c z)⟩
/-! ### changes -/
def modP : List Nat → (List D → Option (List D)) → D → Option D
  | [], op, .list es => (op es).map .list
  | j :: ps, op, .list es => es[j]?.bind fun e => (modP ps op e).map fun e' => .list (es.set j e')
  | j :: ps, op, .tuple es => es[j]?.bind fun e => (modP ps op e).map fun e' => .tuple (es.set j e')
  | _, _, _ => none
abbrev MM := D → (D → Prop) → Prop
def mMod (ps : List Nat) (op : List D → Option (List D)) (r : MM) : MM := fun d R => ∃ d', modP ps op d = some d' ∧ r d' R
def mEnd : MM := fun d R => R d
theorem frA_set {P : V → D → List Addr → Prop} : ∀ {vs : List V} {ds : List D} {fp : List Addr} {j : Nat} {e : D}, FrA P vs ds fp → ds[j]? = some e → ∃ u f, vs[j]? = some u ∧ P u e f ∧ (∀ a ∈ f, a ∈ fp) ∧
    ∀ (Q : V → D → List Addr → Prop) e' f', Q u e' f' → (∀ a ∈ f', a ∈ f) → (∀ v d g, P v d g → (∀ a ∈ g, a ∈ fp) → (∀ a ∈ g, a ∉ f) → Q v d g) → ∃ fp', FrA Q vs (ds.set j e') fp' ∧ ∀ a ∈ fp', a ∈ fp
  | [], [], _, j, e, _, h => by simp at h
  | v :: vs, d :: ds, fp, 0, e, ⟨f1, f2, ef, h1, h2, h3⟩, h => by
    simp at h
    subst h
    refine ⟨v, f1, rfl, h1, fun a ha => by rw [ef]; exact List.mem_append_left _ ha, fun Q e' f' q1 q2 w => ⟨f' ++ f2, ⟨f', f2, rfl, q1, h2.mono fun u x g hu hg => w u x g hu (fun a ha => by rw [ef]; exact List.mem_append_right _ (hg a ha)) fun a ha z => h3 a z (hg a ha), fun a ha => h3 a (q2 a ha)⟩, fun a ha => ?_⟩⟩
    rw [ef]
    rcases List.mem_append.mp ha with ha | ha
    · exact List.mem_append_left _ (q2 a ha)
    · exact List.mem_append_right _ ha
  | v :: vs, d :: ds, fp, j + 1, e, ⟨f1, f2, ef, h1, h2, h3⟩, h => by
    obtain ⟨u, f, g1, g2, g3, g4⟩ := frA_set (j := j) h2 (by simpa using h)
    refine ⟨u, f, by simpa using g1, g2, fun a ha => by rw [ef]; exact List.mem_append_right _ (g3 a ha), fun Q e' f' q1 q2 w => ?_⟩
    obtain ⟨fp', k1, k2⟩ := g4 Q e' f' q1 q2 fun v d g hv hg hn => w v d g hv (fun a ha => by rw [ef]; exact List.mem_append_right _ (hg a ha)) hn
    refine ⟨f1 ++ fp', ⟨f1, fp', rfl, w v d f1 h1 (fun a ha => by rw [ef]; exact List.mem_append_left _ ha) fun a ha z => h3 a ha (g3 a z), k1, fun a ha z => h3 a ha (k2 a z)⟩, fun a ha => ?_⟩
    rw [ef]
    rcases List.mem_append.mp ha with ha | ha
    · exact List.mem_append_left _ ha
    · exact List.mem_append_right _ (k2 a ha)
  | [], _ :: _, _, _, _, h, _ => h.elim
  | _ :: _, [], _, _, _, h, _ => h.elim
/-- the value at a path -/
def tPth (K : PySem.W.Frag) : List Nat → V → Hp → VK → Prop
  | [], x, H, Q => Q x H
  | j :: ps, x, H, Q => rIx K x (.int j) H fun y H1 => tPth K ps y H1 Q
theorem tPth_snoc (K : PySem.W.Frag) : ∀ (ps : List Nat) (j : Nat) (x : V) (H : Hp) (Q : VK), tPth K (ps ++ [j]) x H Q = tPth K ps x H fun y H1 => rIx K y (.int j) H1 Q
  | [], _, _, _, _ => rfl
  | i :: ps, j, x, H, Q => by
    show rIx K x (.int i) H _ = rIx K x (.int i) H _
    congr 1
    funext y H1
    exact tPth_snoc K ps j y H1 Q
theorem tPth_mono {K : PySem.W.Frag} : ∀ (ps : List Nat) (x : V) (H : Hp) {Q Q' : VK}, tPth K ps x H Q → (∀ y H1, Q y H1 → Q' y H1) → tPth K ps x H Q'
  | [], x, H, _, _, h, w => w x H h
  | j :: ps, x, H, _, _, h, w => by
    rcases h with ⟨p, xs, i, v, e1, e2, h1, h2, h3⟩ | ⟨p, xs, i, v, e1, e2, h1, h2, h3⟩ | ⟨z, i, c, e1, e2, h1, h2, h3⟩
    · exact .inl ⟨p, xs, i, v, e1, e2, h1, h2, tPth_mono ps v H h3 w⟩
    · exact .inr (.inl ⟨p, xs, i, v, e1, e2, h1, h2, tPth_mono ps v H h3 w⟩)
    · exact .inr (.inr ⟨z, i, c, e1, e2, h1, h2, tPth_mono ps _ H h3 w⟩)
/-- what a change does to a list's values -/
def DoesO (op : List D → Option (List D)) (g : List V → List V) (top : Bool) : Prop := ∀ (ws : List V) (es es' : List D), ws.length = es.length → op es = some es' → (g ws).length = es'.length ∧ (top = true → es' = [] ∧ g ws = [])
theorem mod_run {K : PySem.W.Frag} {op : List D → Option (List D)} {g : List V → List V} {top : Bool} (hg : DoesO op g top) {H0 H : Hp} : ∀ (ps : List Nat) (k : Nat) (v : V) (d d' : D) (fp : List Addr) (Q : VK), FrT H0 H k v d fp → modP ps op d = some d' → (if top = true then ps.length < k else ps.length + 1 = k) →
    (∀ l ws es, H l = some (.lst ws) → ws.length = es.length → (op es).isSome = true → (∃ fp', FrT H0 (upd H l (.lst (g ws))) k v d' fp' ∧ (∀ a ∈ fp', a ∈ fp) ∧ l ∈ fp) → Q (.ref l) H) → tPth K ps v H Q
  | [], k, v, d, d', fp, Q, hf, hm, hk, hq => by
    cases d with
    | list es =>
      cases k with
      | zero => split at hk <;> simp at hk
      | succ k =>
        obtain ⟨a, vs, ds, fp', rfl, ef, h0, h1, h3, h2⟩ := hf
        rcases h1 with ⟨e, h1⟩ | ⟨e, _⟩
        · cases e
          unfold modP at hm
          obtain ⟨es', h4, rfl⟩ := Option.map_eq_some_iff.mp hm
          obtain ⟨g1, g2⟩ := hg vs es es' h2.len h4
          refine hq a vs es h1 h2.len (by rw [h4]; rfl) ⟨[a], ⟨a, g vs, es', [], rfl, rfl, h0, .inl ⟨rfl, upd_same⟩, by simp, ?_⟩, fun c hc => by rw [List.mem_singleton.mp hc, ef]; simp, by rw [ef]; simp⟩
          cases top with
          | true =>
            obtain ⟨e1, e2⟩ := g2 rfl
            rw [e1, e2]
            exact rfl
          | false =>
            have : k = 0 := by simpa using hk.symm
            subst this
            exact frA_zero g1
        · cases e
    | _ => cases hm
  | j :: ps, k, v, d, d', fp, Q, hf, hm, hk, hq => by
    cases k with
    | zero => split at hk <;> simp at hk
    | succ k =>
      obtain ⟨a, vs, ds, fp', rfl, ef, h0, h1, h3, h2⟩ := hf
      have hk' : if top = true then ps.length < k else ps.length + 1 = k := by
        split at hk <;> rename_i z
        · rw [if_pos z]; simp at hk; omega
        · rw [if_neg z]; simp at hk; omega
      have key : ∀ (e e' : D) (d2 : D), ds[j]? = some e → modP ps op e = some e' → (∀ H', H' a = H a → NodeAt H' a d2 vs (ds.set j e')) → d' = d2 → ∃ u, vs[j]? = some u ∧ tPth K ps u H Q := by
        rintro e e' d2 he hm' hN rfl
        obtain ⟨u, f, g1, g2, g3, g4⟩ := frA_set h2 he
        refine ⟨u, g1, mod_run hg ps k u e e' f Q g2 hm' hk' fun l ws es q1 q2 q3 ⟨f', r1, r2, r3⟩ => ?_⟩
        refine hq l ws es q1 q2 q3 ?_
        have la : a ≠ l := fun z => by subst z; exact h3 (g3 a r3)
        obtain ⟨fp'', k1, k2⟩ := g4 _ e' f' r1 r2 fun v d y hv hy hn => hv.mono (fun _ _ z => z) fun c hc => by
          rw [upd_ne]
          intro z
          subst z
          exact hn _ hc r3
        refine ⟨a :: fp'', ⟨a, vs, ds.set j e', fp'', rfl, rfl, h0, hN _ (upd_ne la), fun z => h3 (k2 a z), k1⟩, fun c hc => ?_, ?_⟩
        · rw [ef]
          rcases List.mem_cons.mp hc with rfl | hc
          · simp
          · exact List.mem_cons_of_mem _ (k2 c hc)
        · rw [ef]
          exact List.mem_cons_of_mem _ (g3 l r3)
      show rIx K (.ref a) (.int j) H fun y H1 => tPth K ps y H1 Q
      rcases h1 with ⟨e0, h1⟩ | ⟨e0, o, h1⟩
      · subst e0
        unfold modP at hm
        obtain ⟨e, he, hm⟩ := Option.bind_eq_some_iff.mp hm
        obtain ⟨e', hm', e2⟩ := Option.map_eq_some_iff.mp hm
        obtain ⟨u, hu, t⟩ := key e e' _ he hm' (fun H' q => .inl ⟨rfl, q.trans h1⟩) e2.symm
        exact .inl ⟨a, vs, j, u, rfl, rfl, .inl (.inl h1), L2.atI_nat hu, t⟩
      · subst e0
        unfold modP at hm
        obtain ⟨e, he, hm⟩ := Option.bind_eq_some_iff.mp hm
        obtain ⟨e', hm', e2⟩ := Option.map_eq_some_iff.mp hm
        obtain ⟨u, hu, t⟩ := key e e' _ he hm' (fun H' q => .inr ⟨rfl, o, q.trans h1⟩) e2.symm
        exact .inr (.inl ⟨a, vs, j, u, rfl, rfl, .inl (.inr ⟨o, h1⟩), L2.atI_nat hu, t⟩)
/-! ### the statements that change -/
def tM (i k : Nat) (m : MM) (tn : TS) : TS := fun Dd σ H => ∃ H0 v d fp R, σ[i]? = some (some v) ∧ FrT H0 H k v d fp ∧ m d R ∧ ∀ d' H' fp', R d' → FrT H0 H' k v d' fp' → (∀ a ∈ fp', a ∈ fp) → (∀ a, a ∉ fp → H' a = H a) → tn Dd σ H'
theorem m_end {i k : Nat} {tail : List Stmt} {tn : TS} (h : PSs X tail tn) : PSs X tail (tM i k mEnd tn) := pss_weak h fun Dd σ H ⟨H0, v, d, fp, R, e, hf, hm, hr⟩ => hr d H fp hm hf (fun _ z => z) fun _ _ => rfl
/-- x[j]..[l], a name's value at a path -/
def tPa (K : PySem.W.Frag) (i : Nat) (ps : List Nat) : TE := fun σ H Q => tVar i σ H fun x H1 => tPth K ps x H1 Q
theorem pa_name {i : Nat} {e : Expr} (h : PE X e (tVar i)) : PE X e (tPa X.K i []) := h
theorem pa_ix {i : Nat} {ps : List Nat} {e : Expr} {j : Nat} {jk} {jp p2 : Pos} (h : PE X e (tPa X.K i ps)) (hs : PlainIx (.Constant (.int (j : Nat)) jk jp) := by exact fun _ _ => rfl) : PE X (.Subscript e (.Constant (.int (j : Nat)) jk jp) p2) (tPa X.K i (ps ++ [j])) := by
  refine pe_weak (pe_ix ix_seq h pe_int hs) fun σ H Q hq => ?_
  obtain ⟨x, e1, q⟩ := hq
  rw [tPth_snoc] at q
  exact ⟨x, e1, q⟩
/-- one change, its method of any list -/
theorem m_call {i k : Nat} {ps : List Nat} {op : List D → Option (List D)} {g : List V → List V} {top : Bool} {call : Expr} {te : TE} {tail : List Stmt} {tn : TS} {m : MM} (hg : DoesO op g top) (hk : if top = true then ps.length < k else ps.length + 1 = k)
    (h : PE X call te) (ht : ∀ σ H Q, tPa X.K i ps σ H (fun x H1 => ∃ l ws es, x = .ref l ∧ H1 l = some (.lst ws) ∧ ws.length = es.length ∧ (op es).isSome = true ∧ Q .non (upd H1 l (.lst (g ws)))) → te σ H Q)
    (hs : swapsWith call none pos.line X.env = pure false := by rfl) (hr : PSs X tail (tM i k m tn)) : PSs X (.Expr call pos :: tail) (tM i k (mMod ps op m) tn) := by
  refine pss_weak (pss_cons (ps_expr (pe_weak h ht) hs) hr) fun Dd σ H ⟨H0, v, d, fp, R, e, hf, ⟨d', hm, hm'⟩, hr⟩ => ?_
  refine ⟨v, e, mod_run hg ps k v d d' fp _ hf hm hk fun l ws es q1 q2 q3 ⟨fp', r1, r2, r3⟩ => ?_⟩
  refine ⟨l, ws, es, rfl, q1, q2, q3, ?_⟩
  refine ⟨H0, v, d', fp', R, e, r1, hm', fun d2 H2 fp2 p2 f2 s2 w2 => hr d2 H2 fp2 p2 f2 (fun a ha => r2 a (s2 a ha)) fun a ha => ?_⟩
  rw [w2 a fun z => ha (r2 a z), upd_ne fun z => by subst z; exact ha r3]
def oA (c : D) : List D → Option (List D) := fun es => if es.length < sizeLine then some (es ++ [c]) else none
theorem doesA (c : D) (w : V) : DoesO (oA c) (fun ws => ws ++ [w]) false := fun ws es es' hl h => by
  unfold oA at h
  split at h
  · cases h
    exact ⟨by simp [hl], fun z => by cases z⟩
  · cases h
section
variable {i k : Nat} {ps : List Nat} {o arg : Expr} {apos cpos : Pos} {tail : List Stmt} {tn : TS} {m : MM} {w : V} {c : D}
theorem m_app (ho : PE X o (tPa X.K i ps)) (ha : PE X arg (tC w)) (hr : PSs X tail (tM i k m tn)) (hk : ps.length + 1 = k := by rfl)
    (hbase : attributeBase o "append" X.env (eval o X.env) = eval o X.env := by rfl) (hfew : ((backTo cpos (starEach [arg] X.env)).all (fun x => !x.1) && (backToKw cpos (keywordEach [] X.env)).all (fun x => x.1.isSome)
      && decide (([arg] : List Expr).length + ([] : List Keyword).length + (if ([] : List Keyword).isEmpty then 0 else 1) < 30)) = true := by rfl)
    (hline : (apos.endLine == cpos.line) = true := by rfl) (hs : starEach [arg] X.env = (false, eval arg X.env) :: starEach [] X.env := by rfl) (hplain : (backTo cpos (starEach [] X.env)).any (·.1) = false := by rfl)
    (hsw : swapsWith (.Call (.Attribute o "append" apos) [arg] [] cpos) none pos.line X.env = pure false := by rfl) :
    PSs X (.Expr (.Call (.Attribute o "append" apos) [arg] [] cpos) pos :: tail) (tM i k (mMod ps (oA c) m) tn) := by
  refine m_call (doesA c w) (by simpa using hk) (pe_bm PySem.F.plainAttrs_list PySem.F.slot_list_append PySem.F.type_list_append mt_append ho (pa_cons ha pa_nil hs) hbase hfew hline hs hplain) (fun σ H Q ⟨x, e, q⟩ => ⟨x, e, ?_⟩) hsw hr
  refine tPth_mono ps x H q ?_
  rintro y H1 ⟨l, ws, es, rfl, q1, q2, q3, q4⟩
  have hl : es.length < sizeLine := by
    unfold oA at q3
    split at q3
    · assumption
    · cases q3
  exact ⟨.inl ⟨rfl, ws, .inl (.inl q1)⟩, l, ws, w, rfl, rfl, q1, by omega, q4⟩
end
/-! ### a name gets new lists within new lists, is asked about, they are changed, it is left -/
def sNest (i : Nat) (ma : EM) (mq : QM) (mm : MM) (mr : SM) : SM := fun E τ n => i < τ.length ∧ ma τ n fun d n1 => mq (τ.set i (some (.d d))) n1 (fun n2 => mm d fun _ => mr E (τ.set i none) n2) E.rt
theorem Rel.gone {A : Act} {τ : Ev} {n n' : Nat} {σ : L2.St} {H F H' : Hp} {v : V} (i : Nat) (R : Rel A τ n σ H F) (x : Adv A.bx n n' H F H' F) : Rel A (τ.set i none) n' (σ.set i (some v)) H' F := by
  have R' := R.step x
  refine ⟨R'.ok, by rw [List.length_set, List.length_set]; exact R'.len, R'.adv, fun j s e => ?_, fun j l a s1 s2 hjl e1 o1 e2 o2 e3 e4 => ?_⟩
  · by_cases z : j = i
    · subst z
      rw [List.getElem?_set_self (by
        have := (List.getElem?_eq_some_iff.mp e).1
        rwa [List.length_set] at this)] at e
      cases e
    · rw [List.getElem?_set_ne (Ne.symm z)] at e
      obtain ⟨w, h1, h2⟩ := R'.sl j s e
      exact ⟨w, by rw [List.getElem?_set_ne (Ne.symm z)]; exact h1, h2⟩
  · have no : ∀ {j : Nat} {s : Sl}, (τ.set i none)[j]? = some (some s) → j ≠ i := fun {j s} e z => by
      subst z
      rw [List.getElem?_set_self (by
        have := (List.getElem?_eq_some_iff.mp e).1
        rwa [List.length_set] at this)] at e
      cases e
    have nj := no e1
    have nl := no e2
    rw [List.getElem?_set_ne (Ne.symm nj)] at e1 e3
    rw [List.getElem?_set_ne (Ne.symm nl)] at e2 e4
    exact R'.dis j l a s1 s2 hjl e1 o1 e2 o2 e3 e4
end
section
variable {τ : Ev} {n : Nat} {E : En}
@[simp] theorem sNest_ap {i : Nat} {ma : EM} {mq : QM} {mm : MM} {mr : SM} : sNest i ma mq mm mr E τ n ↔ i < τ.length ∧ ma τ n fun d n1 => mq (τ.set i (some (.d d))) n1 (fun n2 => mm d fun _ => mr E (τ.set i none) n2) E.rt := Iff.rfl
@[simp] theorem qNil_ap {N : Nat → Prop} {P : D → Nat → Prop} : qNil τ n N P ↔ N n := Iff.rfl
@[simp] theorem qIf_ap {c : CM} {mb : EM} {r : QM} {N : Nat → Prop} {P : D → Nat → Prop} : qIf c mb r τ n N P ↔ c τ n fun t n1 => if t = true then mb τ n1 P else r τ n1 N P := Iff.rfl
@[simp] theorem mEnd_ap {d : D} {R : D → Prop} : mEnd d R ↔ R d := Iff.rfl
@[simp] theorem mMod_ap {ps : List Nat} {op : List D → Option (List D)} {r : MM} {d : D} {R : D → Prop} : mMod ps op r d R ↔ ∃ d', modP ps op d = some d' ∧ r d' R := Iff.rfl
end
section
variable {P : Program} {w : World} {K : PySem.W.Frag} {mg : Str → Option Value} {base : Heap}
theorem fn_okN {x qual : Str} {params : Arguments} {body : List Stmt} {scope : Scope} {f : Addr} {fd : FuncData} {N ps : List Str} {k : Nat} {kr : Kd} {b : SM} {mN : Nat}
    (F : FunD K x qual params body scope [] [] f fd) (S : FnScope N ps scope) (hN : N.length = mN)
    (hbody : ∀ (cdv : Value) (A : Around) (outer : List Env) (s : Shared) (H : Hp) (E : XK), Room k (A.deeper (envOfC qual scope s.heap.objs.size f cdv)) → S2 (cxOf CX0 P w K mg base N qual scope f cdv A outer s H E).nox kr body b)
    (hnx : ∀ E τ n, b E τ n → b { E with nx := fun _ _ => False } τ n) :
    FnOk P w K mg base CX0 (k + 1) f fd ps (Pr K kr ps.length (bodyM mN fun _ => b)) := by
  refine F.ok S (fun vs H Q E h => Pr.len vs H Q E h) fun cdv A outer s H vs Q E hr h => ⟨_, ((hbody cdv A outer s H E hr).ps _ takesF).nox, ?_⟩
  obtain ⟨F0, as, n, bx, P', PX, hl, sm, hb, hp, hm, hq, hx⟩ := h
  have R := start_rel (N := N) sm hb hp
  rw [hN] at R
  exact ⟨_, _, n, F0, _, rfl, R, hnx _ _ _ hm, ⟨fun _ _ _ _ _ z => z.elim, fun _ _ _ _ _ z => z.elim, fun _ _ _ _ _ z => z.elim, fun d n' v H' F' p' a' r' => hq d n' v H' F' p' a' r', fun _ _ _ _ _ _ _ _ z => z.elim⟩⟩
end
end TL
namespace TL
open PySem PySem.Spec PyProof.Rows L2
section
variable {X : Cx} {pos : Pos} {a b : Expr} {ma mb : EM} {kr : Kd}
theorem s_nest {i k : Nat} {x : Str} {pos' : Pos} {tail : List Stmt} {mq : QM} {mm : MM} {mr : SM} (hN : X.N.Nodup) (hi : X.N[i]? = some x) (hx : Loc X.env.scope x) (h : E2 X (.nn k) a ma) (ht : ∀ Wx : WX, Takes X Wx → PSs X tail (tQ X.K kr mq (tM i k mm (tS X.K kr Wx mr))))
    (hs : swapsWith a (some (.Name x pos')) pos.line X.env = pure false := by rfl) (hf : X.fn x = true ∨ X.env.scope.names.lookup x = some .local := by first | exact .inl rfl | exact .inr rfl | assumption) :
    S2 X kr (.Assign [.Name x pos'] a pos :: tail) (sNest i ma mq mm mr) := by
  refine ⟨fun Wx tk => pss_weak (pss_cons (ps_set hN hi hx h.pe hs hf) (ht Wx tk)) fun Dd σ H ⟨A, τ, n, F, E, eK, R, ⟨hb, p⟩, e⟩ => tE_run eK R p fun d n1 v H1 F1 p1 a1 r1 => ?_⟩
  rw [← eK] at r1
  rw [R.len] at hb
  have R1 : Rel A (τ.set i (some (.d d))) n1 (σ.set i (some v)) H1 F1 := R.set1 (k := .nn k) i (by intro z; cases z) a1 r1
  refine ⟨A, _, n1, F1, _, _, eK, R1, p1, fun n2 H2 F2 p2 a2 => ?_, fun d2 n2 v2 H2 F2 p2 a2 r2 => ?_⟩
  · obtain ⟨_, fp, g⟩ := r1
    have g2 : FrT H H2 k v d fp := g.mono (fun _ _ z => z) fun c hc => keep_node a2 R1.box (g.at c hc).2
    refine ⟨H, v, d, fp, _, List.getElem?_set_self hb, g2, p2, fun d' H3 fp3 p3 g3 s3 w3 => ?_⟩
    have a12 := a1.trans a2
    have x3 : Adv A.bx n n2 H F H3 F := by
      have kp : ∀ c o, H c = some o → H3 c = H2 c := fun c o z => w3 c fun y => by
        rw [(g.at c y).1] at z
        cases z
      have sm3 : Same F H3 := fun c o z => by
        have hz := R.same c o z
        have nb : ¬ Vol A.bx n c := fun y => by
          rw [(R.box.2 c y).2] at z
          cases z
        exact (kp c o hz).trans (a12.keep c o hz nb)
      refine ⟨fun c o z y => (kp c o z).trans (a12.keep c o z y), fun _ _ => rfl, ?_, ⟨?_, fun b z => ?_⟩, fun _ z => z, fun _ z => .inl z⟩
      · exact sm3
      · exact sm3
      · exact ⟨(kp b _ (R.box.2 b z).1).trans (a12.box.2 b z).1, (R.box.2 b z).2⟩
    exact ⟨A, _, n2, F, E, eK, R.gone i x3, p3, e⟩
  · rw [← eK] at r2
    exact e.rt d2 n2 v2 H2 F2 p2 ((R.adv.trans a1).trans a2) ((r2.h0 fun c z => a1.none_back c z).h0 fun c z => R.h0some z)
end
end TL
set_option Elab.async false
set_option linter.all false
set_option maxRecDepth 100000
set_option maxHeartbeats 4000000
/-! a tuple once; list(range(a, b)), tuple(range(a, b)) -/
namespace TL
variable [Mode]
open PySem PySem.Spec PyProof.Rows L2
section
variable {X : Cx} {K : PySem.W.Frag} {a b : Expr} {ma mb : EM} {pos : Pos}
end
end TL
set_option Elab.async false
set_option linter.all false
set_option maxRecDepth 100000
set_option maxHeartbeats 4000000
/-! xs[i], xs[k] = a, b of an owned list -/
namespace TL
variable [Mode]
open PySem PySem.Spec PyProof.Rows L2
section
variable {X : Cx} {a b : Expr} {ma mb : EM} {kr : Kd} {pos : Pos}
end
end TL
set_option Elab.async false
set_option linter.all false
set_option maxRecDepth 100000
set_option maxHeartbeats 4000000
/-! repr of any plain data -/
namespace TL
variable [Mode]
open PySem PySem.Spec PyProof.Rows L2
section
variable {X : Cx} {a : Expr} {ma : EM} {p pos : Pos}
end
end TL
set_option Elab.async false
set_option linter.all false
set_option maxRecDepth 100000
set_option maxHeartbeats 4000000
/-! list(range(a, b)), tuple(range(a, b)); count of a tuple -/
namespace TL
variable [Mode]
open PySem PySem.Spec PyProof.Rows L2
section
variable {X : Cx} {K : PySem.W.Frag} {a b : Expr} {ma mb : EM} {p q pos qos : Pos}
end
/-! ### count of a tuple -/
section
variable {X : Cx}
end
section
variable {X : Cx} {a b : Expr} {ma mb : EM} {apos cpos : Pos}
end
end TL
set_option Elab.async false
set_option linter.all false
set_option maxRecDepth 100000
set_option maxHeartbeats 4000000
/-! list(zip(xs, ys, strict=True)) -/
namespace TL
variable [Mode]
open PySem PySem.Spec PyProof.Rows L2
abbrev IsZipSH (h : Heap) (z TI TO T : Addr) (f : Bool) : Prop :=
  h.get? z = some { cls := .type "zip", dict := none, data := .fields #[rawInt T, .bool f, .bool true, .ref TI, .ref TO], slots := #[] }
section
variable {prog : Program} {w : World} {A : Around} {E : Value → Shared → Prop} {s : Shared}
end
/-- the zip as a list takes from it -/
structure ZSt (c1 c2 : Bool) (h : Heap) (z TI TO i1 i2 l1 l2 S : Addr) (i : Nat) (xs ys : Array Value) : Prop where
  pair : IsPair h TI (.ref i1) (.ref i2)
  it1 : ItB c1 h i1 l1 i
  it2 : ItB c2 h i2 l2 i
  sq1 : SqB c1 h l1 xs
  sq2 : SqB c2 h l2 ys
  zip : (IsZipS h z TI TO .none ∧ ∃ a b, IsPair h TO a b) ∨ ∃ T f oT, IsZipSH h z TI TO T f ∧ h.get? T = some oT ∧ T ≠ z ∧ T ≠ i1 ∧ T ≠ i2 ∧ T ≠ S
structure ZApart (z TI TO i1 i2 l1 l2 S : Addr) : Prop where
  a : ZipApart z TI TO i1 i2 l1 l2
  z : z ≠ S
  TI : TI ≠ S
  TO : TO ≠ S
  i1 : i1 ≠ S
  i2 : i2 ≠ S
  l1 : l1 ≠ S
  l2 : l2 ≠ S
theorem ZSt.keep {c1 c2 : Bool} {h h' : Heap} {z TI TO i1 i2 l1 l2 S : Addr} {i : Nat} {xs ys : Array Value} (x : ZSt c1 c2 h z TI TO i1 i2 l1 l2 S i xs ys) (D : ZApart z TI TO i1 i2 l1 l2 S) (hk : ∀ b o, b ≠ S → h.get? b = some o → h'.get? b = some o) : ZSt c1 c2 h' z TI TO i1 i2 l1 l2 S i xs ys := by
  refine ⟨hk _ _ D.TI x.pair, x.it1.at fun o e => hk _ o D.i1 e, x.it2.at fun o e => hk _ o D.i2 e, x.sq1.at fun o e => hk _ o D.l1 e, x.sq2.at fun o e => hk _ o D.l2 e, ?_⟩
  rcases x.zip with ⟨hz, a, b, hTO⟩ | ⟨T, f, oT, hz, hT, r1, r2, r3, r4⟩
  · exact .inl ⟨hk _ _ D.z hz, a, b, hk _ _ D.TO hTO⟩
  · exact .inr ⟨T, f, oT, hk _ _ D.z hz, hk _ _ r4 hT, r1, r2, r3, r4⟩
section
variable {prog : Program} {w : World} {A : Around} {E : Value → Shared → Prop} {s : Shared} {c1 c2 : Bool} {z TI TO i1 i2 l1 l2 S : Addr} {i : Nat} {xs ys : Array Value}
end
/-- the pairs made so far -/
structure ZG (xs ys : Array Value) (lo : Addr) (h : Heap) (as : List Addr) : Prop where
  rise : as.Pairwise (· < ·)
  above : ∀ a ∈ as, lo < a
  pairs : ∀ (j : Nat) (a : Addr), as[j]? = some a → ∃ x y, xs[j]? = some x ∧ ys[j]? = some y ∧ IsPair h a x y
section
variable {prog : Program} {w : World} {A : Around} {s : Shared} {R : Result → Shared → Prop} {c1 c2 : Bool} {z TI TO i1 i2 l1 l2 S : Addr} {xs ys : Array Value}
theorem ZG.there {lo : Addr} {h : Heap} {as : List Addr} (g : ZG xs ys lo h as) {a : Addr} (ha : a ∈ as) : a < h.objs.size := by
  obtain ⟨j, hj⟩ := List.mem_iff_getElem?.mp ha
  obtain ⟨_, _, _, _, e⟩ := g.pairs j a hj
  exact Heap.lt_size e
end
section
variable {prog : Program} {w : World} {A : Around} {E : Value → Shared → Prop} {s : Shared} {c1 c2 : Bool} {z TI TO i1 i2 l1 l2 : Addr} {xs ys : Array Value}
end
end TL
set_option Elab.async false
set_option linter.all false
set_option maxRecDepth 100000
set_option maxHeartbeats 4000000
/-! list(zip(xs, ys, strict=True)): the rule -/
namespace TL
variable [Mode]
open PySem PySem.Spec PyProof.Rows L2
section
variable {X : Cx}
end
/-! ### as plain data -/
section
variable {X : Cx} {a b : Expr} {ma mb : EM} {p lp pos zpos kpos cpos : Pos}
end
end TL
set_option Elab.async false
set_option linter.all false
set_option maxRecDepth 100000
set_option maxHeartbeats 4000000
/-! tuple(range(a, b, -1)); a tuple turned about -/
namespace TL
variable [Mode]
open PySem PySem.Spec PyProof.Rows L2
section
variable {prog : Program} {w : World} {A : Around} {E : Value → Shared → Prop} {s : Shared}
end
section
variable {X : Cx}
end
section
variable {X : Cx} {a : Expr} {ma : EM} {pos : Pos}
end
/-! ### tuple(range(a, b, -1)) -/
section
variable {X : Cx}
end
section
variable {X : Cx} {K : PySem.W.Frag} {a b c : Expr} {ma mb mc : EM} {p q pos qos : Pos}
end
end TL
set_option Elab.async false
set_option linter.all false
set_option maxRecDepth 100000
set_option maxHeartbeats 4000000
/-! is True, is False; a + xs.pop()[k]; xs.extend(new list) -/
namespace TL
variable [Mode]
open PySem PySem.Spec PyProof.Rows L2
section
variable {X : Cx} {K : PySem.W.Frag} {a b e : Expr} {ma mb : EM} {p pos apos cpos : Pos}
/-! ### what a change tells, looked into -/
/-! ### extend -/
end
end TL
set_option Elab.async false
set_option linter.all false
set_option maxRecDepth 100000
set_option maxHeartbeats 4000000
/-! own lists within an own list: made, read, changed, frozen -/
namespace TL
variable [Mode]
open PySem PySem.Spec PyProof.Rows L2
theorem NLA.set {A : Act} {H F : Hp} {b : Addr} {ws : List V} {ys : List D} (hd : DpAll A.K F ws ys) : ∀ {as : List Addr} {xss : List (List D)} {k : Nat}, NLA A H F as xss → as.Nodup → as[k]? = some b → NLA A (upd H b (.lst ws)) F as (xss.set k ys)
  | a :: as, xs :: xss, 0, ⟨⟨h1, h2, vs, h3, h4⟩, h5⟩, nd, e => by
    simp at e
    subst e
    have nd := List.nodup_cons.mp nd
    refine ⟨⟨h1, h2, ws, upd_same, hd⟩, h5.imp fun c hc us zs g1 g2 g3 g4 => ⟨g1, g2, ?_, g4⟩⟩
    rw [upd_ne fun z => by subst z; exact nd.1 hc]
    exact g3
  | a :: as, xs :: xss, k + 1, ⟨⟨h1, h2, vs, h3, h4⟩, h5⟩, nd, e => by
    have nd := List.nodup_cons.mp nd
    have e' : as[k]? = some b := by simpa using e
    refine ⟨⟨h1, h2, vs, ?_, h4⟩, NLA.set hd (k := k) h5 nd.2 e'⟩
    rw [upd_ne fun z => by subst z; exact nd.1 (List.mem_of_getElem? e')]
    exact h3
  | [], [], _, _, _, e => by simp at e
  | [], _ :: _, _, h, _, _ => h.elim
  | _ :: _, [], _, h, _, _ => h.elim
section
variable {X : Cx} {K : PySem.W.Frag} {tg iter : Expr} {a b c e : Expr} {ma mb mc me : EM} {p pos tpos apos cpos : Pos} {kr : Kd} {m : SM}
/-! ### read -/
/-! ### changed -/
end
end TL
set_option Elab.async false
set_option linter.all false
set_option maxRecDepth 100000
set_option maxHeartbeats 4000000
/-! name = [new list for ..] -/
namespace TL
variable [Mode]
open PySem PySem.Spec PyProof.Rows L2
section
variable {X : Cx} {K : PySem.W.Frag} {tg iter : Expr} {a b c e : Expr} {ma mb mc me : EM} {p pos tpos apos cpos : Pos} {kr : Kd} {m : SM}
/-- the new list of new lists under way -/
structure LcN (A : Act) (n1 : Nat) (H1 F1 : Hp) (D0 : Addr) (acc : List D) (n : Nat) (H F : Hp) : Prop where
  adv : Adv A.bx n1 n H1 F1 H F
  fr : F D0 = none
  at_ : ∃ as xss, acc = xss.map .list ∧ (D0 :: as).Nodup ∧ H D0 = some (.lst (as.map V.ref)) ∧ NLA ⟨A.K, H1, F1, A.bx, n1⟩ H F as xss
theorem LcN.step {A : Act} {n1 n n' : Nat} {H1 F1 H F H' F' : Hp} {D0 : Addr} {acc : List D} (L : LcN A n1 H1 F1 D0 acc n H F) (ad : Adv A.bx n n' H F H' F') : LcN A n1 H1 F1 D0 acc n' H' F' := by
  obtain ⟨as, xss, e, nd, h1, h2⟩ := L.at_
  have hb : ¬ Vol A.bx n D0 := L.adv.box.no h1 fun _ e => nomatch e
  refine ⟨L.adv.trans ad, ?_, as, xss, e, nd, ad.keep D0 _ h1 hb, h2.imp fun b _ vs xs g1 g2 g3 g4 => ⟨g1, ?_, ad.keep b _ g3 fun z => ?_, dp_monoAll (ad.fro L.adv.sub) xs vs g4⟩⟩
  · rw [ad.old D0 (by rw [h1]; exact fun z => nomatch z)]
    exact L.fr
  · rw [ad.old b (by rw [g3]; exact fun z => nomatch z)]
    exact g2
  · exact L.adv.box.no g3 (fun _ e => nomatch e) z
end
end TL
set_option Elab.async false
set_option linter.all false
set_option maxRecDepth 100000
set_option maxHeartbeats 4000000
/-! a, b = new list, [new list for ..] -/
namespace TL
variable [Mode]
open PySem PySem.Spec PyProof.Rows L2
section
variable {X : Cx} {K : PySem.W.Frag} {tg iter : Expr} {a b c e : Expr} {ma mb mc me : EM} {p pos tpos apos cpos : Pos} {kr : Kd} {m : SM}
end
end TL
namespace TL
open PySem PySem.Spec PyProof.Rows L2
section
variable {τ : Ev} {n i j : Nat} {mb mc me m ma : EM} {Q : D → Nat → Prop} {E : En} {R : D → Ev → Nat → Prop} {ms : SM}
end
end TL
set_option Elab.async false
set_option linter.all false
set_option maxRecDepth 100000
set_option maxHeartbeats 4000000
/-! exception classes of the program: made, raised -/
namespace TL
variable [Mode]
open PySem PySem.Spec PyProof.Rows L2
/-- a built-in class under which own ones stand -/
structure ExB (B : String) (newId initId : String) (bmB : List Value) : Prop where
  F : ExcBaseFacts B newId initId bmB
  SF : StoreFacts B bmB "object.__setattr__" "object"
  ty : typeOf (.type B) = pure (.type "type")
  fnd : ∀ K : PySem.W.Frag, PySem.W.findCls K (.type B) (.type "type") "__init__" = some (.val (.builtin initId))
  stub : Manifest.isStub B = false
  out : PySem.W.handedIn (.builtin initId) = true
/-- an own class over such a one, whose instances have one field -/
structure ExI (K : PySem.W.Frag) (mg : Str → Option Value) (nm f : Str) (newId : String) (bmB : List Value) : Prop where
  gC : mg nm = some (.ref (He.ga K nm))
  mi : PySem.W.excInitIn K (He.ga K nm) bmB newId = true
  ov : PySem.W.excOver K (He.ga K nm) bmB = true
  tk : PySem.W.takerIn K (He.ga K nm) f = some none
  noN : PySem.W.findIn K (.ref (He.ga K nm)) f = some none
  hd : PySem.W.hasDictIn K (He.ga K nm) = true
  sa : PySem.W.findIn K (.ref (He.ga K nm)) "__setattr__" = some (some (.builtin "object.__setattr__"))
  iC : PySem.W.findIn K (.ref (He.ga K nm)) "__init__" = some (some (.ref (He.ma K (He.ga K nm) "__init__")))
  tI : PySem.W.typeIn K (.ref (He.ma K (He.ga K nm) "__init__")) = some (.type "function")
  kC : PySem.W.keepIn K (.ref (He.ga K nm)) = true
  exC : PySem.W.subIn K (.ref (He.ga K nm)) (.type "BaseException") = some true
  tyC : PySem.W.typeIn K (.ref (He.ga K nm)) = some (.type "type")
  ga : PySem.W.findIn K (.ref (He.ga K nm)) "__getattribute__" = some (some (.builtin "BaseException.__getattribute__"))
  gg : PySem.W.findIn K (.ref (He.ga K nm)) "__getattr__" = some none
  cl : PySem.W.findIn K (.ref (He.ga K nm)) "__class__" = some (some (.builtin "object.__class__"))
  cn : PySem.W.specialIn K (.builtin "object.__class__") "__get__" = some (some (.builtin "getset_descriptor.__get__"))
  ct : PySem.W.takesIn K (.builtin "object.__class__") = some true
  hm : PySem.W.mroIn K (He.ga K nm) (.type "object") = some true
/-! ### self.f = v on an exception without a dict -/
section
variable {prog : Program} {w : World} {A : Around} {E : Value → Shared → Prop} {R : Result → Shared → Prop} {s : Shared} {K : PySem.W.Frag} {B newId initId : String} {bmB : List Value}
end
/-! ### the text of __init__: B.__init__(self, 'refused'); self.f = v -/
section
variable {X : Cx} {pins : List (Addr × Obj)} {σ : L2.St} {H : Hp} {s : Shared} {a dx : Addr} {nm f : Str} {y : V} {u : Value} {Q : Unit → Shared → Prop} {E : Value → Shared → Prop} {A : Around} {B newId initId : String} {bmB : List Value}
end
section
variable {X : Cx} {e : Expr} {es : List Expr} {to te : TE} {ta : TA} {nm f : Str} {p p' p1 p2 pos : Pos} {B newId initId : String} {bmB : List Value} {o : Expr}
end
/-! ### __init__'s promise; C(e) -/
def spInit (K : PySem.W.Frag) (nm f : Str) : Sp := fun vs H Q _ => ∃ (a : Addr) (v : V), vs = [.ref a, v] ∧ H a = some (exo a (He.ga K nm) none) ∧ ∀ dx, H dx = none → dx ≠ a → Q .non (upd (upd H dx (exd dx [(f, v)])) a (exo a (He.ga K nm) (some dx)))
section
variable {P : Program} {w : World} {K : PySem.W.Frag} {mg : Str → Option Value} {base : Heap} {B newId initId : String} {bmB : List Value} {nm f : Str}
end
section
variable {X : Cx} {e : Expr} {ta : TA} {nm f : Str} {p pos : Pos} {B newId initId : String} {bmB : List Value} {fd : FuncData} {k : Nat}
end
end TL
set_option Elab.async false
set_option linter.all false
set_option maxRecDepth 100000
set_option maxHeartbeats 4000000
/-! raising over data -/
namespace TL
variable [Mode]
open PySem PySem.Spec PyProof.Rows L2
section
variable {X : Cx} {kr k : Kd} {a b c e : Expr} {es : List Expr} {ma mb : EM} {p pos pos2 : Pos} {nm f : Str} {B newId initId : String} {bmB : List Value}
/-- a class whose instances are made and raised -/
structure ExK (P : Program) (w : World) (K : PySem.W.Frag) (mg : Str → Option Value) (base : Heap) (nm f : Str) (k : Nat) : Prop where
  ex : ∃ (B newId initId : String) (bmB : List Value) (fd : FuncData), ExB B newId initId bmB ∧ ExI K mg nm f newId bmB ∧ FnOk P w K mg base CX0 k (He.ma K (He.ga K nm) "__init__") fd ["self", f] (spInit K nm f) ∧ Binds K fd ["self", f] []
/-! ### expressions that may raise -/
abbrev EMX := Ev → Nat → (D → Nat → Prop) → (XE → Nat → Prop) → Prop
def tEX (K : PySem.W.Frag) (k : Kd) (W : WX) (m : EMX) : TE := fun σ H Q => ∃ A τ n F P PX, A.K = K ∧ Rel A τ n σ H F ∧ m τ n P PX ∧ (∀ d n' v H' F', P d n' → Adv A.bx n n' H F H' F' → RepK K k H H' F' v d → Q v H') ∧
  ∀ x n' cls dd H' F', PX x n' → Adv A.bx n n' H F H' F' → XRep K F' H' x cls dd → W cls dd σ H'
structure E2X (X : Cx) (k : Kd) (e : Expr) (m : EMX) : Prop where
  pe : ∀ W : WX, Takes X W → PE X e (tEX X.K k W m)
def xLift (m : EM) : EMX := fun τ n P _ => m τ n P
theorem E2.x (h : E2 X k e ma) : E2X X k e (xLift ma) := ⟨fun W tk => pe_weak h.pe fun σ H Q ⟨A, τ, n, F, P, PX, eK, R, hm, hq, hx⟩ => ⟨A, τ, n, F, P, eK, R, hm, hq⟩⟩
theorem E2X.fz {m : EMX} (h : E2X X .nw e m) : E2X X .fz e m := ⟨fun W tk => pe_weak (h.pe W tk) fun σ H Q ⟨A, τ, n, F, P, PX, eK, R, hm, hq, hx⟩ => ⟨A, τ, n, F, P, PX, eK, R, hm, fun d n' v H' F' p a r => by
  obtain ⟨F2, h1, h2, h3, hB, h4⟩ := nw_fz a.sub r
  exact hq d n' v H' F2 p ⟨a.keep, fun c hc => (h1 c hc).trans (a.old c hc), h2, hB _ _ a.box, a.grow, a.new⟩ h4, hx⟩⟩
/-- a def that may let exceptions out -/
structure CalX (P : Program) (w : World) (K : PySem.W.Frag) (mg : Str → Option Value) (base : Heap) (x : Str) (ar : Arguments) (ps : List Str) (k : Nat) (kr : Kd) (m : FM) : Prop where
  ex : ∃ (f : Addr) (fd : FuncData) (qual : Str) (body : List Stmt) (scope : Scope), FunD K x qual ar body scope [] [] f fd ∧ FnOk P w K mg base (L2.CX P w) k f fd ps (Pr K kr ps.length m) ∧ mg x = some (.ref f) ∧ Binds K fd ps []
section
variable {P : Program} {w : World} {K : PySem.W.Frag} {mg : Str → Option Value} {base : Heap} {x : Str} {ar : Arguments} {ps : List Str} {k : Nat} {kr : Kd} {m m' : FM}
theorem CalX.up {j : Nat} (c : CalX P w K mg base x ar ps k kr m) (h : k ≤ j := by decide) : CalX P w K mg base x ar ps j kr m := by
  obtain ⟨f, fd, q, b, s, F, G, g, bi⟩ := c.ex
  exact ⟨f, fd, q, b, s, F, G.mono h, g, bi⟩
theorem ExK.up {nm f : Str} {j : Nat} (c : ExK P w K mg base nm f k) (h : k ≤ j := by decide) : ExK P w K mg base nm f j := by
  obtain ⟨B, newId, initId, bmB, fd, U, TI, G, hb⟩ := c.ex
  exact ⟨B, newId, initId, bmB, fd, U, TI, G.mono h, hb⟩
theorem CalX.mk2 {f : Addr} {fd : FuncData} {q : Str} {b : List Stmt} {s : Scope} (F : FunD K x q ar b s [] [] f fd) (G : FnOk P w K mg base (L2.CX P w) k f fd ps (Pr K kr ps.length m)) (g : mg x = some (.ref f))
    (h : ∀ (kV doc pm : Value) (an : Option Addr) (cdv ct : Value) (us : List Value), us.length = ps.length → bindArgs (PySem.W.fnOf x q ar b s .none kV doc pm an cdv ct) ⟨us, []⟩ = pure (ps.zip us)) : CalX P w K mg base x ar ps k kr m :=
  ⟨f, fd, q, b, s, F, G, g, F.bindsN h⟩
end
section
variable {x : Str} {ar : Arguments} {ps : List Str} {j : Nat} {f : FM} {P : Program} {w : World} {K : PySem.W.Frag} {mg : Str → Option Value} {base : Heap}
end
/-! ### statements over them -/
end
section
variable {P : Program} {w : World} {K : PySem.W.Frag} {mg : Str → Option Value} {base : Heap}
end
end TL
set_option Elab.async false
set_option linter.all false
set_option maxRecDepth 100000
set_option maxHeartbeats 4000000
/-! try: .. except (A, B, ..) as n: m = n -/
namespace TL
variable [Mode]
open PySem PySem.Spec PyProof.Rows L2
section
variable {M : Model} {A : Around} {E : Value → Shared → Prop} {s : Shared}
/-- names evaluated in a row, nothing else happens -/
inductive EvN (M : Model) (A : Around) (env : Env) (s : Shared) : List Expr → List Value → Prop
  | nil : EvN M A env s [] []
  | cons {e : Expr} {es : List Expr} {v : Value} {vs : List Value} : (∀ {Q : Value → Shared → Prop} {E : Value → Shared → Prop}, Q v s → wpAny M A (eval e env) Q E s) → starEach (e :: es) env = (false, eval e env) :: starEach es env → EvN M A env s es vs → EvN M A env s (e :: es) (v :: vs)
theorem EvN.run {env : Env} {pos : Pos} {es : List Expr} {vs : List Value} {E : Value → Shared → Prop} (h : EvN M A env s es vs) : ∀ {Q : List Value → Shared → Prop}, Q vs s → wpAny M A (spliced (backTo pos (starEach es env))) Q E s := by
  induction h with
  | nil => exact fun q => Calls.spliced_nil q
  | cons h1 h2 r ih =>
    intro Q q
    rw [h2]
    show wpAny _ _ (spliced ((false, eval _ env) :: backTo pos (starEach _ env))) _ _ s
    exact Calls.spliced_cons (h1 (ih q))
end
theorem FlyingZ.keep {base h h' : Heap} {l : List Env} {e : Addr} {Z : Obj → Prop} (k : ∀ b o, h.get? b = some o → h'.get? b = some o) (x : HandSPX.FlyingZ base l e Z h) : HandSPX.FlyingZ base l e Z h' := by
  obtain ⟨h1, h2, h3, oe, vs, T, oT, ts, g1, g2, g3, g4, g5, g6, g7, g8, g9⟩ := x
  exact ⟨fun b o q => k b o (h1 b o q), h2, Heap.FunFrames.of_keeps (fun b o q _ => ⟨o, k b o q, rfl⟩) h3, oe, vs, T, oT, ts, k _ _ g1, g2, g3, g4, g5, g6, k _ _ g7, g8, g9⟩
section
variable {X : Cx} {pins : List (Addr × Obj)} {σ : L2.St} {H : Hp} {sI s' : Shared} {B : Heap}
end
/-- the names of an except clause -/
inductive NmsOk (X : Cx) : List Expr → List Str → Prop
  | nil : NmsOk X [] []
  | cons {x : Str} {p : Pos} {es : List Expr} {cs : List Str} : Gl X x → (x == ("__debug__" : Str)) = false → X.mg x = some (.ref (He.ga X.K x)) → starEach (.Name x p :: es) X.env = (false, eval (.Name x p) X.env) :: starEach es X.env → NmsOk X es cs → NmsOk X (.Name x p :: es) (x :: cs)
section
variable {X : Cx} {n m : Str} {i j : Nat} {cs : List Str} {es : List Expr} {body : List Stmt} {st : Stmt} {pos pos' tpos : Pos} {x1} {tb : WX → TS} {Wout : WX}
end
end TL
set_option Elab.async false
set_option linter.all false
set_option maxRecDepth 100000
set_option maxHeartbeats 4000000
/-! caught exceptions as data: try, isinstance, the field -/
namespace TL
variable [Mode]
open PySem PySem.Spec PyProof.Rows L2
/-- the built-in class above -/
inductive Bk where
  | ve | le | re | oe
def Bk.mro : Bk → List String
  | .ve => ["ValueError", "Exception", "BaseException", "object"]
  | .le => ["LookupError", "Exception", "BaseException", "object"]
  | .re => ["RuntimeError", "Exception", "BaseException", "object"]
  | .oe => ["OverflowError", "ArithmeticError", "Exception", "BaseException", "object"]
def Bk.bm (b : Bk) : List Value := b.mro.map .type
def Bk.new : Bk → String
  | .ve => "ValueError.__new__"
  | .le => "LookupError.__new__"
  | .re => "RuntimeError.__new__"
  | .oe => "OverflowError.__new__"
abbrev ExL := List (Str × Str × Bk)
/-- a class asked about -/
inductive Cn where
  | own (x : Str)
  | ty (n : String)
def Cn.v (K : PySem.W.Frag) : Cn → V
  | .own x => .ref (He.ga K x)
  | .ty n => .ty n
def Cn.u (K : PySem.W.Frag) : Cn → Value
  | .own x => .ref (He.ga K x)
  | .ty n => .type n
section
variable {X : Cx} {kr : Kd} {a c e : Expr} {es : List Expr} {ma : EM} {p pos pos' tpos apos : Pos} {L : ExL}
/-! ### isinstance -/
/-! ### the field of a caught exception -/
/-! ### try -/
end
end TL
set_option Elab.async false
set_option linter.all false
set_option maxRecDepth 100000
set_option maxHeartbeats 4000000
/-! defs that may raise, their text; the head with a further fact -/
namespace TL
variable [Mode]
open PySem PySem.Spec PyProof.Rows L2
/-! ### a hook with a further fact of the written part -/
abbrev AlZ : Type := He.AlD × Bool
def obsZ (fa : List He.Fa) (fn : List He.DefD) (ex : PySem.W.Frag → Bool) (K : PySem.W.Frag) : AlZ := (He.obsD fa fn K, ex K)
def SaysZ (fa : List He.Fa) (fn : List He.DefD) (ex : PySem.W.Frag → Bool) (K : PySem.W.Frag) : Prop := obsZ fa fn ex K = (He.valD fn, true)
theorem SaysZ.d {fa : List He.Fa} {fn : List He.DefD} {ex : PySem.W.Frag → Bool} {K : PySem.W.Frag} (c : SaysZ fa fn ex K) : He.SaysD fa fn K := congrArg (fun z : AlZ => z.1) c
theorem SaysZ.x {fa : List He.Fa} {fn : List He.DefD} {ex : PySem.W.Frag → Bool} {K : PySem.W.Frag} (c : SaysZ fa fn ex K) : ex K = true := congrArg (fun z : AlZ => z.2) c
/-! ### reading -/
section
variable {E : En} {τ : Ev} {n : Nat} {P : D → Nat → Prop} {PX : XE → Nat → Prop}
@[simp] theorem xLift_ap {m : EM} : xLift m τ n P PX ↔ m τ n P := Iff.rfl
end
end TL
set_option Elab.async false
set_option linter.all false
set_option maxRecDepth 100000
set_option maxHeartbeats 4000000
/-! a tuple no times -/
namespace TL
variable [Mode]
open PySem PySem.Spec PyProof.Rows L2
section
variable {X : Cx} {K : PySem.W.Frag} {a b : Expr} {ma mb : EM} {pos : Pos}
end
end TL
set_option Elab.async false
set_option linter.all false
set_option maxRecDepth 100000
set_option maxHeartbeats 4000000
/-! defs handed on by name, and called through a local name -/
namespace TL
variable [Mode]
open PySem PySem.Spec PyProof.Rows L2
section
variable {X : Cx} {kr k : Kd} {a b c e : Expr} {es : List Expr} {ma mb : EM} {p pos pos2 : Pos}
/-- one of two -/
def xOr (m1 m2 : EMX) : EMX := fun τ n P PX => m1 τ n P PX ∨ m2 τ n P PX
theorem E2X.or {m1 m2 : EMX} (h1 : E2X X k e m1) (h2 : E2X X k e m2) : E2X X k e (xOr m1 m2) :=
  ⟨fun W tk => ⟨fun pins s σ H Q I ⟨A, τ, n, F, P, PX, eK, R, hm, hq, hx⟩ => hm.elim (fun h => (h1.pe W tk).run pins s σ H Q I ⟨A, τ, n, F, P, PX, eK, R, h, hq, hx⟩) (fun h => (h2.pe W tk).run pins s σ H Q I ⟨A, τ, n, F, P, PX, eK, R, h, hq, hx⟩)⟩⟩
end
theorem GCal.imp {P : Program} {w : World} {K : PySem.W.Frag} {mg : Str → Option Value} {base : Heap} {x : Str} {ar : Arguments} {ps : List Str} {k : Nat} {kr : Kd} {m m' : FM} (c : GCal P w K mg base x ar ps k kr m) (h : ∀ as n P PX, m' as n P PX → m as n P PX) : GCal P w K mg base x ar ps k kr m' := by
  obtain ⟨f, fd, q, b, s, F, G, g, bi⟩ := c.ex
  exact ⟨f, fd, q, b, s, F, ⟨fun vs H Q E z => G.len vs H Q E (Pr.imp (fun as n P PX _ => h as n P PX) vs H Q E z), fun A outer t H ar us vs Q E hg hr e b v z => G.run A outer t H ar us vs Q E hg hr e b v (Pr.imp (fun as n P PX _ => h as n P PX) vs H Q E z)⟩, g, bi⟩
section
variable {τ : Ev} {n : Nat} {P : D → Nat → Prop} {PX : XE → Nat → Prop}
@[simp] theorem xOr_ap {m1 m2 : EMX} : xOr m1 m2 τ n P PX ↔ m1 τ n P PX ∨ m2 τ n P PX := .rfl
end
end TL
set_option Elab.async false
set_option linter.all false
set_option maxRecDepth 100000
set_option maxHeartbeats 4000000
/-! own dicts that grow -/
namespace TL
variable [Mode]
open PySem PySem.Spec PyProof.Rows L2
/-- int keys, as keys; such a dict as data -/
def okI (kvs : List (Int × D)) : List (Key × D) := kvs.map fun p => (.inl p.1, p.2)
theorem KD.okI {K : PySem.W.Frag} {F : Hp} : ∀ {kvs : List (Int × D)} {ws : List (Key × V)}, KD K F ws (TL.okI kvs) → ws.map (·.1) = (kvs.map (·.1)).map Sum.inl ∧ DpAll K F (ws.map (·.2)) (kvs.map (·.2))
  | [], ws, h => by
    unfold KD TL.okI at h
    cases h
    exact ⟨rfl, .nil⟩
  | p :: r, ws, h => by
    unfold KD TL.okI at h
    cases h with
    | cons a b =>
      obtain ⟨e1, e2⟩ := KD.okI (kvs := r) b
      exact ⟨by rw [List.map_cons, e1, a.1]; rfl, .cons a.2 e2⟩
section
variable {X : Cx} {kr : Kd} {a b c e : Expr} {es : List Expr} {ma mb me : EM} {p pos pos2 : Pos} {m : SM}
theorem valD_any {κ : Type} [DecidableEq κ] (kvs : List (κ × D)) (k : κ) : (kvs.any fun kv => decide (kv.1 = k)) = (valD kvs k).isSome := by
  unfold valD
  induction kvs with
  | nil => rfl
  | cons p r ih =>
    rw [List.any_cons, List.find?_cons, ih]
    by_cases h : p.1 = k
    · simp [h]
    · simp [h]
end
section
variable {τ : Ev} {n : Nat} {E : En} {mb mk mv me : EM} {m : SM}
end
end TL
set_option Elab.async false
set_option linter.all false
set_option maxRecDepth 100000
set_option maxHeartbeats 4000000
/-! zip(a, b), lists and tuples in any mix -/
namespace TL
variable [Mode]
open PySem PySem.Spec PyProof.Rows L2
section
variable {prog : Program} {w : World} {A : Around} {E : Value → Shared → Prop} {s : Shared}
end
section
variable {prog : Program} {w : World} {A : Around} {E : Value → Shared → Prop} {s : Shared}
end
end TL
set_option Elab.async false
set_option linter.all false
set_option maxRecDepth 100000
set_option maxHeartbeats 4000000
/-! xs[::s] where s is 1 or -1; list.count of ints -/
namespace TL
variable [Mode]
open PySem PySem.Spec PyProof.Rows L2
section
variable {X : Cx} {a b : Expr} {ma mb : EM} {pos apos cpos : Pos}
end
end TL
set_option Elab.async false
set_option linter.all false
set_option maxRecDepth 100000
set_option maxHeartbeats 4000000
/-! dicts of int keys as data: read, walked -/
namespace TL
variable [Mode]
open PySem PySem.Spec PyProof.Rows L2
section
variable {X : Cx} {kr : Kd} {a b c e : Expr} {ma mb me : EM} {p pos : Pos}
end
section
variable {τ : Ev} {n : Nat} {E : En} {ma mb : EM}
end
end TL
set_option Elab.async false
set_option linter.all false
set_option maxRecDepth 100000
set_option maxHeartbeats 4000000
/-! exceptions of the program made as values, by place and by name -/
namespace PySem
namespace HandSPX
open Builtin Builtin.ObjectAttr
section
variable {M : Model} {A : Around} {E : Value → Shared → Prop} {h : Heap} {g : Array GenState} {d : Drawn} {t : Nat} {os : OsState}
variable {nm q : Str} {C N : Addr} {bs bm bmB : List Value} {hdct : Bool} {sn : List Str} {sub : List Value} {ab : Bool} {col : Option Bool} {dd : Option Addr} {k0 k1 k2 k3 k5 : Option Value} {B newId initId : String}
end
section
variable {prog : Program} {w : World} {A : Around} {E : Value → Shared → Prop} {R : Result → Shared → Prop} {h : Heap} {g : Array GenState} {d : Drawn} {t : Nat} {os : OsState}
variable {nm q : Str} {C N : Addr} {bs bm bmB : List Value} {hdct : Bool} {sn : List Str} {sub : List Value} {ab : Bool} {col : Option Bool} {dd : Option Addr} {k0 k1 k2 k3 k5 : Option Value} {B newId initId : String} {f : Str} {u : Value}
end
end HandSPX
end PySem
namespace TL
variable [Mode]
open PySem PySem.Spec PyProof.Rows L2
section
variable {X : Cx} {e : Expr} {ta : TA} {nm f : Str} {p pos : Pos} {B newId initId : String} {bmB : List Value} {fd : FuncData} {k : Nat} {kws : List Keyword}
end
end TL
namespace TL
open PySem PySem.Spec PyProof.Rows L2
section
variable {P : Program} {w : World} {K : PySem.W.Frag} {mg : Str → Option Value} {base : Heap}
end
end TL
set_option Elab.async false
set_option linter.all false
set_option maxRecDepth 100000
set_option maxHeartbeats 4000000
/-! own dicts whose keys are tuples -/
namespace TL
variable [Mode]
open PySem PySem.Spec PyProof.Rows L2
section
variable {X : Cx} {pins : List (Addr × Obj)} {σ : L2.St} {H : Hp} {s : Shared}
/-- a pair is put -/
def atB (kbs : List (NestedKey × Addr × V)) (k : NestedKey) : Option (Addr × V) := (kbs.find? fun x => decide (x.1 = k)).map (·.2)
def putV (kbs : List (NestedKey × Addr × V)) (k : NestedKey) (b : Addr) (v : V) : List (NestedKey × Addr × V) := if (atB kbs k).isSome then kbs.map (fun x => if x.1 = k then (x.1, x.2.1, v) else x) else kbs ++ [(k, b, v)]
theorem paired_map2 {α β γ δ : Type} {R : α → β → Prop} {R2 : γ → δ → Prop} {f : α → γ} {g : β → δ} (w : ∀ a b, R a b → R2 (f a) (g b)) : ∀ {xs : List α} {ys : List β}, Paired R xs ys → Paired R2 (xs.map f) (ys.map g)
  | _, _, .nil => .nil
  | _, _, .cons a b => .cons (w _ _ a) (paired_map2 w b)
theorem paired_app {α β : Type} {R : α → β → Prop} {x : α} {y : β} (r : R x y) : ∀ {xs : List α} {ys : List β}, Paired R xs ys → Paired R (xs ++ [x]) (ys ++ [y])
  | _, _, .nil => .cons r .nil
  | _, _, .cons a b => .cons a (paired_app r b)
end
end TL
set_option Elab.async false
set_option linter.all false
set_option maxRecDepth 100000
set_option maxHeartbeats 4000000
/-! own dicts whose keys are tuples: the tree layer -/
namespace TL
variable [Mode]
open PySem PySem.Spec PyProof.Rows L2
/-! ### things that a name may hold -/
def RepS (K : PySem.W.Frag) (bx : Bx) : Sl → (H0 H F : Hp) → V → Prop
  | .d x, _, _, F, v => Dp K F v x
  | .ow xs, H0, H, F, v => ∃ a vs, v = .ref a ∧ H0 a = none ∧ F a = none ∧ H a = some (.lst vs) ∧ DpAll K F vs xs
  | .odt kvs, H0, H, F, v => ∃ a ws, v = .ref a ∧ H0 a = none ∧ F a = none ∧ H a = some (dV a ws) ∧ KO K bx a F ws kvs
  | .odk kvs, H0, H, F, v => ∃ a ws, v = .ref a ∧ H0 a = none ∧ F a = none ∧ H a = some (.dK ws) ∧ KD K F ws kvs
  | .raw w, _, _, _, v => v = w
  | _, _, _, _, _ => False
abbrev NM := Ev → Nat → (Sl → Nat → Prop) → Prop
def tN (K : PySem.W.Frag) (m : NM) : TE := fun σ H Q => ∃ A τ n F P, A.K = K ∧ Rel A τ n σ H F ∧ m τ n P ∧ ∀ s n' v H' F', P s n' → Adv A.bx n n' H F H' F' → RepS K A.bx s H H' F' v → Q v H'
structure N1 (X : Cx) (e : Expr) (m : NM) : Prop where
  pe : PE X e (tN X.K m)
section
variable {X : Cx} {kr : Kd} {a b c e : Expr} {es : List Expr} {ma mb me : EM} {na nb nc : NM} {p pos pos2 : Pos} {m : SM}
/-! ### {} and {k: v} -/
/-- what may change is told from the first -/
class FixMode [Mode] : Prop where
  fix : ∀ {s : Bx} {n m : Nat} {a : Addr}, Vol s n a → Vol s m a
instance fixBox : @FixMode boxMode := @FixMode.mk boxMode fun h => h
/-! ### reading and writing -/
theorem KO.keys {K : PySem.W.Frag} {F : Hp} {kbs : List (NestedKey × Addr × V)} {kvs : List (NestedKey × D)} (h : Paired (KOp K F) kbs kvs) : DpAll K F (kbs.map fun p => V.ref p.2.1) (kbs.map fun p => p.1.data) := by
  induction h with
  | nil => exact .nil
  | cons a _ ih => exact .cons (by have z := a.2.1; rw [← a.1] at z; exact z) ih
theorem KO.names {K : PySem.W.Frag} {F : Hp} {kbs : List (NestedKey × Addr × V)} {kvs : List (NestedKey × D)} (h : Paired (KOp K F) kbs kvs) : kbs.map (fun p => p.1.data) = kvs.map (fun p => p.1.data) := by
  induction h with
  | nil => rfl
  | cons a _ ih => rw [List.map_cons, List.map_cons, ih, a.1]
theorem KO.at_ {K : PySem.W.Frag} {F : Hp} {kbs : List (NestedKey × Addr × V)} {kvs : List (NestedKey × D)} (h : Paired (KOp K F) kbs kvs) (k : NestedKey) : (match atB kbs k, valD kvs k with | some p, some d => Dp K F p.2 d | none, none => True | _, _ => False) := by
  unfold atB valD
  induction h with
  | nil => trivial
  | @cons a b as bs r _ ih =>
    rw [List.find?_cons, List.find?_cons]
    by_cases z : a.1 = k
    · have z2 : b.1 = k := by rw [← r.1]; exact z
      simp only [z, z2, decide_true]
      exact r.2.2
    · have z2 : ¬ b.1 = k := by rw [← r.1]; exact z
      simp only [z, z2, decide_false]
      exact ih
theorem KO.isS {K : PySem.W.Frag} {F : Hp} {kbs : List (NestedKey × Addr × V)} {kvs : List (NestedKey × D)} (h : Paired (KOp K F) kbs kvs) (k : NestedKey) : (atB kbs k).isSome = (valD kvs k).isSome := by
  have q := KO.at_ h k
  cases z1 : atB kbs k with
  | none =>
    cases z2 : valD kvs k with
    | none => rfl
    | some y => rw [z1, z2] at q; exact q.elim
  | some x =>
    cases z2 : valD kvs k with
    | none => rw [z1, z2] at q; exact q.elim
    | some y => rfl
theorem KO.get {K : PySem.W.Frag} {F : Hp} {kbs : List (NestedKey × Addr × V)} {kvs : List (NestedKey × D)} (h : Paired (KOp K F) kbs kvs) {k : NestedKey} {d : D} (e : valD kvs k = Option.some d) : ∃ q, atB kbs k = Option.some q ∧ Dp K F q.2 d := by
  have q := KO.at_ h k
  rw [e] at q
  cases z1 : atB kbs k with
  | none => rw [z1] at q; exact q.elim
  | some x => rw [z1] at q; exact ⟨x, rfl, q⟩
theorem KO.put {K : PySem.W.Frag} {F : Hp} {kbs : List (NestedKey × Addr × V)} {kvs : List (NestedKey × D)} (h : Paired (KOp K F) kbs kvs) {k : NestedKey} {b : Addr} {v : V} {d : D} (hb : Dp K F (.ref b) k.data) (hv : Dp K F v d) : Paired (KOp K F) (putV kbs k b v) (putD kvs k d) := by
  have e : (kvs.any fun kv => decide (kv.1 = k)) = (atB kbs k).isSome := by rw [valD_any, KO.isS h k]
  unfold putV putD
  rw [e]
  split
  · refine paired_map2 (fun a c rr => ?_) h
    obtain ⟨e1, e2, e3⟩ := rr
    by_cases z : a.1 = k
    · rw [if_pos z, if_pos (by rw [← e1]; exact z)]
      exact ⟨e1, e2, hv⟩
    · rw [if_neg z, if_neg (by rw [← e1]; exact z)]
      exact ⟨e1, e2, e3⟩
  · exact paired_app ⟨rfl, hb, hv⟩ h
/-! ### as data -/
mutual
theorem data_inj : ∀ {a b : NestedKey}, a.data = b.data → a = b
  | .none, b, h => by cases b <;> simp_all [NestedKey.data]
  | .num i, b, h => by cases b <;> simp_all [NestedKey.data]
  | .text i, b, h => by cases b <;> simp_all [NestedKey.data]
  | .tup ks, b, h => by
    cases b with
    | tup ls =>
      simp only [NestedKey.data, PyData.tuple.injEq] at h
      rw [datas_inj h]
    | none => simp [NestedKey.data] at h
    | num i => simp [NestedKey.data] at h
    | text i => simp [NestedKey.data] at h
theorem datas_inj : ∀ {a b : List NestedKey}, NestedKey.datas a = NestedKey.datas b → a = b
  | [], b, h => by cases b <;> simp_all [NestedKey.datas]
  | k :: ks, b, h => by
    cases b with
    | nil => simp [NestedKey.datas] at h
    | cons l ls =>
      simp only [NestedKey.datas, List.cons.injEq] at h
      rw [data_inj h.1, datas_inj h.2]
end
end
section
variable {τ : Ev} {n : Nat} {E : En} {mb mk mv ma : EM} {na nb nc : NM} {m : SM} {Q : D → Nat → Prop} {QS : Sl → Nat → Prop} {i j l : Nat}
end
end TL
set_option Elab.async false
set_option linter.all false
set_option maxRecDepth 100000
set_option maxHeartbeats 4000000
/-! dicts with tuple keys as data: list, len, d[k], in -/
namespace TL
variable [Mode]
open PySem PySem.Spec PyProof.Rows L2
section
variable {X : Cx}
end
section
variable {X : Cx} {K : PySem.W.Frag} {kr : Kd} {a b c e : Expr} {ma mb me : EM} {p pos : Pos}
end
section
variable {x y : D} {P : D → Prop}
end
end TL
set_option Elab.async false
set_option linter.all false
set_option maxRecDepth 100000
set_option maxHeartbeats 4000000
/-! {a: x, b: y} with int keys, d.get(k, x), a star in a target -/
namespace TL
variable [Mode]
open PySem PySem.Spec PyProof.Rows L2
inductive Ps2 (X : Cx) : List (Option Expr) → List Expr → List (EM × EM) → Prop
  | nil : Ps2 X [] [] []
  | cons {k v : Expr} {mk mv : EM} {ks : List (Option Expr)} {vs : List Expr} {ms : List (EM × EM)} : E2 X .fz k mk → E2 X .fz v mv → Ps2 X ks vs ms → Ps2 X (some k :: ks) (v :: vs) ((mk, mv) :: ms)
section
variable {X : Cx} {K : PySem.W.Frag} {kr : Kd} {a b c e : Expr} {ma mb me mx : EM} {p pos : Pos} {m : SM}
/-! ### first, *others = a list -/
end
section
variable {τ : Ev} {n : Nat} {Q : D → Nat → Prop} {QS : Sl → Nat → Prop} {mk mv mb mx : EM} {i : Nat}
end
end TL
set_option Elab.async false
set_option linter.all false
set_option maxRecDepth 100000
set_option maxHeartbeats 4000000
/-! sorted, min, < of any data that are alike; sorted of a dict with tuple keys -/
namespace TL
variable [Mode]
open PySem PySem.Spec PyProof.Rows L2
section
variable {prog : Program} {w : World} {A : Around} {E : Value → Shared → Prop} {s : Shared} {T : String} {r d : Addr} {n : Nat} {P : Nat → Value → Prop} {OK : Heap → Prop}
end
/-! ### values beside their data -/
section
variable {X : Cx}
end
end TL
set_option Elab.async false
set_option linter.all false
set_option maxRecDepth 100000
set_option maxHeartbeats 4000000
/-! sorted, min, < of any data that are alike: the tree layer -/
namespace TL
variable [Mode]
open PySem PySem.Spec PyProof.Rows L2
section
variable {X : Cx} {K : PySem.W.Frag} {a b : Expr} {ma mb : EM} {p pos : Pos}
/-! ### < -/
/-! ### min -/
end
section
variable {x y : D} {P : D → Prop}
end
end TL
set_option Elab.async false
set_option linter.all false
set_option maxRecDepth 100000
set_option maxHeartbeats 4000000
/-! x in a tuple -/
namespace TL
variable [Mode]
open PySem PySem.Spec PyProof.Rows L2
section
variable {X : Cx} {K : PySem.W.Frag} {a b : Expr} {ma mb : EM} {p pos : Pos}
end
end TL
set_option Elab.async false
set_option linter.all false
set_option maxRecDepth 100000
set_option maxHeartbeats 4000000
/-! if d.setdefault(k, x) != y, of an own dict with tuple keys -/
namespace TL
variable [Mode]
open PySem PySem.Spec PyProof.Rows L2
section
variable {X : Cx} {kr : Kd} {b c o w : Expr} {mb mc mw : EM} {apos cpos p pos : Pos} {m m' : SM}
end
end TL
set_option Elab.async false
set_option linter.all false
set_option maxRecDepth 100000
/-! a ghost of one number that stands for draws and for things kept beside: numbers for data -/
namespace GH
open PySem
/-! ### pairs of numbers -/
def pr (a b : Nat) : Nat := 2 ^ a * (2 * b + 1)
theorem pr_inj : ∀ {a b c d : Nat}, pr a b = pr c d → a = c ∧ b = d
  | 0, b, 0, d, h => by
    unfold pr at h
    simp at h
    exact ⟨rfl, by omega⟩
  | 0, b, c + 1, d, h => by
    unfold pr at h
    rw [Nat.pow_succ, Nat.mul_right_comm] at h
    omega
  | a + 1, b, 0, d, h => by
    unfold pr at h
    rw [Nat.pow_succ, Nat.mul_right_comm] at h
    omega
  | a + 1, b, c + 1, d, h => by
    have h' : pr a b = pr c d := by
      unfold pr at h ⊢
      rw [Nat.pow_succ, Nat.pow_succ, Nat.mul_right_comm, Nat.mul_right_comm (2 ^ c)] at h
      omega
    obtain ⟨h1, h2⟩ := pr_inj h'
    exact ⟨by omega, h2⟩
theorem pr_pos (a b : Nat) : 0 < pr a b := Nat.mul_pos (Nat.pow_pos (by decide)) (by omega)
/-! ### lists of numbers -/
def ls : List Nat → Nat
  | [] => 0
  | a :: r => pr a (ls r)
theorem ls_inj : ∀ {x y : List Nat}, ls x = ls y → x = y
  | [], [], _ => rfl
  | [], b :: s, h => by
    have := pr_pos b (ls s)
    simp only [ls] at h
    omega
  | a :: r, [], h => by
    have := pr_pos a (ls r)
    simp only [ls] at h
    omega
  | a :: r, b :: s, h => by
    obtain ⟨h1, h2⟩ := pr_inj h
    rw [h1, ls_inj h2]
def zn : Int → Nat
  | .ofNat n => 2 * n
  | .negSucc n => 2 * n + 1
theorem zn_inj : ∀ {x y : Int}, zn x = zn y → x = y
  | .ofNat a, .ofNat b, h => by
    have : 2 * a = 2 * b := h
    rw [show a = b by omega]
  | .ofNat a, .negSucc b, h => by
    have : 2 * a = 2 * b + 1 := h
    omega
  | .negSucc a, .ofNat b, h => by
    have : 2 * a + 1 = 2 * b := h
    omega
  | .negSucc a, .negSucc b, h => by
    have : 2 * a + 1 = 2 * b + 1 := h
    rw [show a = b by omega]
mutual
def ser : PyData → List Nat
  | .none => [0]
  | .bool b => [1, if b = true then 1 else 0]
  | .int i => [2, zn i]
  | .str x => [3, ls x.cps.toList]
  | .list xs => 4 :: xs.length :: serL xs
  | .tuple xs => 5 :: xs.length :: serL xs
  | .dict kvs => 6 :: kvs.length :: serP kvs
def serL : List PyData → List Nat
  | [] => []
  | x :: r => ser x ++ serL r
def serP : List (PyData × PyData) → List Nat
  | [] => []
  | (x, y) :: r => ser x ++ (ser y ++ serP r)
end
mutual
theorem ser_inj : ∀ (x y : PyData) (r s : List Nat), ser x ++ r = ser y ++ s → x = y ∧ r = s
  | .none, y, r, s, h => by
    cases y <;> simp [ser] at h
    exact ⟨rfl, h⟩
  | .bool b, y, r, s, h => by
    cases y <;> simp [ser] at h
    rename_i c
    refine ⟨?_, h.2⟩
    cases b <;> cases c <;> simp at h <;> rfl
  | .int i, y, r, s, h => by
    cases y <;> simp [ser] at h
    exact ⟨by rw [zn_inj h.1], h.2⟩
  | .str x, y, r, s, h => by
    cases y <;> simp [ser] at h
    rename_i z
    refine ⟨?_, h.2⟩
    have e := ls_inj h.1
    obtain ⟨a⟩ := x
    obtain ⟨b⟩ := z
    obtain ⟨a⟩ := a
    obtain ⟨b⟩ := b
    have e : a = b := e
    rw [e]
  | .list xs, y, r, s, h => by
    cases y <;> simp [ser] at h
    obtain ⟨h1, h2⟩ := serL_inj xs _ r s h.1 h.2
    exact ⟨by rw [h1], h2⟩
  | .tuple xs, y, r, s, h => by
    cases y <;> simp [ser] at h
    obtain ⟨h1, h2⟩ := serL_inj xs _ r s h.1 h.2
    exact ⟨by rw [h1], h2⟩
  | .dict kvs, y, r, s, h => by
    cases y <;> simp [ser] at h
    obtain ⟨h1, h2⟩ := serP_inj kvs _ r s h.1 h.2
    exact ⟨by rw [h1], h2⟩
theorem serL_inj : ∀ (xs ys : List PyData) (r s : List Nat), xs.length = ys.length → serL xs ++ r = serL ys ++ s → xs = ys ∧ r = s
  | [], [], r, s, _, h => ⟨rfl, by simpa [serL] using h⟩
  | [], _ :: _, _, _, l, _ => by simp at l
  | _ :: _, [], _, _, l, _ => by simp at l
  | x :: xs, y :: ys, r, s, l, h => by
    rw [serL, serL, List.append_assoc, List.append_assoc] at h
    obtain ⟨h1, h2⟩ := ser_inj x y _ _ h
    obtain ⟨h3, h4⟩ := serL_inj xs ys r s (by simpa using l) h2
    exact ⟨by rw [h1, h3], h4⟩
theorem serP_inj : ∀ (xs ys : List (PyData × PyData)) (r s : List Nat), xs.length = ys.length → serP xs ++ r = serP ys ++ s → xs = ys ∧ r = s
  | [], [], r, s, _, h => ⟨rfl, by simpa [serP] using h⟩
  | [], _ :: _, _, _, l, _ => by simp at l
  | _ :: _, [], _, _, l, _ => by simp at l
  | (x, x') :: xs, (y, y') :: ys, r, s, l, h => by
    rw [serP, serP, List.append_assoc, List.append_assoc, List.append_assoc, List.append_assoc] at h
    obtain ⟨h1, h2⟩ := ser_inj x y _ _ h
    obtain ⟨h3, h4⟩ := ser_inj x' y' _ _ h2
    obtain ⟨h5, h6⟩ := serP_inj xs ys r s (by simpa using l) h4
    exact ⟨by rw [h1, h3, h5], h6⟩
end
def num (x : PyData) : Nat := ls (ser x)
theorem num_inj {x y : PyData} (h : num x = num y) : x = y := (ser_inj x y [] [] (by rw [ls_inj h])).1
/-! ### the ghost: how often was drawn; what is kept beside -/
open Classical in
noncomputable def both (n : Nat) : Nat × PyData := if h : ∃ p : Nat × PyData, pr p.1 (num p.2) = n then Classical.choose h else (0, .none)
def gh (d : Nat) (x : PyData) : Nat := pr d (num x)
noncomputable def dr (n : Nat) : Nat := (both n).1
noncomputable def sto (n : Nat) : PyData := (both n).2
theorem both_gh (d : Nat) (x : PyData) : both (gh d x) = (d, x) := by
  have h : ∃ p : Nat × PyData, pr p.1 (num p.2) = gh d x := ⟨(d, x), rfl⟩
  unfold both
  rw [dif_pos h]
  obtain ⟨h1, h2⟩ := pr_inj (Classical.choose_spec h)
  exact Prod.ext h1 (num_inj h2)
@[simp] theorem dr_gh (d : Nat) (x : PyData) : dr (gh d x) = d := by unfold dr; rw [both_gh]
@[simp] theorem sto_gh (d : Nat) (x : PyData) : sto (gh d x) = x := by unfold sto; rw [both_gh]
/-- something else beside -/
noncomputable def put (n : Nat) (x : PyData) : Nat := gh (dr n) x
@[simp] theorem dr_put (n : Nat) (x : PyData) : dr (put n x) = dr n := dr_gh _ _
@[simp] theorem sto_put (n : Nat) (x : PyData) : sto (put n x) = x := sto_gh _ _
@[simp] theorem put_put (n : Nat) (x y : PyData) : put (put n x) y = put n y := by unfold put; rw [dr_gh]
end GH
set_option Elab.async false
set_option linter.all false
set_option maxRecDepth 100000
set_option maxHeartbeats 4000000
/-! things kept beside: instances, their fields; what is read over the law's box alone holds beside them, too -/
namespace TL
open PySem PySem.Spec PyProof.Rows L2
/-- what a field holds: data, an own list, an own dict of ints, of tuples -/
inductive Fl where
  | d (x : PyData)
  | l (p : Addr) (xs : List PyData)
  | r (p : Addr) (ps : List Addr) (xs : List PyData)
  | k (p : Addr) (kvs : List (Int × PyData))
  | t (p : Addr) (kvs : List (NestedKey × PyData))
structure Cell where
  c : Str
  a : Addr
  dx : Addr
  fs : List (Str × Fl)
def Fl.enc : Fl → List PyData
  | .d x => [.int 0, x]
  | .l p xs => [.int 1, .int (p : Nat), .list xs]
  | .r p ps xs => [.int 4, .int (p : Nat), .list xs, .list (ps.map fun (q : Addr) => .int ((q : Nat) : Int))]
  | .k p kvs => [.int 2, .int (p : Nat), .list (kvs.map fun q => .int q.1), .list (kvs.map (·.2))]
  | .t p kvs => [.int 3, .int (p : Nat), .list (kvs.map fun q => q.1.data), .list (kvs.map (·.2))]
theorem map_two {α β γ δ : Type} {f : α → γ} {g : α → δ} (h : ∀ x y, f x = f y → g x = g y → x = y) : ∀ {xs ys : List α}, xs.map f = ys.map f → xs.map g = ys.map g → xs = ys
  | [], [], _, _ => rfl
  | [], _ :: _, e, _ => by simp at e
  | _ :: _, [], e, _ => by simp at e
  | x :: xs, y :: ys, e, e' => by
    simp at e e'
    rw [h x y e.1 e'.1, map_two (β := β) h e.2 e'.2]
theorem nat_int {a b : Addr} (h : ((a : Nat) : Int) = ((b : Nat) : Int)) : a = b := Int.ofNat.inj h
theorem Fl.enc_inj {a b : Fl} (h : a.enc = b.enc) : a = b := by
  cases a <;> cases b <;> simp [Fl.enc] at h
  · rw [h]
  · rw [nat_int h.1, h.2]
  · rename_i p ps xs p' ps' xs'
    have e : ps = ps' := (List.map_inj_right (f := fun (q : Addr) => PyData.int ((q : Nat) : Int)) fun x y e => nat_int (by simpa using e)).mp h.2.2
    rw [nat_int h.1, h.2.1, e]
  · rw [nat_int h.1, map_two (β := Nat) (f := fun q : Int × PyData => q.1) (g := fun q => q.2) (fun x y e1 e2 => Prod.ext e1 e2) (by
      have := congrArg (List.map fun x => match x with | PyData.int i => i | _ => 0) h.2.1
      simpa [List.map_map, Function.comp_def] using this) h.2.2]
  · rw [nat_int h.1, map_two (β := Nat) (f := fun q : NestedKey × PyData => q.1.data) (g := fun q => q.2) (fun x y e1 e2 => Prod.ext (data_inj e1) e2) h.2.1 h.2.2]
def Cell.enc (c : Cell) : PyData := .list [.str c.c, .int (c.a : Nat), .int (c.dx : Nat), .list (c.fs.map fun f => .tuple (.str f.1 :: f.2.enc))]
theorem Cell.enc_inj {a b : Cell} (h : a.enc = b.enc) : a = b := by
  obtain ⟨c, a, dx, fs⟩ := a
  obtain ⟨c', a', dx', fs'⟩ := b
  simp [Cell.enc] at h
  obtain ⟨h1, h2, h3, h4⟩ := h
  have e : fs = fs' := (List.map_inj_right (f := fun f : Str × Fl => PyData.tuple (.str f.1 :: f.2.enc)) fun x y e => by
    simp at e
    exact Prod.ext e.1 (Fl.enc_inj e.2)).mp h4
  rw [h1, nat_int h2, nat_int h3, e]
def encS (x : List Cell) : PyData := .list (x.map Cell.enc)
theorem encS_inj {x y : List Cell} (h : encS x = encS y) : x = y := by
  unfold encS at h
  injection h with h
  exact (List.map_inj_right fun _ _ => Cell.enc_inj).mp h
/-! ### the ghost: draws, what is kept -/
noncomputable def dr (n : Nat) : Nat := GH.dr n
open Classical in
noncomputable def sto (n : Nat) : List Cell := if h : ∃ x, encS x = GH.sto n then Classical.choose h else []
def gh (d : Nat) (x : List Cell) : Nat := GH.gh d (encS x)
@[simp] theorem dr_gh (d : Nat) (x : List Cell) : dr (gh d x) = d := GH.dr_gh _ _
@[simp] theorem sto_gh (d : Nat) (x : List Cell) : sto (gh d x) = x := by
  have h : ∃ y, encS y = GH.sto (gh d x) := ⟨x, (GH.sto_gh _ _).symm⟩
  unfold sto
  rw [dif_pos h]
  exact encS_inj ((Classical.choose_spec h).trans (GH.sto_gh _ _))
noncomputable def put (n : Nat) (x : List Cell) : Nat := gh (dr n) x
@[simp] theorem dr_put (n : Nat) (x : List Cell) : dr (put n x) = dr n := dr_gh _ _
@[simp] theorem sto_put (n : Nat) (x : List Cell) : sto (put n x) = x := sto_gh _ _
/-! ### where things kept stand -/
def fadr : Fl → List Addr
  | .d _ => []
  | .l p _ => [p]
  | .r p ps _ => ps ++ [p]
  | .k p _ => [p]
  | .t p _ => [p]
def Cell.foot (c : Cell) : List Addr := c.a :: c.dx :: c.fs.flatMap fun f => fadr f.2
def foot (x : List Cell) : List Addr := x.flatMap Cell.foot
def insP (C dx a : Addr) (h : Heap) : Prop := h.get? a = some (PySem.W.instObj C dx)
def fldP (dx : Addr) (fs : List (Str × V)) (h : Heap) : Prop := ∃ mA, h.Ns1 dx mA ∧ (∀ f, RelO (fs.lookup f) (mA f)) ∧ PySem.Within mA (fs.map (·.1))
/-- things wrapped: their own objects alone tell them -/
def lstP (p : Addr) (xs : List V) (h : Heap) : Prop := xs.length ≤ sizeLine ∧ ∃ (its : List Value) (n : Nat), Vals xs its ∧ h.get? p = some { cls := .type "list", data := .seq its.toArray n }
def dIp (p : Addr) (ws : List (Key × V)) (h : Heap) : Prop := ∃ (P : Program) (w : World), ObjOk P w (fun _ => none) h p (.dK ws)
def FlOk (K : PySem.W.Frag) (H F : Hp) : Fl → V → Prop
  | .d x, v => Dp K F v x
  | .l p xs, v => v = .ref p ∧ F p = none ∧ ∃ vs, H p = some (.ext (lstP p vs)) ∧ DpAll K F vs xs
  | .r p ps xs, v => v = .ref p ∧ F p = none ∧ (∃ vs, H p = some (.ext (lstP p vs)) ∧ DpAll K F vs xs) ∧ ∀ o ∈ ps, F o = none ∧ ∃ φ, H o = some (.ext φ)
  | .k p kvs, v => v = .ref p ∧ F p = none ∧ ∃ ws, H p = some (.ext (dIp p ws)) ∧ KD K F ws (okI kvs)
  | .t p kvs, v => v = .ref p ∧ F p = none ∧ ∃ ws, H p = some (dV p ws) ∧ Paired (KOp K F) ws kvs
def FlsOk (K : PySem.W.Frag) (H F : Hp) : List (Str × Fl) → List (Str × V) → Prop := Paired fun p q => p.1 = q.1 ∧ FlOk K H F p.2 q.2
structure CellOk (K : PySem.W.Frag) (H F : Hp) (c : Cell) : Prop where
  ia : H c.a = some (.ext (insP (He.ga K c.c) c.dx c.a))
  fa : F c.a = none
  fx : F c.dx = none
  ix : ∃ vs, H c.dx = some (.ext (fldP c.dx vs)) ∧ FlsOk K H F c.fs vs
structure MemOk (K : PySem.W.Frag) (x : List Cell) (H F : Hp) : Prop where
  nd : (foot x).Nodup
  ok : ∀ c ∈ x, CellOk K H F c
section
variable {K : PySem.W.Frag} {H F H' F' : Hp}
theorem FlOk.at_ {f : Fl} {v : V} (h : FlOk K H F f v) : ∀ p ∈ fadr f, F p = none ∧ ∃ φ, H p = some (.ext φ) := by
  intro p hp
  cases f with
  | d x => cases hp
  | l q xs =>
    obtain rfl := List.mem_singleton.mp hp
    obtain ⟨_, h1, vs, h2, _⟩ := h
    exact ⟨h1, _, h2⟩
  | r q ps xs =>
    obtain ⟨_, h1, ⟨vs, h2, _⟩, h3⟩ := h
    rcases List.mem_append.mp hp with hp | hp
    · exact h3 p hp
    · obtain rfl := List.mem_singleton.mp hp
      exact ⟨h1, _, h2⟩
  | k q xs =>
    obtain rfl := List.mem_singleton.mp hp
    obtain ⟨_, h1, vs, h2, _⟩ := h
    exact ⟨h1, _, h2⟩
  | t q xs =>
    obtain rfl := List.mem_singleton.mp hp
    obtain ⟨_, h1, vs, h2, _⟩ := h
    exact ⟨h1, _, h2⟩
theorem FlOk.mono {f : Fl} {v : V} (h : FlOk K H F f v) (s : Same F F') (k : ∀ p ∈ fadr f, H' p = H p ∧ F' p = F p) : FlOk K H' F' f v := by
  cases f with
  | d x => exact dp_mono s _ _ h
  | l q xs =>
    obtain ⟨e, h1, vs, h2, h3⟩ := h
    obtain ⟨k1, k2⟩ := k q (by simp [fadr])
    exact ⟨e, k2.trans h1, vs, k1.trans h2, dp_monoAll s _ _ h3⟩
  | r q ps xs =>
    obtain ⟨e, h1, ⟨vs, h2, h3⟩, h4⟩ := h
    obtain ⟨k1, k2⟩ := k q (by simp [fadr])
    refine ⟨e, k2.trans h1, ⟨vs, k1.trans h2, dp_monoAll s _ _ h3⟩, fun o ho => ?_⟩
    obtain ⟨k3, k4⟩ := k o (by simp [fadr, ho])
    obtain ⟨h5, φ, h6⟩ := h4 o ho
    exact ⟨k4.trans h5, φ, k3.trans h6⟩
  | k q xs =>
    obtain ⟨e, h1, vs, h2, h3⟩ := h
    obtain ⟨k1, k2⟩ := k q (by simp [fadr])
    exact ⟨e, k2.trans h1, vs, k1.trans h2, h3.mono s⟩
  | t q xs =>
    obtain ⟨e, h1, vs, h2, h3⟩ := h
    obtain ⟨k1, k2⟩ := k q (by simp [fadr])
    exact ⟨e, k2.trans h1, vs, k1.trans h2, Paired.mapP h3 fun a b z => ⟨z.1, dp_mono s _ _ z.2.1, dp_mono s _ _ z.2.2⟩⟩
theorem FlsOk.at_ : ∀ {fs : List (Str × Fl)} {vs : List (Str × V)}, FlsOk K H F fs vs → ∀ p ∈ fs.flatMap (fun f => fadr f.2), F p = none ∧ ∃ φ, H p = some (.ext φ)
  | [], _, _, p, hp => by simp at hp
  | f :: fs, _, .cons a b, p, hp => by
    rw [List.flatMap_cons] at hp
    rcases List.mem_append.mp hp with hp | hp
    · exact a.2.at_ p hp
    · exact FlsOk.at_ b p hp
theorem FlsOk.mono (s : Same F F') : ∀ {fs : List (Str × Fl)} {vs : List (Str × V)}, FlsOk K H F fs vs → (∀ p ∈ fs.flatMap (fun f => fadr f.2), H' p = H p ∧ F' p = F p) → FlsOk K H' F' fs vs
  | [], _, .nil, _ => .nil
  | f :: fs, _, .cons a b, k => by
    rw [List.flatMap_cons] at k
    exact .cons ⟨a.1, a.2.mono s fun p hp => k p (List.mem_append_left _ hp)⟩ (FlsOk.mono s b fun p hp => k p (List.mem_append_right _ hp))
theorem CellOk.at_ {c : Cell} (h : CellOk K H F c) : ∀ p ∈ c.foot, F p = none ∧ ∃ φ, H p = some (.ext φ) := by
  intro p hp
  obtain ⟨vs, h1, h2⟩ := h.ix
  rcases List.mem_cons.mp hp with rfl | hp
  · exact ⟨h.fa, _, h.ia⟩
  rcases List.mem_cons.mp hp with rfl | hp
  · exact ⟨h.fx, _, h1⟩
  · exact FlsOk.at_ h2 p hp
theorem CellOk.mono {c : Cell} (h : CellOk K H F c) (s : Same F F') (k : ∀ p ∈ c.foot, H' p = H p ∧ F' p = F p) : CellOk K H' F' c := by
  obtain ⟨vs, h1, h2⟩ := h.ix
  obtain ⟨a1, a2⟩ := k c.a (by simp [Cell.foot])
  obtain ⟨b1, b2⟩ := k c.dx (by simp [Cell.foot])
  exact ⟨a1.trans h.ia, a2.trans h.fa, b2.trans h.fx, vs, b1.trans h1, FlsOk.mono s h2 fun p hp => k p (by simp only [Cell.foot, List.mem_cons]; exact .inr (.inr hp))⟩
theorem mem_foot {x : List Cell} {c : Cell} {p : Addr} (h : c ∈ x) (hp : p ∈ c.foot) : p ∈ foot x := List.mem_flatMap.mpr ⟨c, h, hp⟩
theorem MemOk.at_ {x : List Cell} (h : MemOk K x H F) {p : Addr} (hp : p ∈ foot x) : F p = none ∧ ∃ φ, H p = some (.ext φ) := by
  obtain ⟨c, hc, hp⟩ := List.mem_flatMap.mp hp
  exact (h.ok c hc).at_ p hp
theorem MemOk.mono {x : List Cell} (h : MemOk K x H F) (s : Same F F') (k : ∀ p ∈ foot x, H' p = H p ∧ F' p = F p) : MemOk K x H' F' :=
  ⟨h.nd, fun c hc => (h.ok c hc).mono s fun p hp => k p (mem_foot hc hp)⟩
theorem MemOk.nil : MemOk K [] H F := ⟨List.nodup_nil, fun c hc => by cases hc⟩
end
structure StoOk (s : Option Addr × PySem.W.Frag) (n : Nat) (H F : Hp) : Prop where
  same : Same F H
  box : ∀ b, s.1 = some b → H b = some (.ext (boxP b (dr n))) ∧ F b = none ∧ b ∉ foot (sto n)
  mem : MemOk s.2 (sto n) H F
/-- the law's box and things kept -/
@[reducible] def memMode : Mode where
  S := Option Addr × PySem.W.Frag
  b := Prod.fst
  K := Prod.snd
  vol s n a := s.1 = some a ∨ a ∈ foot (sto n)
  ok s n H F := StoOk s n H F
  isb e := .inl e
  sm h := h.same
  at_ h v := by
    rcases v with v | v
    · exact ⟨(h.box _ v).2.1, _, (h.box _ v).1⟩
    · exact h.mem.at_ v
  mono h s s' k := ⟨s', fun b e => ⟨(k b (.inl e)).1.trans (h.box b e).1, (k b (.inl e)).2.trans (h.box b e).2.1, (h.box b e).2.2⟩, h.mem.mono s fun p hp => k p (.inr hp)⟩
/-! ### from the one to the other -/
section
variable {P : Program} {w : World} {K : PySem.W.Frag} {mg : Str → Option Value} {base : Heap} {kr : Kd} {np : Nat} {f : FM}
variable {x : Str} {ar : Arguments} {ps : List Str} {k : Nat} {P2 : Program} {w2 : World}
end
end TL
set_option Elab.async false
set_option linter.all false
set_option maxRecDepth 100000
set_option maxHeartbeats 4000000
/-! instances: making, fields, methods -/
namespace TL
open PySem PySem.Spec PyProof.Rows L2
/-! ### cells -/
def setF {α : Type} (f : Str) (v : α) : List (Str × α) → List (Str × α)
  | [] => [(f, v)]
  | (g, x) :: r => if g = f then (g, v) :: r else (g, x) :: setF f v r
section
variable {K : PySem.W.Frag} {H F H' F' : Hp}
theorem FlsOk.get {f : Str} {fl : Fl} : ∀ {fs : List (Str × Fl)} {vs : List (Str × V)}, FlsOk K H F fs vs → fs.lookup f = some fl → ∃ v, vs.lookup f = some v ∧ FlOk K H F fl v
  | [], _, .nil, e => by cases e
  | (g, x) :: fs, (g', v) :: vs, .cons a b, e => by
    obtain ⟨rfl, a⟩ := a
    rw [List.lookup_cons] at e ⊢
    cases z : f == g with
    | true =>
      rw [z] at e
      cases e
      exact ⟨v, rfl, a⟩
    | false =>
      rw [z] at e
      exact FlsOk.get b e
theorem FlsOk.none {f : Str} : ∀ {fs : List (Str × Fl)} {vs : List (Str × V)}, FlsOk K H F fs vs → fs.lookup f = .none → vs.lookup f = .none
  | [], _, .nil, e => rfl
  | (g, x) :: fs, (g', v) :: vs, .cons a b, e => by
    obtain ⟨rfl, a⟩ := a
    rw [List.lookup_cons] at e ⊢
    cases z : f == g with
    | true => rw [z] at e; cases e
    | false =>
      rw [z] at e
      exact FlsOk.none b e
theorem FlsOk.len : ∀ {fs : List (Str × Fl)} {vs : List (Str × V)}, FlsOk K H F fs vs → fs.length = vs.length
  | _, _, .nil => rfl
  | _, _, .cons _ b => congrArg Nat.succ (FlsOk.len b)
theorem FlsOk.put {f : Str} {fl : Fl} {v : V} (hv : FlOk K H F fl v) : ∀ {fs : List (Str × Fl)} {vs : List (Str × V)}, FlsOk K H F fs vs → FlsOk K H F (setF f fl fs) (putF f v vs)
  | [], _, .nil => .cons ⟨rfl, hv⟩ .nil
  | (g, x) :: fs, (g', y) :: vs, .cons a b => by
    obtain ⟨rfl, a⟩ := a
    rw [setF, putF]
    dsimp only
    by_cases z : g = f
    · rw [if_pos z, if_pos z]
      exact .cons ⟨rfl, hv⟩ b
    · rw [if_neg z, if_neg z]
      exact .cons ⟨rfl, a⟩ (FlsOk.put hv b)
/-- a field's own thing is changed: its value stays -/
theorem FlsOk.chg {f : Str} {fl : Fl} {v : V} (hv : FlOk K H F fl v) : ∀ {fs : List (Str × Fl)} {vs : List (Str × V)}, FlsOk K H F fs vs → vs.lookup f = some v → FlsOk K H F (setF f fl fs) vs
  | [], _, .nil, e => by cases e
  | (g, x) :: fs, (g', y) :: vs, .cons a b, e => by
    obtain ⟨rfl, a⟩ := a
    rw [List.lookup_cons] at e
    rw [setF]
    by_cases z : g = f
    · subst z
      rw [if_pos rfl]
      simp at e
      subst e
      exact .cons ⟨rfl, hv⟩ b
    · rw [if_neg z]
      have z2 : (f == g) = false := beq_eq_false_iff_ne.mpr fun w => z w.symm
      rw [z2] at e
      exact .cons ⟨rfl, a⟩ (FlsOk.chg hv b e)
end
/-- the places of the own things of fields -/
def ffoot (fs : List (Str × Fl)) : List Addr := fs.flatMap fun f => fadr f.2
section
variable {K : PySem.W.Frag} {H F H' : Hp}
end
section
local instance : Mode := memMode
section
variable {X : Cx} {pins : List (Addr × Obj)} {σ : L2.St} {H F : Hp} {s : Shared}
end
/-- what is kept, by the names -/
theorem Rel.mem {A : Act} {τ : Ev} {n : Nat} {σ : L2.St} {H F : Hp} (R : Rel A τ n σ H F) : MemOk A.K (sto n) H F := by
  have B : StoOk A.bx n H F := R.box
  have e : A.bx.2 = A.K := R.ok.bk
  rw [← e]
  exact B.mem
/-! ### self.f -/
section
variable {X : Cx} {o e : Expr} {me : EM} {f C : Str} {pos pos' : Pos} {i : Nat} {kr : Kd}
/-! ### self.f = e, data -/
end
end
section
variable {τ : Ev} {n : Nat} {i : Nat} {C f : Str} {E : En} {me : EM} {Q : D → Nat → Prop}
end
end TL
set_option Elab.async false
set_option linter.all false
set_option maxRecDepth 100000
set_option maxHeartbeats 4000000
/-! instances: made, asked by methods; own dicts of tuples in their fields -/
namespace TL
open PySem PySem.Spec PyProof.Rows L2
section
theorem lookup_foot {f : Str} {old : Fl} : ∀ {fs : List (Str × Fl)}, fs.lookup f = some old → ∀ q ∈ fadr old, q ∈ ffoot fs
  | [], e, _, _ => by cases e
  | (g, x) :: r, e, q, hq => by
    rw [List.lookup_cons] at e
    show q ∈ fadr x ++ ffoot r
    cases z : f == g with
    | true =>
      rw [z] at e
      cases e
      exact List.mem_append_left _ hq
    | false =>
      rw [z] at e
      exact List.mem_append_right _ (lookup_foot e q hq)
variable {K : PySem.W.Frag} {H F H' : Hp}
/-- a field's own thing is changed where it stands -/
theorem FlsOk.upd {f : Str} {fl old : Fl} {v : V} (hv : FlOk K H' F fl v) (hk : ∀ q, q ∉ fadr old → H' q = H q) : ∀ {fs : List (Str × Fl)} {vs : List (Str × V)}, FlsOk K H F fs vs → (ffoot fs).Nodup → fs.lookup f = some old → vs.lookup f = some v → FlsOk K H' F (setF f fl fs) vs
  | [], _, .nil, _, e, _ => by cases e
  | (g, x) :: fs, (g', y) :: vs, .cons a b, nd, e, e' => by
    obtain ⟨rfl, a⟩ := a
    have nd : (fadr x ++ ffoot fs).Nodup := nd
    rw [List.nodup_append] at nd
    obtain ⟨n1, n2, n3⟩ := nd
    rw [List.lookup_cons] at e e'
    rw [setF]
    dsimp only at e e' ⊢
    by_cases z : g = f
    · subst z
      rw [if_pos rfl]
      simp at e e'
      subst e e'
      exact .cons ⟨rfl, hv⟩ (FlsOk.mono (fun _ _ z => z) b fun p hp => ⟨hk p fun w => n3 p w p hp rfl, rfl⟩)
    · rw [if_neg z]
      have z2 : (f == g) = false := beq_eq_false_iff_ne.mpr fun w => z w.symm
      rw [z2] at e e'
      have hin : ∀ q ∈ fadr old, q ∈ ffoot fs := fun q hq => lookup_foot e q hq
      exact .cons ⟨rfl, a.mono (fun _ _ z => z) fun p hp => ⟨hk p fun w => n3 p hp p (hin p w) rfl, rfl⟩⟩ (FlsOk.upd hv hk b n2 e e')
theorem CellOk.upd {c : Cell} {f : Str} {fl old : Fl} (h : CellOk K H F c) (nd : c.foot.Nodup) (e : c.fs.lookup f = some old) (hv : ∀ v, FlOk K H F old v → FlOk K H' F fl v) (hk : ∀ q, q ∉ fadr old → H' q = H q) (hin : ∀ q ∈ fadr old, q ∈ ffoot c.fs) : CellOk K H' F { c with fs := setF f fl c.fs } := by
  obtain ⟨vs, h1, h2⟩ := h.ix
  obtain ⟨v, l1, l2⟩ := h2.get e
  have nd : (c.a :: c.dx :: ffoot c.fs).Nodup := nd
  rw [List.nodup_cons, List.nodup_cons] at nd
  refine ⟨(hk c.a fun z => nd.1 (List.mem_cons_of_mem _ (hin _ z))).trans h.ia, h.fa, h.fx, vs, (hk c.dx fun z => nd.2.1 (hin _ z)).trans h1, FlsOk.upd (hv v l2) hk h2 nd.2.2 e l1⟩
end
section
local instance : Mode := memMode
section
variable {X : Cx} {o e b : Expr} {es : List Expr} {me mb : EM} {na no : NM} {ma : AM} {f C m : Str} {p pos pos' apos : Pos} {i : Nat} {kr : Kd}
/-! ### a name that holds an instance -/
/-! ### methods -/
structure MCal (P : Program) (w : World) (K : PySem.W.Frag) (mg : Str → Option Value) (base : Heap) (C m : Str) (ps : List Str) (k : Nat) (kr : Kd) (f : FM) : Prop where
  ex : ∃ (fd : FuncData), FnOk P w K mg base CX0 k (He.ma K (He.ga K C) m) fd ps (Pr K kr ps.length f) ∧ Binds K fd ps []
  me : Meth K (He.ga K C) m (He.ma K (He.ga K C) m)
end
end
end TL
set_option Elab.async false
set_option linter.all false
set_option maxRecDepth 100000
set_option maxHeartbeats 4000000
/-! instances made; own dicts of tuples in their fields -/
namespace TL
open PySem PySem.Spec PyProof.Rows L2
section
local instance : Mode := memMode
section
variable {X : Cx} {pins : List (Addr × Obj)} {σ : L2.St} {H : Hp} {s : Shared} {C : Addr}
end
section
variable {X : Cx} {o e b : Expr} {es : List Expr} {me mb mv : EM} {na no : NM} {ma : AM} {f C x : Str} {p pos pos' apos : Pos} {i : Nat} {kr : Kd}
/-- a class's __init__ -/
structure ICal (P : Program) (w : World) (K : PySem.W.Frag) (mg : Str → Option Value) (base : Heap) (C : Str) (ps : List Str) (k : Nat) (f : FM) : Prop where
  ex : ∃ (fd : FuncData), FnOk P w K mg base CX0 k (He.ma K (He.ga K C) "__init__") fd ps (Pr K .fz ps.length f) ∧ Binds K fd ps []
  mkk : Mk K (He.ga K C) (He.ma K (He.ga K C) "__init__")
  at_ : mg C = some (.ref (He.ga K C))
/-! ### self.f = {} -/
/-! ### self.f[k] and the like -/
end
end
end TL
set_option Elab.async false
set_option linter.all false
set_option maxRecDepth 100000
set_option maxHeartbeats 4000000
/-! four names at once -/
namespace TL
variable [Mode]
open PySem PySem.Spec PyProof.Rows L2
section
variable {X : Cx} {a b c d : Expr} {na nb nc nd : NM} {pos : Pos} {kr : Kd}
end
section
variable {τ : Ev} {n : Nat} {E : En}
end
section
variable {P : Program} {w : World} {K : PySem.W.Frag} {mg : Str → Option Value} {base : Heap} {C m : Str} {ps : List Str} {j k : Nat} {kr : Kd} {f : FM}
theorem MCal.up (c : MCal P w K mg base C m ps k kr f) (h : k ≤ j := by decide) : MCal P w K mg base C m ps j kr f := by
  obtain ⟨⟨fd, G, b⟩, me⟩ := c
  exact ⟨⟨fd, G.mono h, b⟩, me⟩
theorem ICal.up (c : ICal P w K mg base C ps k f) (h : k ≤ j := by decide) : ICal P w K mg base C ps j f := by
  obtain ⟨⟨fd, G, b⟩, m1, m2⟩ := c
  exact ⟨⟨fd, G.mono h, b⟩, m1, m2⟩
theorem MCal.zero {fd : FuncData} (me : Meth K (He.ga K C) m (He.ma K (He.ga K C) m)) (b : Binds K fd ps []) : MCal P w K mg base C m ps k kr (fun _ _ _ _ => False) :=
  ⟨⟨fd, ⟨fun vs H Q E h => @Pr.len memMode _ _ _ _ _ _ _ _ h, fun _ _ _ _ _ _ _ _ _ _ _ _ _ hs => (let ⟨_, _, _, _, _, _, _, _, _, _, hm, _⟩ := hs; hm.elim)⟩, b⟩, me⟩
end
end TL
set_option Elab.async false
set_option linter.all false
set_option maxRecDepth 100000
set_option maxHeartbeats 4000000
/-! lists and dicts of ints that are kept in fields -/
namespace TL
open PySem PySem.Spec PyProof.Rows L2
section
variable {X : Cx} {pins : List (Addr × Obj)} {σ : L2.St} {H : Hp} {s : Shared} {p : Addr} {vs : List V} {ws : List (Key × V)}
end
/-! ### steps that no code makes -/
/-- from the one picture of the heap to the other -/
def Gho (X : Cx) (H H' : Hp) : Prop := ∀ pins σ s, Inv X pins σ H s → Inv X pins σ H' s
section
variable {X : Cx} {e : Expr} {t : TE} {tt : TT} {tg : V → V → Hp → VK → Prop} {tset : TSet}
theorem PE.gh (h : PE X e t) : PE X e (fun σ H Q => t σ H fun v H1 => ∃ H2, Gho X H1 H2 ∧ Q v H2) :=
  ⟨fun pins s σ H Q I q => thn (h.run pins s σ H _ I q) fun u s1 ⟨v, H1, I1, r, H2, g, q2⟩ => ⟨v, H2, g _ _ _ I1, r, q2⟩⟩
theorem PT.gh (h : PT X e tt) : PT X e (fun σ H Q => tt σ H fun b H1 => ∃ H2, Gho X H1 H2 ∧ Q b H2) :=
  ⟨fun pins s σ H Q I q => thn (h.run pins s σ H _ I q) fun b s1 ⟨H1, I1, H2, g, q2⟩ => ⟨H2, g _ _ _ I1, q2⟩⟩
theorem Gho.refl (H : Hp) : Gho X H H := fun _ _ _ I => I
end
end TL
set_option Elab.async false
set_option linter.all false
set_option maxRecDepth 100000
set_option maxHeartbeats 4000000
/-! fields that hold own lists, own dicts of ints -/
namespace TL
open PySem PySem.Spec PyProof.Rows L2
section
local instance : Mode := memMode
section
variable {X : Cx} {o b e : Expr} {mb mv me mi : EM} {f C : Str} {pos apos pos' : Pos} {i : Nat} {kr : Kd}
/-! ### lists: self.f[b], self.f[b] op= e, self.f = e -/
/-! ### dicts of ints: self.f = {k: v}, self.f[k], k in self.f, self.f[k] = e -/
end
end
section
variable {τ : Ev} {n : Nat} {i : Nat} {C f : Str} {E : En} {mb mk mv me mi : EM} {Q : D → Nat → Prop} {m : NM} {neg : Bool} {g : Int → Int → Int}
end
end TL
set_option Elab.async false
set_option linter.all false
set_option maxRecDepth 100000
set_option maxHeartbeats 4000000
/-! bits of numbers from nought; three names at once, some of them in cells -/
namespace TL
variable [Mode]
open PySem PySem.Spec PyProof.Rows L2
section
variable {K : PySem.W.Frag}
end
section
variable {X : Cx} {a b c : Expr} {ma mb : EM} {na nb nc : NM} {pos : Pos} {kr : Kd}
end
end TL
set_option Elab.async false
set_option linter.all false
set_option maxRecDepth 100000
set_option maxHeartbeats 4000000
/-! {a: x, ..}[e]; for k, v in d.items(); list(range(a, b, -1)) -/
namespace TL
variable [Mode]
open PySem PySem.Spec PyProof.Rows L2
section
variable {X : Cx} {a b c e o : Expr} {ma mb mc me : EM} {na : NM} {p q pos qos apos cpos : Pos}
/-! ### list(range(a, b, -1)) -/
end
end TL
set_option Elab.async false
set_option linter.all false
set_option maxRecDepth 100000
set_option maxHeartbeats 4000000
/-! texts: join, split, f-strings, int(text), str(number), text * n, sign by sign -/
namespace TL
variable [Mode]
open PySem PySem.Spec PyProof.Rows L2
section
variable {X : Cx} {a b c e o : Expr} {ma mb mc me mo : EM} {p q pos qos apos cpos : Pos}
/-! ### f-strings -/
inductive Js2 (X : Cx) : List Expr → List EM → Prop
  | nil : Js2 X [] []
  | cons {e : Expr} {m : EM} {es : List Expr} {ms : List EM} : E2 X .fz e m → Js2 X es ms → Js2 X (e :: es) (m :: ms)
/-! ### int(text), str(number), text * n -/
/-! ### for c in text -/
end
end TL
set_option Elab.async false
set_option linter.all false
set_option maxRecDepth 100000
set_option maxHeartbeats 4000000
/-! texts: strip(signs), text[::-1] -/
namespace TL
variable [Mode]
open PySem PySem.Spec PyProof.Rows L2
section
variable {X : Cx} {a b c e o : Expr} {ma mb mc me mo : EM} {p q pos qos apos cpos : Pos}
/-! ### text[::-1] -/
end
section
variable {X : Cx} {a : Expr} {ma : EM} {pos : Pos}
end
end TL
set_option Elab.async false
set_option linter.all false
set_option maxRecDepth 100000
set_option maxHeartbeats 4000000
/-! a new list of new lists and other things, made up step by step and handed back -/
namespace TL
open PySem PySem.Spec PyProof.Rows L2
section
variable [Mode]
variable {X : Cx} {pos : Pos} {a b : Expr} {ma mb : EM} {kr : Kd}
theorem keep_at {bx : Bx} {n n' : Nat} {H F H' F' : Hp} (x : Adv bx n n' H F H' F') (B : BoxOk bx n H F) {c : Addr} (z : ∃ u, H c = some u ∧ ∀ φ, u ≠ .ext φ) : H' c = H c := by
  obtain ⟨u, z, zu⟩ := z
  rw [z]
  exact x.keep c u z (BoxOk.no B z zu)
theorem hetA_app {P : V → D → List Addr → Prop} : ∀ {vs : List V} {ds : List D} {fp : List Addr} {us : List V} {es : List D} {gp : List Addr}, FrA P vs ds fp → FrA P us es gp → (∀ a ∈ fp, a ∉ gp) → FrA P (vs ++ us) (ds ++ es) (fp ++ gp)
  | [], [], fp, us, es, gp, h, g, w => by
    rw [show fp = [] from h]
    exact g
  | v :: vs, d :: ds, fp, us, es, gp, ⟨f1, f2, e, h1, h2, h3⟩, g, w => by
    refine ⟨f1, f2 ++ gp, by rw [e, List.append_assoc], h1, hetA_app h2 g fun a ha => w a (by rw [e]; exact List.mem_append_right _ ha), fun a ha hb => ?_⟩
    rcases List.mem_append.mp hb with hb | hb
    · exact h3 a ha hb
    · exact w a (by rw [e]; exact List.mem_append_left _ ha) hb
  | [], _ :: _, _, _, _, _, h, _, _ => h.elim
  | _ :: _, [], _, _, _, _, h, _, _ => h.elim
/-! ### what stands in such a list -/
def notL : D → Bool
  | .list _ => false
  | _ => true
def tDH (K : PySem.W.Frag) (m : DM) : TA := fun σ H Q => ∃ A τ n F P, A.K = K ∧ Rel A τ n σ H F ∧ m τ n P ∧ ∀ ds n' vs H' F', P ds n' → Adv A.bx n n' H F H' F' → DpAll K F' vs ds → (∃ fp, FrA (HetI H H') vs ds fp) → Q vs H'
structure DH2 (X : Cx) (es : List Expr) (m : DM) : Prop where
  pa : PA X es (tDH X.K m)
theorem dh_nil : DH2 X [] aNil := ⟨pa_weak pa_nil fun σ H Q ⟨A, τ, n, F, P, eK, R, p, hq⟩ => hq [] n [] H F p (Adv.refl R.same R.box) .nil ⟨[], rfl⟩⟩
/-- one thing, told by what it is -/
def tI (K : PySem.W.Frag) (m : EM) : TE := fun σ H Q => ∃ A τ n F P, A.K = K ∧ Rel A τ n σ H F ∧ m τ n P ∧ ∀ d n' v H' F', P d n' → Adv A.bx n n' H F H' F' → Dp K F' v d → (∃ fp, HetI H H' v d fp) → Q v H'
structure EI (X : Cx) (e : Expr) (m : EM) : Prop where
  pe : PE X e (tI X.K m)
theorem ei_nw (h : E2 X .nw a ma) : EI X a ma := ⟨pe_weak h.pe fun σ H Q ⟨A, τ, n, F, P, eK, R, hm, hq⟩ => ⟨A, τ, n, F, P, eK, R, hm, fun d n' v H' F' p a r => by
  obtain ⟨F2, h1, h2, h3, hB, h4⟩ := nw_fz a.sub r
  obtain ⟨q, vs, xs, rfl, rfl, h0, hf, g1, g2⟩ := r
  exact hq _ n' _ H' F2 p ⟨a.keep, fun c hc => (h1 c hc).trans (a.old c hc), h2, hB _ _ a.box, a.grow, a.new⟩ h4 ⟨[q], .inl ⟨q, vs, xs, rfl, rfl, rfl, h0, g1, dpAll_len g2⟩⟩⟩⟩
def mNL (m : EM) : EM := fun τ n P => m τ n fun d n' => notL d = true ∧ P d n'
theorem ei_fz (h : E2 X .fz a ma) : EI X a (mNL ma) := ⟨pe_weak h.pe fun σ H Q ⟨A, τ, n, F, P, eK, R, hm, hq⟩ => ⟨A, τ, n, F, _, eK, R, hm, fun d n' v H' F' p a r => hq d n' v H' F' p.2 a r ⟨[], .inr ⟨(fun es z => by
  have := p.1
  rw [z] at this
  cases this), rfl⟩⟩⟩⟩
theorem ei_nn {k : Nat} (h : E2 X (.nn (k + 1)) a ma) : EI X a ma := ⟨pe_weak h.pe fun σ H Q ⟨A, τ, n, F, P, eK, R, hm, hq⟩ => ⟨A, τ, n, F, P, eK, R, hm, fun d n' v H' F' p a r => by
  obtain ⟨r1, fp, b, vs, ds, fp', rfl, ef, h0, hn, _, hf⟩ := r
  rcases hn with ⟨rfl, h1⟩ | ⟨rfl, o, h1⟩
  · exact hq _ n' _ H' F' p a r1 ⟨[b], .inl ⟨b, vs, ds, rfl, rfl, rfl, h0, h1, hf.len⟩⟩
  · exact hq _ n' _ H' F' p a r1 ⟨[], .inr ⟨(fun es z => nomatch z), rfl⟩⟩⟩⟩
theorem dh_cons {es : List Expr} {m : DM} (ha : EI X a ma) (hr : DH2 X es m) (hs : starEach (a :: es) X.env = (false, eval a X.env) :: starEach es X.env := by rfl) : DH2 X (a :: es) (aCons ma m) := by
  refine ⟨pa_weak (pa_cons ha.pe hr.pa hs) fun σ H Q ⟨A, τ, n, F, P, eK, R, hm, hq⟩ => ⟨A, τ, n, F, _, eK, R, hm, fun d n1 v H1 F1 p1 a1 r1 ⟨f1, g1⟩ => ?_⟩⟩
  refine ⟨A, τ, n1, F1, _, eK, R.step a1, p1, fun ds n2 vs H2 F2 p2 a2 r2 ⟨f2, g2⟩ => ?_⟩
  refine hq (d :: ds) n2 (v :: vs) H2 F2 p2 (a1.trans a2) (.cons (dp_mono (a2.fro a1.sub) d v r1) r2) ⟨f1 ++ f2, f1, f2, rfl, g1.mono (fun _ _ z => z) (fun c hc => keep_at a2 (R.step a1).box (g1.at c hc).2), g2.mono (fun u x f hu hf => hu.mono (fun c _ z => a1.none_back c z) fun _ _ => rfl), fun c h1 h2 => ?_⟩
  obtain ⟨u, z, _⟩ := (g1.at c h1).2
  rw [(hetA_at g2 c h2).1] at z
  cases z
/-- [e, ..] of such things -/
def tHL (K : PySem.W.Frag) (m : DM) : TE := fun σ H Q => ∃ A τ n F P, A.K = K ∧ Rel A τ n σ H F ∧ m τ n P ∧ ∀ ds n' a vs H' F', P ds n' → Adv A.bx n n' H F H' F' → H a = none → F' a = none → H' a = some (.lst vs) → DpAll K F' vs ds → (∃ fp, a ∉ fp ∧ FrA (HetI H H') vs ds fp) → Q (.ref a) H'
theorem node_newH {H : Hp} {q : Addr} {o : HO} {H0 : Hp} {vs : List V} {ds : List D} {fp : List Addr} (hp : H q = none) (h : FrA (HetI H0 H) vs ds fp) : q ∉ fp ∧ FrA (HetI H0 (upd H q o)) vs ds fp := by
  have nq : q ∉ fp := fun z => by
    obtain ⟨u, e, _⟩ := (hetA_at h q z).2
    rw [hp] at e
    cases e
  refine ⟨nq, h.mono fun v d f hv hf => hv.mono (fun _ _ z => z) fun c hc => ?_⟩
  rw [upd_ne]
  intro e
  subst e
  exact nq (hf c hc)
def mHL (m : DM) : DM := fun τ n P => m τ n fun ds n' => ds.length ≤ sizeLine ∧ P ds n'
theorem pe_hl {es : List Expr} {m : DM} (h : DH2 X es m) : PE X (.List es pos) (tHL X.K (mHL m)) := by
  refine pe_weak (pe_lst h.pa) fun σ H Q ⟨A, τ, n, F, P, eK, R, hm, hq⟩ => ⟨A, τ, n, F, _, eK, R, hm, ?_⟩
  rintro ds n' vs H' F' ⟨z, p⟩ a1 r ⟨fp, g⟩
  refine ⟨by rw [dpAll_len r]; exact z, fun q hp => ?_⟩
  obtain ⟨g1, g2⟩ := node_newH (o := .lst vs) hp g
  have fq : F' q = none := by
    cases e : F' q with
    | none => rfl
    | some o => rw [a1.sub q o e] at hp; cases hp
  exact hq ds n' q vs _ F' p (a1.trans ((PAdv.new' a1.sub hp).adv (R.step a1).box)) (a1.none_back q hp) fq upd_same r ⟨fp, g1, g2⟩
/-! ### the list as it grows -/
structure HS (A : Act) (σ : L2.St) (H F : Hp) (i : Nat) (ds : List D) : Prop where
  at_ : ∃ a vs fp, σ[i]? = some (some (.ref a)) ∧ A.H0 a = none ∧ F a = none ∧ H a = some (.lst vs) ∧ DpAll A.K F vs ds ∧ a ∉ fp ∧ FrA (HetI A.H0 H) vs ds fp
theorem hs_step {A : Act} {H F H' F' : Hp} {n n' : Nat} {a : Addr} {vs : List V} {ds : List D} {fp : List Addr} (x : Adv A.bx n n' H F H' F') (B : BoxOk A.bx n H F) (s : Same F H) (hf : F a = none) (h1 : H a = some (.lst vs)) (h2 : DpAll A.K F vs ds) (h4 : FrA (HetI A.H0 H) vs ds fp) :
    F' a = none ∧ H' a = some (.lst vs) ∧ DpAll A.K F' vs ds ∧ FrA (HetI A.H0 H') vs ds fp := by
  refine ⟨?_, ?_, dp_monoAll (x.fro s) _ _ h2, h4.mono fun v d f hv hf => hv.mono (fun _ _ z => z) fun c hc => keep_at x B (hv.at c hc).2⟩
  · rw [x.old a (by rw [h1]; exact fun z => nomatch z)]
    exact hf
  · rw [keep_at x B ⟨_, h1, fun φ z => nomatch z⟩]
    exact h1
theorem HS.step {A : Act} {σ : L2.St} {H F H' F' : Hp} {i n n' : Nat} {ds : List D} (h : HS A σ H F i ds) (x : Adv A.bx n n' H F H' F') (B : BoxOk A.bx n H F) (s : Same F H) : HS A σ H' F' i ds := by
  obtain ⟨a, vs, fp, e, h0, hf, h1, h2, h3, h4⟩ := h.at_
  obtain ⟨k1, k2, k3, k4⟩ := hs_step x B s hf h1 h2 h4
  exact ⟨a, vs, fp, e, h0, k1, k2, k3, h3, k4⟩
/-- no name holds an own thing -/
def NoOw (τ : Ev) : Prop := ∀ (j : Nat) (s : Sl), τ[j]? = some (some s) → s.own = false
theorem NoOw.none {τ : Ev} (h : NoOw τ) (i : Nat) : NoOw (τ.set i none) := fun j s e => by
  by_cases z : j = i
  · subst z
    rw [List.getElem?_set_self (by
      have := (List.getElem?_eq_some_iff.mp e).1
      rwa [List.length_set] at this)] at e
    cases e
  · rw [List.getElem?_set_ne (Ne.symm z)] at e
    exact h j s e
theorem NoOw.same {τ τ' : Ev} (h : NoOw τ) (o : OwnSame τ τ') : NoOw τ' := fun j s e => by
  cases q : s.own with
  | false => rfl
  | true => rw [h j s (o j s e q)] at q; cases q
theorem Rel.updH {A : Act} {τ : Ev} {n : Nat} {σ : L2.St} {H F : Hp} {a : Addr} {u vs : HO} (R : Rel A τ n σ H F) (no : NoOw τ) (h0 : A.H0 a = none) (hf : F a = none) (hH : H a = some u) (hu : ∀ φ, u ≠ .ext φ) : Rel A τ n σ (L2.upd H a vs) F := by
  have hb : ¬ Vol A.bx n a := R.box.no hH hu
  refine ⟨R.ok, R.len, ⟨fun c o z x => ?_, R.adv.old, fun c o z => ?_, R.box.upd hb hf, R.adv.grow, R.adv.new⟩, fun j s z => ?_, fun j l c s1 s2 hjk e1 o1 => ?_⟩
  · rw [upd_ne (ne_of_none z h0)]; exact R.adv.keep c o z x
  · rw [upd_ne (ne_of_none z hf)]; exact R.same c o z
  · obtain ⟨w, g1, g2⟩ := R.sl j s z
    refine ⟨w, g1, ?_⟩
    have o := no j s z
    cases s with
    | d x => exact g2
    | box => exact g2
    | raw x => exact g2
    | dk x => exact g2
    | dt x => exact g2
    | ow x => cases o
    | odk x => cases o
    | odt x => cases o
    | nl x y => cases o
  · rw [no j s1 e1] at o1
    cases o1
abbrev HM := List D → Ev → Nat → (List D → Ev → Nat → Prop) → (D → Nat → Prop) → Prop
structure HEnd (A : Act) (i : Nat) (N : List D → Ev → Nat → Prop) (P : D → Nat → Prop) (F : Hp) (Dd : L2.Ends) : Prop where
  nx : ∀ ds τ n σ H F', N ds τ n → Rel A τ n σ H F' → NoOw τ → HS A σ H F' i ds → Same F F' → Dd.nx σ H
  rt : ∀ d n v H F', P d n → Adv A.bx A.n0 n A.H0 A.F0 H F' → RepK A.K .het A.H0 H F' v d → Dd.rt v H
theorem HEnd.sub {A : Act} {i : Nat} {N : List D → Ev → Nat → Prop} {P : D → Nat → Prop} {F F2 : Hp} {Dd : L2.Ends} (e : HEnd A i N P F Dd) (s : Same F F2) : HEnd A i N P F2 Dd := ⟨fun ds τ n σ H F' p R o h q => e.nx ds τ n σ H F' p R o h (s.trans q), e.rt⟩
def tH (K : PySem.W.Frag) (i : Nat) (m : HM) : TS := fun Dd σ H => ∃ A τ n F ds N P, A.K = K ∧ Rel A τ n σ H F ∧ NoOw τ ∧ HS A σ H F i ds ∧ m ds τ n N P ∧ HEnd A i N P F Dd
structure H2 (X : Cx) (i : Nat) (sts : List Stmt) (m : HM) : Prop where
  ps : PSs X sts (tH X.K i m)
def hNil : HM := fun ds τ n N _ => N ds τ n
theorem h_nil {i : Nat} : H2 X i [] hNil := ⟨pss_weak pss_nil fun Dd σ H ⟨A, τ, n, F, ds, N, P, eK, R, o, hs, p, w⟩ => w.nx ds τ n σ H F p R o hs (Same.refl F)⟩
/-- x = x + [e, ..] -/
def hCat (me : DM) (m : HM) : HM := fun ds τ n N P => me τ n fun es n1 => ds.length + es.length ≤ sizeLine ∧ m (ds ++ es) τ n1 N P
def hCatS (i : Nat) (me : DM) (m : HM) : HM := fun ds τ n N P => hCat me (fun ds τ n N P => m ds (τ.set i none) n N P) ds τ n N P
theorem h_cat {i : Nat} {x : Str} {p1 p2 p3 p4 : Pos} {es : List Expr} {me : DM} {m : HM} {tail : List Stmt} (hN : X.N.Nodup) (hi : X.N[i]? = some x) (hx : Loc X.env.scope x) (hv : PE X (.Name x p2) (tVar i)) (h : DH2 X es me) (ht : H2 X i tail m)
    (hs : swapsWith (.BinOp (.Name x p2) .Add (.List es p3) p4) (some (.Name x p1)) pos.line X.env = pure false := by rfl) (hf : X.fn x = true ∨ X.env.scope.names.lookup x = some .local := by first | exact .inl rfl | exact .inr rfl | assumption) :
    H2 X i (.Assign [.Name x p1] (.BinOp (.Name x p2) .Add (.List es p3) p4) pos :: tail) (hCatS i (mHL me) m) := by
  refine ⟨pss_weak (pss_cons (ps_set hN hi hx (pe_op op_catS hv (pe_hl h)) hs hf) ht.ps) fun Dd σ H ⟨A, τ, n, F, ds, N, P, eK, R, o, hs, p, w⟩ => ?_⟩
  obtain ⟨a0, vs0, fp0, e0, h0, f0, h1, h2, h3, h4⟩ := hs.at_
  refine ⟨_, e0, A, τ, n, F, _, eK, R, p, ?_⟩
  rintro es' n1 b us H1 F1 ⟨hz, p1⟩ a1 hb fb hb1 hd ⟨gp, ng, hg⟩
  have R1 := R.step a1
  rw [← eK] at hd
  obtain ⟨kf, k1, k2, k4⟩ := hs_step a1 R.box R.same f0 h1 h2 h4
  refine ⟨_, b, vs0, us, rfl, rfl, .inl (.inl k1), .inl (.inl hb1), by rw [dpAll_len k2, dpAll_len hd]; exact hz, fun q hq => ?_⟩
  have hi2 : i < τ.length := by
    rw [R.len]
    exact (List.getElem?_eq_some_iff.mp e0).1
  have a2 : Adv A.bx n1 n1 H1 F1 (upd H1 q (.lst (vs0 ++ us))) F1 := (PAdv.new' R1.same hq).adv R1.box
  have R2 := R1.gone (v := .ref q) i a2
  have fq : F1 q = none := by
    cases e : F1 q with
    | none => rfl
    | some o => rw [R1.same q o e] at hq; cases hq
  have g4 : FrA (HetI A.H0 H1) us es' gp := hg.mono fun u d f hu hf => hu.mono (fun c _ z => R.h0some z) fun _ _ => rfl
  have all := hetA_app k4 g4 fun c c1 c2 => by
    obtain ⟨u, z, zu⟩ := (hetA_at h4 c c1).2
    rw [(hetA_at hg c c2).1] at z
    cases z
  obtain ⟨q1, q2⟩ := node_newH (o := .lst (vs0 ++ us)) hq all
  refine ⟨A, _, n1, F1, ds ++ es', N, P, eK, R2, o.none i, ⟨q, vs0 ++ us, _, ?_, R1.h0some hq, fq, upd_same, dpAll_append k2 hd, q1, q2⟩, p1, w.sub (a1.fro R.same)⟩
  exact List.getElem?_set_self (by rw [← R.len]; exact hi2)
/-- x.append(e) -/
def hApp (me : EM) (m : HM) : HM := fun ds τ n N P => me τ n fun d n1 => ds.length + 1 ≤ sizeLine ∧ m (ds ++ [d]) τ n1 N P
theorem h_app {i : Nat} {o arg : Expr} {apos cpos : Pos} {m : HM} {tail : List Stmt} (ho : PE X o (tVar i)) (ha : EI X arg ma) (ht : H2 X i tail m)
    (hbase : attributeBase o "append" X.env (eval o X.env) = eval o X.env := by rfl) (hfew : ((backTo cpos (starEach [arg] X.env)).all (fun x => !x.1) && (backToKw cpos (keywordEach [] X.env)).all (fun x => x.1.isSome)
      && decide (([arg] : List Expr).length + ([] : List Keyword).length + (if ([] : List Keyword).isEmpty then 0 else 1) < 30)) = true := by rfl)
    (hline : (apos.endLine == cpos.line) = true := by rfl) (hs : starEach [arg] X.env = (false, eval arg X.env) :: starEach [] X.env := by rfl) (hplain : (backTo cpos (starEach [] X.env)).any (·.1) = false := by rfl)
    (hsw : swapsWith (.Call (.Attribute o "append" apos) [arg] [] cpos) none pos.line X.env = pure false := by rfl) :
    H2 X i (.Expr (.Call (.Attribute o "append" apos) [arg] [] cpos) pos :: tail) (hApp ma m) := by
  refine ⟨pss_weak (pss_cons (ps_expr (pe_bm PySem.F.plainAttrs_list PySem.F.slot_list_append PySem.F.type_list_append mt_append ho (pa_cons ha.pe pa_nil hs) hbase hfew hline hs hplain) hsw) ht.ps) fun Dd σ H ⟨A, τ, n, F, ds, N, P, eK, R, no, hs, p, w⟩ => ?_⟩
  obtain ⟨a0, vs0, fp0, e0, h0, f0, h1, h2, h3, h4⟩ := hs.at_
  refine ⟨_, e0, .inl ⟨rfl, vs0, .inl (.inl h1)⟩, A, τ, n, F, _, eK, R, p, ?_⟩
  rintro d n1 v H1 F1 ⟨hz, p1⟩ a1 hd ⟨gp, hg⟩
  have R1 := R.step a1
  rw [← eK] at hd
  obtain ⟨kf, k1, k2, k4⟩ := hs_step a1 R.box R.same f0 h1 h2 h4
  refine ⟨a0, vs0, v, rfl, rfl, k1, by rw [dpAll_len k2]; omega, ?_⟩
  have R2 := R1.updH (vs := .lst (vs0 ++ [v])) no h0 kf k1 fun φ z => nomatch z
  have g4 : FrA (HetI A.H0 H1) [v] [d] gp := ⟨gp, [], by simp, hg.mono (fun c _ z => R.h0some z) fun _ _ => rfl, rfl, fun _ _ z => by cases z⟩
  have all := hetA_app k4 g4 fun c c1 c2 => by
    obtain ⟨u, z, zu⟩ := (hetA_at h4 c c1).2
    rw [(hg.at c c2).1] at z
    cases z
  have na : a0 ∉ fp0 ++ gp := fun z => by
    rcases List.mem_append.mp z with z | z
    · exact h3 z
    · rw [(hg.at a0 z).1] at h1
      cases h1
  refine ⟨A, τ, n1, F1, ds ++ [d], N, P, eK, R2, no, ⟨a0, vs0 ++ [v], _, e0, h0, kf, upd_same, dpAll_append k2 (.cons hd .nil), na, all.mono fun u x f hu hf => hu.mono (fun _ _ z => z) fun c hc => ?_⟩, p1, w.sub (a1.fro R.same)⟩
  rw [upd_ne]
  intro z
  subst z
  exact na (hf _ hc)
/-- return x -/
def hRet : HM := fun ds _ n _ P => P (.list ds) n
theorem h_ret {i : Nat} {e : Expr} (h : PE X e (tVar i)) : H2 X i [.Return (some e) pos] hRet := by
  refine ⟨pss_weak (pss_one (ps_ret h)) fun Dd σ H ⟨A, τ, n, F, ds, N, P, eK, R, no, hs, p, w⟩ => ?_⟩
  obtain ⟨a, vs, fp, e0, h0, hf, h1, h2, h3, h4⟩ := hs.at_
  have sf : Same F (upd F a (.lst vs)) := fun c o z => by rw [upd_ne (ne_of_none z hf)]; exact z
  refine ⟨_, e0, w.rt _ n _ H (upd F a (.lst vs)) p ⟨R.adv.keep, fun c hc => ?_, fun c o z => ?_, R.box.frz h1 (fun _ e => nomatch e) hf, R.adv.grow, R.adv.new⟩ ⟨.lst (.inl (.inl upd_same)) (dp_monoAll sf _ _ h2), ds, a, vs, fp, rfl, rfl, h0, h1, h3, h4, dp_monoAll sf _ _ h2⟩⟩
  · rw [upd_ne (fun z => by subst z; exact hc h0)]; exact R.adv.old c hc
  · by_cases q : c = a
    · subst q; rw [upd_same] at z; cases z; exact h1
    · rw [upd_ne q] at z; exact R.same c o z
/-- for .. in ..: the list grows -/
def forH : List D → GM → HM → HM
  | [], _, _ => fun ds τ n N _ => N ds τ n
  | x :: r, g, b => fun ds τ n N P => g x τ n fun τ1 n1 => b ds τ1 n1 (fun ds2 τ2 n2 => forH r g b ds2 τ2 n2 N P) P
def hFor (mi : IM) (g : GM) (b m : HM) : HM := fun ds τ n N P => mi τ n fun items n1 => forH items g b ds τ n1 (fun ds2 τ2 n2 => m ds2 τ2 n2 N P) P
theorem h_for {i : Nat} {tg iter : Expr} {body tail : List Stmt} {mi : IM} {g : GM} {mb m : HM} {ws : List Nat} (hp : PassesOwn (model X.prog X.w) X.A X.env X.xe) (hc : X.calm = true) (hi : I2 X tg iter mi) (hg : G2 X ws tg g) (hw : i ∉ ws) (hb : H2 X i body mb) (ht : H2 X i tail m)
    (hs : ∀ x, foldedSetIterable iter X.env x = pure x := by intro _; rfl) : H2 X i (.For tg iter body [] pos :: tail) (hFor mi g mb m) := by
  refine ⟨pss_weak (pss_cons (ps_for hp hc hi.pi hg.pg hb.ps hs) ht.ps) fun Dd σ H ⟨A, τ, n, F, ds, N, P, eK, R, no, hs, p, w⟩ => ⟨A, τ, n, F, _, eK, R, p, fun items n1 J H1 F1 p1 a1 y => ?_⟩⟩
  refine ⟨fun k0 k σ2 H2 => ∃ τ2 n2 F2 ds2, k = items.length - k0 ∧ k0 ≤ items.length ∧ Rel A τ2 n2 σ2 H2 F2 ∧ NoOw τ2 ∧ HS A σ2 H2 F2 i ds2 ∧ Same F1 F2 ∧ forH (items.drop k0) g mb ds2 τ2 n2 (fun ds2 τ2 n2 => m ds2 τ2 n2 N P) P, ⟨items.length, τ, n1, F1, ds, rfl, Nat.zero_le _, R.step a1, no, hs.step a1 R.box R.same, Same.refl F1, by rw [List.drop_zero]; exact p1⟩, ?_⟩
  rintro k0 k σ2 H2 ⟨τ2, n2, F2, ds2, rfl, hk, R2, no2, hs2, s2, q⟩
  obtain ⟨y1, y2⟩ := y k0 H2 F2 s2 R2.same
  by_cases hl : k0 < items.length
  · have ed : items.drop k0 = items[k0] :: items.drop (k0 + 1) := List.drop_eq_getElem_cons hl
    rw [ed] at q
    obtain ⟨g1, g2⟩ := y1 items[k0] (List.getElem?_eq_getElem hl)
    refine .inr ⟨g1, fun σ' H' => ∃ τ3 n3 F3 ds3, Rel A τ3 n3 σ' H' F3 ∧ NoOw τ3 ∧ HS A σ' H' F3 i ds3 ∧ Same F2 F3 ∧ forH (items.drop (k0 + 1)) g mb ds3 τ3 n3 (fun ds2 τ2 n2 => m ds2 τ2 n2 N P) P, ?_, ?_⟩
    · rintro σ' H' ⟨τ3, n3, F3, ds3, R3, no3, hs3, s3, q3⟩
      exact ⟨items.length - (k0 + 1), by omega, τ3, n3, F3, ds3, rfl, hl, R3, no3, hs3, s2.trans s3, q3⟩
    · intro x H3 hy
      obtain ⟨F3, a3, d3⟩ := g2 x H3 hy
      have A3 := a3.adv R2.box
      have R3 := R2.step A3
      have hs3 := hs2.step A3 R2.box R2.same
      have f23 := a3.fro R2.same
      refine ⟨A, τ2, n2, F3, _, items[k0], eK, R3, d3, q, fun τ4 n4 σ4 H4 F4 p4 R4 s4 ad4 ⟨wp, os⟩ => ?_⟩
      have hs4 : HS A σ4 H4 F4 i ds2 := by
        obtain ⟨a, vs, fp, e0, r⟩ := (hs3.step ad4 R3.box R3.same).at_
        have z := congrArg (fun t => t[i]?) (wp ws fun _ h => h)
        simp only [wipe_get hw] at z
        exact ⟨a, vs, fp, z.trans e0, r⟩
      refine ⟨A, τ4, n4, F4, ds2, _, P, eK, R4, no2.same os, hs4, p4, fun ds5 τ5 n5 σ5 H5 F5 p5 R5 no5 hs5 s5 => ⟨τ5, n5, F5, ds5, R5, no5, hs5, f23.trans (s4.trans s5), p5⟩, w.rt⟩
  · have ei : k0 = items.length := by omega
    subst ei
    rw [List.drop_length] at q
    exact .inl ⟨y2 (Nat.le_refl _), A, τ2, n2, F2, ds2, N, P, eK, R2, no2, hs2, q, w.sub ((a1.fro R.same).trans s2)⟩
/-- x = [e, ..], and what follows up to its return -/
def sHet (i : Nat) (me : DM) (m : HM) : SM := fun E τ n => i < τ.length ∧ NoOw τ ∧ me τ n fun ds n1 => m ds (τ.set i none) n1 (fun _ _ _ => False) E.rt
theorem s_het {i : Nat} {x : Str} {p1 p3 : Pos} {es : List Expr} {me : DM} {m : HM} {tail : List Stmt} (hN : X.N.Nodup) (hi : X.N[i]? = some x) (hx : Loc X.env.scope x) (h : DH2 X es me) (ht : H2 X i tail m)
    (hs : swapsWith (.List es p3) (some (.Name x p1)) pos.line X.env = pure false := by rfl) (hf : X.fn x = true ∨ X.env.scope.names.lookup x = some .local := by first | exact .inl rfl | exact .inr rfl | assumption) :
    S2 X .het (.Assign [.Name x p1] (.List es p3) pos :: tail) (sHet i (mHL me) m) := by
  refine ⟨fun Wx tk => pss_weak (pss_cons (ps_set hN hi hx (pe_hl h) hs hf) ht.ps) fun Dd σ H ⟨A, τ, n, F, E, eK, R, ⟨hi2, no, p⟩, e⟩ => ⟨A, τ, n, F, _, eK, R, p, ?_⟩⟩
  rintro ds n1 a vs H1 F1 p1 a1 ha fa h1 hd ⟨fp, h3, h4⟩
  have R1 := R.step a1
  rw [← eK] at hd
  have R2 := R1.gone (v := .ref a) i (Adv.refl R1.same R1.box)
  refine ⟨A, _, n1, F1, ds, _, _, eK, R2, no.none i, ⟨a, vs, fp, List.getElem?_set_self (by rw [← R.len]; exact hi2), R.h0some ha, fa, h1, hd, h3, h4.mono fun v d f hv hf => hv.mono (fun c _ z => R.h0some z) fun _ _ => rfl⟩, p1, fun _ _ _ _ _ _ z => z.elim, fun d n2 v H2 F2 p2 a2 r2 => e.rt d n2 v H2 F2 p2 a2 r2⟩
end
end TL
set_option Elab.async false
set_option linter.all false
set_option maxRecDepth 100000
set_option maxHeartbeats 4000000
/-! the lists in such a list are changed, each one in turn, and it is left -/
namespace TL
open PySem PySem.Spec PyProof.Rows L2
section
variable [Mode]
variable {X : Cx} {pos : Pos} {a b : Expr} {ma mb : EM} {kr : Kd}
theorem isIn_list {d : D} (h : ∀ xs, d ≠ .list xs) : isIn (tyD d) "list" = false := by
  unfold tyD
  split <;> first | decide | (rename_i xs; exact absurd rfl (h _))
theorem tyx_off {K : PySem.W.Frag} {F H H' : Hp} {v : V} {d : D} {fp : List Addr} (s : Same F H) (r : Dp K F v d) (hd : okT d = true) (nl : ∀ xs, d ≠ .list xs) (hf : ∀ c ∈ fp, ∃ ws, H c = some (.lst ws)) (w : ∀ c, c ∉ fp → H' c = H c) : TyX K H' v (.type (tyD d)) := by
  have go : ∀ c o, F c = some o → (∀ ws, o ≠ .lst ws) → H' c = some o := fun c o e n => by
    have e2 := s c o e
    rw [w c fun z => by
      obtain ⟨ws, q⟩ := hf c z
      rw [e2] at q
      cases q
      exact n ws rfl]
    exact e2
  have st : ∀ {q : Addr} {vs : List V}, SqT K F q vs → TyX K H' (.ref q) (.type "tuple") := fun {q vs} h => by
    rcases h with (h | ⟨o, h⟩) | ⟨o, _, _, h1, h2, _⟩
    · exact .base (.tup (go _ _ h fun _ z => nomatch z))
    · exact .fTuple (go _ _ h fun _ z => nomatch z)
    · exact .kTuple h1 h2
  cases r with
  | non => exact .base .non
  | bl b => exact .base (.bl b)
  | int b => exact .base (.int b)
  | str b => exact .base (.str b)
  | lst hs ha => exact absurd rfl (nl _)
  | tup hs ha => exact st hs.sq
  | raw hs a b => exact st hs
  | pdc hp => cases hd
  | exc h1 h2 h3 => cases hd
  | dki h1 h2 h3 h4 => cases hd
  | dti h1 h2 h3 h4 => cases hd
  | ins h1 h2 h3 h4 => cases hd
  | hnd e => cases hd
/-- what is asked of such a list -/
def okHet (d : D) : Prop := ∃ es, d = .list es ∧ ∀ e ∈ es, okT e = true ∧ ∀ xs, e = .list xs → xs.length < sizeLine
/-- the items from here on -/
def Rest (K : PySem.W.Frag) (all : List Addr) (H1 : Hp) : List V → Hp → Prop
  | [], _ => True
  | v :: vs, H => (∃ b ws, v = .ref b ∧ b ∈ all ∧ H b = some (.lst ws) ∧ ws.length < sizeLine ∧ ∀ u, Rest K all H1 vs (L2.upd H b u)) ∨
    (∃ t, t ∈ ["NoneType", "bool", "int", "str", "list", "tuple", "dict"] ∧ isIn t "list" = false ∧ (∀ H', (∀ c, c ∉ all → H' c = H1 c) → TyX K H' v (.type t)) ∧ Rest K all H1 vs H)
theorem rest_of {K : PySem.W.Frag} {H0 H1 F : Hp} {all : List Addr} (s : Same F H1) (hall : ∀ c ∈ all, ∃ ws, H1 c = some (.lst ws)) : ∀ {vs : List V} {es : List D} {fp : List Addr} {H : Hp}, FrA (HetI H0 H) vs es fp → (∀ c ∈ fp, c ∈ all) → DpAll K F vs es → (∀ e ∈ es, okT e = true ∧ ∀ xs, e = .list xs → xs.length < sizeLine) → Rest K all H1 vs H
  | [], [], _, _, _, _, _, _ => True.intro
  | v :: vs, e :: es, fp, H, ⟨f1, f2, ef, h1, h2, h3⟩, hm, hd, ho => by
    cases hd with
    | cons d1 d2 =>
      have ho2 : ∀ x ∈ es, okT x = true ∧ ∀ xs, x = .list xs → xs.length < sizeLine := fun x hx => ho x (List.mem_cons_of_mem _ hx)
      have hm2 : ∀ c ∈ f2, c ∈ all := fun c hc => hm c (by rw [ef]; exact List.mem_append_right _ hc)
      rcases h1 with ⟨b, ws, xs, e1, rfl, rfl, h0, hb, hl⟩ | ⟨e1, rfl⟩
      · refine .inl ⟨b, ws, rfl, hm b (by rw [ef]; simp), hb, by rw [hl]; exact (ho e (by simp)).2 xs e1, fun u => rest_of s hall (h2.mono fun v d f hv hf => hv.mono (fun _ _ z => z) fun c hc => ?_) hm2 d2 ho2⟩
        rw [upd_ne]
        intro z
        subst z
        exact h3 _ (by simp) (hf _ hc)
      · exact .inr ⟨_, tyD_mem e, isIn_list e1, fun H' w => tyx_off s d1 (ho e (by simp)).1 e1 hall w, rest_of s hall h2 hm2 d2 ho2⟩
  | [], _ :: _, _, _, h, _, _, _ => h.elim
  | _ :: _, [], _, _, h, _, _, _ => h.elim
/-- σ, but for the loop's name -/
def offJ (j : Nat) (σ σ' : L2.St) : Prop := σ' = σ ∨ ∃ w, σ' = σ.set j (some w)
theorem offJ.set {j : Nat} {σ σ' : L2.St} (h : offJ j σ σ') (w : V) : offJ j σ (σ'.set j (some w)) := by
  rcases h with rfl | ⟨u, rfl⟩
  · exact .inr ⟨w, rfl⟩
  · exact .inr ⟨w, List.set_set ..⟩
def tMH (K : PySem.W.Frag) (i j : Nat) (tn : TS) : TS := fun Dd σ H => ∃ (l : Addr) (vs : List V) (all : List Addr), σ[i]? = some (some (.ref l)) ∧ j < σ.length ∧ H l = some (.lst vs) ∧ l ∉ all ∧ Rest K all H vs H ∧ ∀ σ' H', offJ j σ σ' → (∀ c, c ∉ all → H' c = H c) → tn Dd σ' H'
theorem m_het {i j : Nat} {x y : Str} {p1 p2 p3 p4 p5 p6 p7 p8 pi pt : Pos} {o1 o2 arg ty : Expr} {w : V} {tail : List Stmt} {tn : TS} (hij : i ≠ j) (hp : PassesOwn (model X.prog X.w) X.A X.env X.xe) (hc : X.calm = true) (hN : X.N.Nodup) (hj : X.N[j]? = some y) (hy : Loc X.env.scope y) (hx : PE X (.Name x p1) (tVar i))
    (hv : PE X (.Name y p2) (tVar j)) (hg : Gl X "isinstance") (hm : X.mg "isinstance" = none) (hty : PE X ty (tC (.ty "list"))) (h1 : PE X o1 (tVar j)) (h2 : PE X o2 (tVar j)) (ha : PE X arg (tC w)) (ht : PSs X tail tn)
    (he : starEach [.Name y p2, ty] X.env = (false, eval (.Name y p2) X.env) :: starEach [ty] X.env := by rfl) (he2 : starEach [ty] X.env = (false, eval ty X.env) :: starEach [] X.env := by rfl) (hpl : (backTo p4 (starEach [ty] X.env)).any (·.1) = false := by rfl)
    (htr : ∀ whole, isTrue (.Call (.Name "isinstance" p3) [.Name y p2, ty] [] p4) X.env whole = (do let v ← whole; standAt (Expr.Call (.Name "isinstance" p3) [.Name y p2, ty] [] p4).pos; holding [v] (truthy v)) := by intro _; rfl)
    (hbase : attributeBase o1 "append" X.env (eval o1 X.env) = eval o1 X.env := by rfl) (hfew : ((backTo p6 (starEach [arg] X.env)).all (fun x => !x.1) && (backToKw p6 (keywordEach [] X.env)).all (fun x => x.1.isSome)
      && decide (([arg] : List Expr).length + ([] : List Keyword).length + (if ([] : List Keyword).isEmpty then 0 else 1) < 30)) = true := by rfl)
    (hline : (p5.endLine == p6.line) = true := by rfl) (hsa : starEach [arg] X.env = (false, eval arg X.env) :: starEach [] X.env := by rfl) (hplain : (backTo p6 (starEach [] X.env)).any (·.1) = false := by rfl)
    (hsw : swapsWith (.Call (.Attribute o1 "append" p5) [arg] [] p6) none pi.line X.env = pure false := by rfl)
    (hbase2 : attributeBase o2 "reverse" X.env (eval o2 X.env) = eval o2 X.env := by rfl) (hline2 : (p7.endLine == p8.line) = true := by rfl) (hsw2 : swapsWith (.Call (.Attribute o2 "reverse" p7) [] [] p8) none pt.line X.env = pure false := by rfl)
    (hf : X.fn y = true ∨ X.env.scope.names.lookup y = some .local := by first | exact .inl rfl | exact .inr rfl | assumption)
    (hs : ∀ z, foldedSetIterable (.Name x p1) X.env z = pure z := by intro _; rfl) {pif pn : Pos} :
    PSs X (.For (.Name y pn) (.Name x p1) [.If (.Call (.Name "isinstance" p3) [.Name y p2, ty] [] p4) [.Expr (.Call (.Attribute o1 "append" p5) [arg] [] p6) pi, .Expr (.Call (.Attribute o2 "reverse" p7) [] [] p8) pt] [] pif] [] pos :: tail) (tMH X.K i j tn) := by
  have test := pt_val (pe_callB call_isi hg hm PyProof.Rows.boot_isinstance (pa_cons hv (pa_cons hty pa_nil he2) he) (by decide) (by decide) he hpl) htr
  have app := pe_bm PySem.F.plainAttrs_list PySem.F.slot_list_append PySem.F.type_list_append mt_append h1 (pa_cons ha pa_nil hsa) hbase hfew hline hsa hplain
  have rev := pe_bm0 PySem.F.plainAttrs_list PySem.F.slot_list_reverse PySem.F.type_list_reverse mt_reverse h2 hbase2 hline2
  refine pss_weak (pss_cons (ps_for hp hc (pi_list hx) (pg_name (i := j) hN hj hy hf) (pss_one (ps_if test (pss_cons (ps_expr app hsw) (pss_one (ps_expr rev hsw2))) pss_nil)) hs) ht) fun Dd σ H ⟨l, vs, all, e, jl, hl, nl, r, hq⟩ => ?_
  refine ⟨_, e, l, rfl, ⟨vs, .inl (.inl hl)⟩, ?_⟩
  refine ⟨fun k0 k σ2 H2 => k = vs.length - k0 ∧ k0 ≤ vs.length ∧ offJ j σ σ2 ∧ (∀ c, c ∉ all → H2 c = H c) ∧ Rest X.K all H (vs.drop k0) H2, ⟨vs.length, rfl, Nat.zero_le _, .inl rfl, fun _ _ => rfl, by rw [List.drop_zero]; exact r⟩, ?_⟩
  rintro k0 k σ2 H2 ⟨rfl, hk, oj, w2, r2⟩
  have hl2 : H2 l = some (.lst vs) := (w2 l nl).trans hl
  by_cases hlt : k0 < vs.length
  · refine .inr ⟨⟨vs, vs[k0], .inl (.inl hl2), List.getElem?_eq_getElem hlt⟩, fun σ' H' => offJ j σ σ' ∧ (∀ c, c ∉ all → H' c = H c) ∧ Rest X.K all H (vs.drop (k0 + 1)) H', fun σ' H' ⟨q1, q2, q3⟩ => ⟨vs.length - (k0 + 1), by omega, rfl, hlt, q1, q2, q3⟩, ?_⟩
    rintro v H3 ⟨rfl, hv2⟩
    have e2 := hv2 vs (.inl (.inl hl2))
    rw [List.getElem?_eq_getElem hlt] at e2
    cases e2
    rw [List.drop_eq_getElem_cons hlt] at r2
    show tIfS _ _ _ _ (σ2.set j (some vs[k0])) H3
    have ej : (σ2.set j (some vs[k0]))[j]? = some (some vs[k0]) := by
      refine List.getElem?_set_self ?_
      rcases oj with rfl | ⟨u, rfl⟩
      · exact jl
      · rw [List.length_set]; exact jl
    rcases r2 with ⟨b, ws, eb, mb, hb, hz, rn⟩ | ⟨t, ht, hl3, ty, rn⟩
    · rw [eb] at ej ⊢
      refine ⟨_, ej, .ref b, .ty "list", .type "list", _, _, rfl, .ty "list", .base (.lst hb), kit_ty (kc_list.is "list" (by decide)), ?_⟩
      refine ⟨_, rfl, ?_⟩
      rw [show isIn "list" "list" = true by decide]
      dsimp only
      rw [if_pos rfl]
      refine ⟨_, ej, .inl ⟨rfl, ws, .inl (.inl hb)⟩, b, ws, w, rfl, rfl, hb, hz, ?_⟩
      refine ⟨_, ej, .inl ⟨rfl, ws ++ [w], .inl (.inl upd_same)⟩, b, ws ++ [w], rfl, rfl, upd_same, ?_⟩
      have uu : L2.upd (L2.upd H3 b (.lst (ws ++ [w]))) b (.lst (ws ++ [w]).reverse) = L2.upd H3 b (.lst (ws ++ [w]).reverse) := by
        funext c
        by_cases z : c = b
        · subst z; rw [upd_same, upd_same]
        · rw [upd_ne z, upd_ne z, upd_ne z]
      refine ⟨oj.set _, fun c hc => ?_, ?_⟩
      · rw [uu, upd_ne fun z => by subst z; exact hc mb]
        exact w2 c hc
      · rw [uu]
        exact rn _
    · refine ⟨_, ej, vs[k0], .ty "list", .type t, _, _, rfl, .ty "list", ty H3 w2, kit_ty (kc_list.is t ht), ?_⟩
      refine ⟨_, rfl, ?_⟩
      rw [hl3]
      dsimp only
      rw [if_neg Bool.false_ne_true]
      exact ⟨oj.set _, w2, rn⟩
  · have ei : k0 = vs.length := by omega
    subst ei
    exact .inl ⟨⟨vs, .inl (.inl hl2), Nat.le_refl _⟩, hq σ2 H2 oj w2⟩
/-- a name gets such a list, is asked about, its lists are changed, it is left -/
def sNestH (i j : Nat) (ma : EM) (mq : QM) (mr : SM) : SM := fun E τ n => i < τ.length ∧ j < τ.length ∧ ma τ n fun d n1 => mq (τ.set i (some (.d d))) n1 (fun n2 => okHet d ∧ mr E ((τ.set i none).set j none) n2) E.rt
@[simp] theorem sNestH_ap {i j : Nat} {ma : EM} {mq : QM} {mr : SM} {E : En} {τ : Ev} {n : Nat} : sNestH i j ma mq mr E τ n ↔ i < τ.length ∧ j < τ.length ∧ ma τ n fun d n1 => mq (τ.set i (some (.d d))) n1 (fun n2 => okHet d ∧ mr E ((τ.set i none).set j none) n2) E.rt := Iff.rfl
theorem Rel.forget {A : Act} {τ : Ev} {n : Nat} {σ : L2.St} {H F : Hp} (j : Nat) (R : Rel A τ n σ H F) : Rel A (τ.set j none) n σ H F := by
  have no : ∀ {k : Nat} {s : Sl}, (τ.set j none)[k]? = some (some s) → τ[k]? = some (some s) := fun {k s} e => by
    by_cases z : k = j
    · subst z
      rw [List.getElem?_set_self (by
        have := (List.getElem?_eq_some_iff.mp e).1
        rwa [List.length_set] at this)] at e
      cases e
    · rwa [List.getElem?_set_ne (Ne.symm z)] at e
  exact ⟨R.ok, by rw [List.length_set]; exact R.len, R.adv, fun k s e => R.sl k s (no e), fun k l a s1 s2 hkl e1 o1 e2 o2 e3 e4 => R.dis k l a s1 s2 hkl (no e1) o1 (no e2) o2 e3 e4⟩
end
end TL
namespace TL
open PySem PySem.Spec PyProof.Rows L2
section
variable {X : Cx} {pos : Pos} {a b : Expr} {ma mb : EM} {kr : Kd}
theorem s_nestH {i j : Nat} {x : Str} {pos' : Pos} {tail : List Stmt} {mq : QM} {mr : SM} (hN : X.N.Nodup) (hi : X.N[i]? = some x) (hx : Loc X.env.scope x) (h : E2 X .het a ma) (ht : ∀ Wx : WX, Takes X Wx → PSs X tail (tQ X.K kr mq (tMH X.K i j (tS X.K kr Wx mr))))
    (hs : swapsWith a (some (.Name x pos')) pos.line X.env = pure false := by rfl) (hf : X.fn x = true ∨ X.env.scope.names.lookup x = some .local := by first | exact .inl rfl | exact .inr rfl | assumption) :
    S2 X kr (.Assign [.Name x pos'] a pos :: tail) (sNestH i j ma mq mr) := by
  refine ⟨fun Wx tk => pss_weak (pss_cons (ps_set hN hi hx h.pe hs hf) (ht Wx tk)) fun Dd σ H ⟨A, τ, n, F, E, eK, R, ⟨hb, hj, p⟩, e⟩ => tE_run eK R p fun d n1 v H1 F1 p1 a1 r1 => ?_⟩
  rw [← eK] at r1
  rw [R.len] at hb hj
  have R1 : Rel A (τ.set i (some (.d d))) n1 (σ.set i (some v)) H1 F1 := R.set1 (k := .het) i (by intro z; cases z) a1 r1
  refine ⟨A, _, n1, F1, _, _, eK, R1, p1, fun n2 H2 F2 ⟨oh, p2⟩ a2 => ?_, fun d2 n2 v2 H2 F2 p2 a2 r2 => ?_⟩
  · have g2 := r1.2.mono (a2.fro R1.same) (fun _ z => z) fun c _ z => keep_at a2 R1.box z
    obtain ⟨es, l, vs, fp, rfl, rfl, h0, hl, nl, fr, dp⟩ := g2
    obtain ⟨es', e1, ok⟩ := oh
    cases e1
    have R2 := R1.step a2
    have a12 := a1.trans a2
    have hall : ∀ c ∈ fp, ∃ ws, H2 c = some (.lst ws) := fun c hc => by
      have : ∀ {us : List V} {ds : List D} {g : List Addr}, FrA (HetI H H2) us ds g → ∀ c ∈ g, ∃ ws, H2 c = some (.lst ws) := by
        intro us
        induction us with
        | nil =>
          intro ds g z c hc
          cases ds with
          | nil => rw [show g = [] from z] at hc; cases hc
          | cons d ds => exact z.elim
        | cons u us ih =>
          intro ds g z c hc
          cases ds with
          | nil => exact z.elim
          | cons d ds =>
            obtain ⟨f1, f2, e, g1, g2, _⟩ := z
            rw [e] at hc
            rcases List.mem_append.mp hc with hc | hc
            · rcases g1 with ⟨b, ws, es, _, _, rfl, _, hb, _⟩ | ⟨_, rfl⟩
              · obtain rfl : c = b := by simpa using hc
                exact ⟨ws, hb⟩
              · cases hc
            · exact ih g2 c hc
      exact this fr c hc
    refine ⟨l, vs, fp, List.getElem?_set_self hb, by rw [List.length_set]; exact hj, hl, nl, rest_of R2.same hall fr (fun _ z => z) (by rw [← eK]; exact dp) ok, fun σ' H' oj w3 => ?_⟩
    have x3 : Adv A.bx n n2 H F H' F := by
      have kp : ∀ c o, H c = some o → H' c = H2 c := fun c o z => w3 c fun y => by
        rw [(hetA_at fr c y).1] at z
        cases z
      have sm3 : Same F H' := fun c o z => by
        have hz := R.same c o z
        have nb : ¬ Vol A.bx n c := fun y => by
          rw [(R.box.2 c y).2] at z
          cases z
        exact (kp c o hz).trans (a12.keep c o hz nb)
      refine ⟨fun c o z y => (kp c o z).trans (a12.keep c o z y), fun _ _ => rfl, ?_, ⟨?_, fun b z => ?_⟩, fun _ z => z, fun _ z => .inl z⟩
      · exact sm3
      · exact sm3
      · exact ⟨(kp b _ (R.box.2 b z).1).trans (a12.box.2 b z).1, (R.box.2 b z).2⟩
    have R3 := R.gone (v := .ref l) i x3
    rcases oj with rfl | ⟨u, rfl⟩
    · exact ⟨A, _, n2, F, E, eK, R3.forget j, p2, e⟩
    · exact ⟨A, _, n2, F, E, eK, R3.gone (v := u) j (Adv.refl R3.same R3.box), p2, e⟩
  · rw [← eK] at r2
    exact e.rt d2 n2 v2 H2 F2 p2 ((R.adv.trans a1).trans a2) ((r2.h0 fun c z => a1.none_back c z).h0 fun c z => R.h0some z)
end
end TL
set_option Elab.async false
set_option linter.all false
set_option maxRecDepth 100000
set_option maxHeartbeats 4000000
namespace TL
open PySem PySem.Spec PyProof.Rows L2
section
variable {τ : Ev} {n : Nat} {Q : D → Nat → Prop} {i j : Nat} {d : D}
@[simp] theorem mVar_ap : mVar i τ n Q ↔ ∃ x, τ[i]? = some (some (.d x)) ∧ Q x n := Iff.rfl
@[simp] theorem mVarO_ap : mVarO i τ n Q ↔ ∃ x, τ[i]? = some (some (.ow x)) ∧ Q (.list x) n := Iff.rfl
@[simp] theorem mC_ap : mC d τ n Q ↔ Q d n := Iff.rfl
@[simp] theorem m1_ap {f : Op1} {a : EM} : m1 f a τ n Q ↔ a τ n fun x n1 => f x fun d => Q d n1 := Iff.rfl
@[simp] theorem m2_ap {f : Op2} {a b : EM} : m2 f a b τ n Q ↔ a τ n fun x n1 => b τ n1 fun y n2 => f x y fun d => Q d n2 := Iff.rfl
@[simp] theorem mT_ap {a : EM} {R : Bool → Nat → Prop} : mT a τ n R ↔ a τ n fun d n' => ∃ b, d = .bool b ∧ R b n' := Iff.rfl
@[simp] theorem mAnd_ap {a b : EM} : mAnd a b τ n Q ↔ a τ n fun d n1 => ∃ c, d = .bool c ∧ if c = true then b τ n1 Q else Q (.bool false) n1 := Iff.rfl
@[simp] theorem mNot_ap {a : EM} : mNot a τ n Q ↔ a τ n fun d n1 => ∃ c, d = .bool c ∧ Q (.bool (!c)) n1 := Iff.rfl
@[simp] theorem mIf_ap {c : CM} {a b : EM} : mIf c a b τ n Q ↔ c τ n fun b' n1 => if b' = true then a τ n1 Q else b τ n1 Q := Iff.rfl
@[simp] theorem cAnd_ap {a b : CM} {R : Bool → Nat → Prop} : cAnd a b τ n R ↔ a τ n fun c n1 => if c = true then b τ n1 R else R false n1 := Iff.rfl
@[simp] theorem cOr_ap {a b : CM} {R : Bool → Nat → Prop} : cOr a b τ n R ↔ a τ n fun c n1 => if c = true then R true n1 else b τ n1 R := Iff.rfl
@[simp] theorem cNot_ap {a : CM} {R : Bool → Nat → Prop} : cNot a τ n R ↔ a τ n fun c n1 => R (!c) n1 := Iff.rfl
@[simp] theorem cYes_ap {R : Bool → Nat → Prop} : cYes τ n R ↔ R true n := Iff.rfl
@[simp] theorem aNil_ap {R : List D → Nat → Prop} : aNil τ n R ↔ R [] n := Iff.rfl
@[simp] theorem aCons_ap {m : EM} {r : DM} {R : List D → Nat → Prop} : aCons m r τ n R ↔ m τ n fun d n1 => r τ n1 fun ds n2 => R (d :: ds) n2 := Iff.rfl
@[simp] theorem mTup_ap {m : DM} : mTup m τ n Q ↔ m τ n fun ds n' => ds.length ≤ sizeLine ∧ Q (.tuple ds) n' := Iff.rfl
@[simp] theorem mLst_ap {m : DM} : mLst m τ n Q ↔ m τ n fun ds n' => ds.length ≤ sizeLine ∧ Q (.list ds) n' := Iff.rfl
@[simp] theorem kNil_ap {R : List Sl → Nat → Prop} : kNil τ n R ↔ R [] n := Iff.rfl
@[simp] theorem kCons_ap {m : EM} {r : AM} {R : List Sl → Nat → Prop} : kCons m r τ n R ↔ m τ n fun d n1 => r τ n1 fun ss n2 => R (.d d :: ss) n2 := Iff.rfl
@[simp] theorem kBox_ap {r : AM} {R : List Sl → Nat → Prop} : kBox i r τ n R ↔ τ[i]? = some (some .box) ∧ r τ n fun ss n2 => R (.box :: ss) n2 := Iff.rfl
@[simp] theorem mCall_ap {f : FM} {m : AM} : mCall f m τ n Q ↔ m τ n fun ss n1 => f ss n1 Q fun _ _ => False := Iff.rfl
@[simp] theorem oNone_ap {R : Option Int → Nat → Prop} : oNone τ n R ↔ R none n := Iff.rfl
@[simp] theorem oSome_ap {m : EM} {R : Option Int → Nat → Prop} : oSome m τ n R ↔ m τ n fun d n' => ∃ i, d = .int i ∧ R (some i) n' := Iff.rfl
@[simp] theorem mSl_ap {f} {a : EM} {lo hi : OM} : mSl f a lo hi τ n Q ↔ a τ n fun x n1 => lo τ n1 fun l n2 => hi τ n2 fun u n3 => f x l u fun d => Q d n3 := Iff.rfl
@[simp] theorem mLc_ap {mi : IM} {g : GM} {c : CM} {me : EM} {vs : List Nat} : mLc mi g c me vs τ n Q ↔ mi τ n fun items n1 => lcD g c me (wipeE τ vs) items [] n1 Q := Iff.rfl
@[simp] theorem iR1_ap {m : EM} {R : List D → Nat → Prop} : iR1 m τ n R ↔ m τ n fun d n' => ∃ j, d = .int j ∧ (-(2 ^ 62) ≤ j ∧ j < 2 ^ 62) ∧ R (rangeD 0 j.toNat) n' := Iff.rfl
@[simp] theorem iR2_ap {m m' : EM} {R : List D → Nat → Prop} : iR2 m m' τ n R ↔ m τ n fun d n1 => m' τ n1 fun d' n2 => ∃ i j, d = .int i ∧ d' = .int j ∧ (-(2 ^ 62) ≤ i ∧ i < 2 ^ 62 ∧ -(2 ^ 62) ≤ j ∧ j < 2 ^ 62) ∧ R (rangeD i (j - i).toNat) n2 := Iff.rfl
@[simp] theorem iIt_ap {m : EM} {R : List D → Nat → Prop} : iIt m τ n R ↔ m τ n fun d n' => dItems d fun xs => R xs n' := Iff.rfl
@[simp] theorem iEn_ap {m : EM} {R : List D → Nat → Prop} : iEn m τ n R ↔ m τ n fun d n' => dItems d fun xs => R (enumD 0 xs) n' := Iff.rfl
@[simp] theorem gN_ap {x : D} {R : Ev → Nat → Prop} : gN i x τ n R ↔ R (τ.set i (some (.d x))) n := Iff.rfl
theorem parts_tup {ds : List D} : parts (.tuple ds) = some ds := rfl
theorem parts_raw {x y : D} : parts (rawP x y) = some [x, y] := rfl
@[simp] theorem gT_ap {k : Nat} {g : GMs} {ds : List D} {R : Ev → Nat → Prop} : gT k g (.tuple ds) τ n R ↔ ds.length = k ∧ g ds τ n R := by simp [gT, parts_tup]
@[simp] theorem gT_raw {k : Nat} {g : GMs} {x y : D} {R : Ev → Nat → Prop} : gT k g (rawP x y) τ n R ↔ 2 = k ∧ g [x, y] τ n R := by simp [gT, parts_raw]
@[simp] theorem gsNil_ap {R : Ev → Nat → Prop} : gsNil [] τ n R ↔ R τ n := by simp [gsNil]
@[simp] theorem gsCons_ap {g : GM} {r : GMs} {x : D} {xs : List D} {R : Ev → Nat → Prop} : gsCons g r (x :: xs) τ n R ↔ g x τ n fun τ1 n1 => r xs τ1 n1 R := by
  constructor
  · rintro ⟨_, _, e, q⟩
    cases e
    exact q
  · exact fun q => ⟨_, _, rfl, q⟩
variable {E : En} {a b c : EM} {m m' : SM} {k k1 k2 k3 : Kd} {l : Nat}
@[simp] theorem sNext_ap : sNext E τ n ↔ E.nx τ n := Iff.rfl
@[simp] theorem sSeq_ap : sSeq m m' E τ n ↔ m { E with nx := fun τ' n' => m' E τ' n' } τ n := Iff.rfl
@[simp] theorem sFrz_ap : sFrz i m E τ n ↔ ∃ xs, τ[i]? = some (some (.ow xs)) ∧ m E (τ.set i (some (.d (.list xs)))) n := Iff.rfl
@[simp] theorem sRet_ap : sRet a E τ n ↔ a τ n E.rt := Iff.rfl
@[simp] theorem sRetO_ap : sRetO i E τ n ↔ ∃ xs, τ[i]? = some (some (.ow xs)) ∧ E.rt (.list xs) n := Iff.rfl
@[simp] theorem sIf_ap {c : CM} : sIf c m m' E τ n ↔ c τ n fun b n1 => if b = true then m E τ n1 else m' E τ n1 := Iff.rfl
@[simp] theorem sAsg_ap {g : GM} : sAsg a g E τ n ↔ a τ n fun d n1 => g d τ n1 E.nx := Iff.rfl
@[simp] theorem sSet_ap : sSet k i a E τ n ↔ a τ n fun d n1 => E.nx (τ.set i (some (slOf k d))) n1 := Iff.rfl
@[simp] theorem sPar_ap : sPar k1 k2 i j a b E τ n ↔ a τ n fun x n1 => b τ n1 fun y n2 => E.nx ((τ.set i (some (slOf k1 x))).set j (some (slOf k2 y))) n2 := Iff.rfl
@[simp] theorem sPar3_ap : sPar3 k1 k2 k3 i j l a b c E τ n ↔ a τ n fun x n1 => b τ n1 fun y n2 => c τ n2 fun z n3 => E.nx (((τ.set i (some (slOf k1 x))).set j (some (slOf k2 y))).set l (some (slOf k3 z))) n3 := Iff.rfl
@[simp] theorem sAug_ap {f : Op2} : sAug f i a E τ n ↔ ∃ x, τ[i]? = some (some (.d x)) ∧ a τ n fun y n1 => f x y fun z => E.nx (τ.set i (some (.d z))) n1 := Iff.rfl
@[simp] theorem sFor_ap {mi : IM} {g : GM} : sFor mi g m E τ n ↔ mi τ n fun items n1 => forD items g m E τ n1 := Iff.rfl
@[simp] theorem sX_ap {x : XM} : sX x E τ n ↔ x τ n fun _ τ' n' => E.nx τ' n' := Iff.rfl
@[simp] theorem xMt_ap {f : MOp} {m : DM} {R : D → Ev → Nat → Prop} : xMt f i m τ n R ↔ ∃ xs, τ[i]? = some (some (.ow xs)) ∧ m τ n fun ds n1 => f xs ds fun d ys => R d (τ.set i (some (.ow ys))) n1 := Iff.rfl
@[simp] theorem sSetIx_ap : sSetIx j a b E τ n ↔ ∃ xs, τ[j]? = some (some (.ow xs)) ∧ b τ n fun d n1 => a τ n1 fun y n2 => ∃ i k, y = .int i ∧ ixN xs.length i = some k ∧ E.nx (τ.set j (some (.ow (xs.set k d)))) n2 := Iff.rfl
@[simp] theorem bodyM_ap {nN : Nat} {b : (XE → Nat → Prop) → SM} {as : List Sl} {P : D → Nat → Prop} {PX : XE → Nat → Prop} : bodyM nN b as n P PX ↔ b PX { nx := fun _ n' => P .none n', rt := P } (as.map some ++ List.replicate (nN - as.length) none) n := Iff.rfl
@[simp] theorem slOf_fz : slOf .fz d = .d d := rfl
@[simp] theorem slOf_nw {xs : List D} : slOf .nw (.list xs) = .ow xs := rfl
@[simp] theorem dI2_ap {f : Int → Int → D} {x y : Int} {P : D → Prop} : dI2 f (.int x) (.int y) P ↔ P (f x y) := ⟨fun ⟨_, _, e1, e2, p⟩ => by cases e1; cases e2; exact p, fun p => ⟨_, _, rfl, rfl, p⟩⟩
@[simp] theorem dI2c_ap {C : Int → Int → Prop} {f : Int → Int → D} {x y : Int} {P : D → Prop} : dI2c C f (.int x) (.int y) P ↔ C x y ∧ P (f x y) := ⟨fun ⟨_, _, e1, e2, c, p⟩ => by cases e1; cases e2; exact ⟨c, p⟩, fun p => ⟨_, _, rfl, rfl, p.1, p.2⟩⟩
@[simp] theorem dItems_L {xs : List D} {P : List D → Prop} : dItems (.list xs) P ↔ P xs := by simp [dItems]
@[simp] theorem dItems_T {xs : List D} {P : List D → Prop} : dItems (.tuple xs) P ↔ P xs := by simp [dItems]
@[simp] theorem dLen_L {xs : List D} {P : D → Prop} : dLen (.list xs) P ↔ P (.int xs.length) := by simp [dLen]
@[simp] theorem dLen_T {xs : List D} {P : D → Prop} : dLen (.tuple xs) P ↔ P (.int xs.length) := by simp [dLen]
@[simp] theorem dTuple_L {xs : List D} {P : D → Prop} : dTuple (.list xs) P ↔ P (.tuple xs) := by simp [dTuple]
@[simp] theorem dTuple_T {xs : List D} {P : D → Prop} : dTuple (.tuple xs) P ↔ P (.tuple xs) := by simp [dTuple]
@[simp] theorem dList_L {xs : List D} {P : D → Prop} : dList (.list xs) P ↔ P (.list xs) := by simp [dList]
@[simp] theorem dList_T {xs : List D} {P : D → Prop} : dList (.tuple xs) P ↔ P (.list xs) := by simp [dList]
@[simp] theorem dIx_L {xs : List D} {i : Int} {P : D → Prop} : dIx (.list xs) (.int i) P ↔ ∃ d, atI xs i = some d ∧ P d := by simp [dIx]
@[simp] theorem dIx_T {xs : List D} {i : Int} {P : D → Prop} : dIx (.tuple xs) (.int i) P ↔ ∃ d, atI xs i = some d ∧ P d := by simp [dIx]
@[simp] theorem dCatT_T {xs ys : List D} {P : D → Prop} : dCatT (.tuple xs) (.tuple ys) P ↔ xs.length + ys.length ≤ sizeLine ∧ P (.tuple (xs ++ ys)) := by simp [dCatT]
@[simp] theorem dSlL_L {xs : List D} {lo hi : Option Int} {P : D → Prop} : dSlL (.list xs) lo hi P ↔ P (.list (cutG xs lo hi)) := by simp [dSlL]
@[simp] theorem dSlT_T {xs : List D} {lo hi : Option Int} {P : D → Prop} : dSlT (.tuple xs) lo hi P ↔ P (.tuple (cutG xs lo hi)) := by simp [dSlT]
@[simp] theorem dSl_T {xs : List D} {lo hi : Option Int} {P : D → Prop} : dSl (.tuple xs) lo hi P ↔ P (.tuple (cutG xs lo hi)) := by simp [dSl, dSlL, dSlT]
@[simp] theorem dSl_L {xs : List D} {lo hi : Option Int} {P : D → Prop} : dSl (.list xs) lo hi P ↔ P (.list (cutG xs lo hi)) := by simp [dSl, dSlL, dSlT]
@[simp] theorem dRg_ap {k : List D → D} {i : Int} {P : D → Prop} : dRg k (.int i) P ↔ (-(2 ^ 62) ≤ i ∧ i ≤ 2 ^ 24) ∧ P (k (rangeD 0 i.toNat)) := by simp [dRg]
@[simp] theorem okT_n : okT .none = true := rfl
@[simp] theorem okT_b {b : Bool} : okT (.bool b) = true := rfl
@[simp] theorem okT_i {b : Int} : okT (.int b) = true := rfl
@[simp] theorem okT_s {b : Str} : okT (.str b) = true := rfl
@[simp] theorem okT_l {b : List D} : okT (.list b) = true := rfl
@[simp] theorem okT_t {b : List D} : okT (.tuple b) = true := rfl
@[simp] theorem dIs_ap {c : String} {x : D} {P : D → Prop} : dIs c x P ↔ okT x = true ∧ P (.bool (isIn (tyD x) c)) := Iff.rfl
@[simp] theorem dEq_ap {x y : D} {P : D → Prop} : dEq x y P ↔ (SeqAt.shaped x = true ∧ SeqAt.shaped y = true) ∧ P (.bool (PyData.eqv x y)) := Iff.rfl
@[simp] theorem dNe_ap {x y : D} {P : D → Prop} : dNe x y P ↔ (SeqAt.shaped x = true ∧ SeqAt.shaped y = true) ∧ P (.bool (!PyData.eqv x y)) := Iff.rfl
@[simp] theorem dAbs_ap {x : Int} {P : D → Prop} : dAbs (.int x) P ↔ P (.int (if x < 0 then -x else x)) := by simp [dAbs]
@[simp] theorem dNeg_ap {x : Int} {P : D → Prop} : dNeg (.int x) P ↔ P (.int (-x)) := by simp [dNeg]
@[simp] theorem dInt_I {x : Int} {P : D → Prop} : dInt (.int x) P ↔ P (.int x) := by simp [dInt]
@[simp] theorem dInt_B {x : Bool} {P : D → Prop} : dInt (.bool x) P ↔ P (.int (if x then 1 else 0)) := by simp [dInt]
@[simp] theorem dMax2_ap {x y : Int} {P : D → Prop} : dMax2 (.int x) (.int y) P ↔ P (.int (if y > x then y else x)) := by simp [dMax2]
@[simp] theorem oApp_ap {xs : List D} {d : D} {P : D → List D → Prop} : oApp xs [d] P ↔ xs.length < sizeLine ∧ P .none (xs ++ [d]) := by simp [oApp]
@[simp] theorem eqv_int {i j : Int} : PyData.eqv (.int i) (.int j) = decide (i = j) := by
  rw [PyData.eqv]
  by_cases h : i = j <;> simp [h]
@[simp] theorem eqv_bool {i j : Bool} : PyData.eqv (.bool i) (.bool j) = (i == j) := by rw [PyData.eqv]
@[simp] theorem eqv_str {i j : Str} : PyData.eqv (.str i) (.str j) = (i == j) := by rw [PyData.eqv]
@[simp] theorem shaped_int {i : Int} : SeqAt.shaped (.int i) = true := rfl
@[simp] theorem shaped_bool {i : Bool} : SeqAt.shaped (.bool i) = true := rfl
@[simp] theorem shaped_none : SeqAt.shaped .none = true := rfl
@[simp] theorem take_ap {many : Int} {P : D → Nat → Prop} {PX : XE → Nat → Prop} : fTake [.box, .d (.int many)] n P PX ↔ (0 < many ∧ many < 2 ^ 62) ∧ n < cap ∧ ∀ r : Int, 0 ≤ r → r < many → P (.int r) (n + 1) := by
  constructor
  · rintro ⟨m, e, h1, h2, h3⟩
    cases e
    exact ⟨h1, h2, h3⟩
  · rintro ⟨h1, h2, h3⟩
    exact ⟨many, rfl, h1, h2, h3⟩
end
end TL
set_option Elab.async false
set_option linter.all false
set_option maxRecDepth 100000
set_option maxHeartbeats 4000000
namespace TL
open PySem PySem.Spec PyProof.Rows L2
def top (i : Nat) : Stmt := PySem.Challenge.pw_hayherd_k19_asked_again_and_shared.main.body.getD i (.Pass ⟨0, 0, 0, 0⟩)

section
variable {P : Program} {w : World} {K : PySem.W.Frag} {mg : Str → Option Value} {base : Heap}


def b_is_number : SM :=
  (sRet (mAnd (m1 (dIs "int") (mVar 0)) (mNot (m1 (dIs "bool") (mVar 0)))))
theorem sc_is_number : FnScope ["thing"] ["thing"] (defScope (top 1)) := ⟨rfl, rfl, rfl, by decide +kernel, rfl, by decide +kernel, by decide +kernel⟩
theorem raw_is_number {k : Nat} {fa : Addr} {fd : FuncData} (F : FunD K "is_number" "is_number" (defArgs (top 1)) (defBody (top 1)) (defScope (top 1)) [] [] fa fd) (hm : mg "is_number" = some (.ref fa)) (Z : Fz mg)  :
    Cal P w K mg base "is_number" (defArgs (top 1)) ["thing"] (k + 1) .fz (bodyM 1 fun _ => b_is_number ) :=
  have nd : (["thing"] : List Str).Nodup := sc_is_number.nd
  Cal.mk2 F (fn_ok F sc_is_number rfl (.inl rfl) (fun cdv A outer s H E hr => by
    conv => arg 3; whnf
    exact (s_one (p_ret (e_and (e_isi kc_int (by rfl) Z.isinstance (E2.bw (e_var (pv 0))) (pe_bltn (v := .ty "int") (by rfl) Z.int (by decide +kernel) rfl)) (e_one (e_not (e_isi kc_bool (by rfl) Z.isinstance (E2.bw (e_var (pv 0))) (pe_bltn (v := .ty "bool") (by rfl) Z.bool (by decide +kernel) rfl)))))))) (fun z => nomatch z)) hm (fun _ _ _ _ _ _ us hl => match us, hl with | [_], _ => rfl)

def b_is_beast (f_is_number : FM) : SM :=
  (sRet (mAnd (m1 (dIs "tuple") (mVar 0)) (mAnd (m2 dEq (m1 dLen (mVar 0)) (mC (.int 2))) (mAnd (m1 dAll (mLc (iIt (mVar 0)) (gN 1) cYes (mCal 1 f_is_number (kCons (mVar 1) kNil)) [1])) (m2 dGe (m2 dIx (mVar 0) (mC (.int 1))) (mC (.int 0)))))))
theorem sc_is_beast : FnScope ["thing", "part"] ["thing"] (defScope (top 2)) := ⟨rfl, rfl, rfl, by decide +kernel, rfl, by decide +kernel, by decide +kernel⟩
theorem raw_is_beast {k : Nat} {fa : Addr} {fd : FuncData} {f_is_number : FM} (F : FunD K "is_beast" "is_beast" (defArgs (top 2)) (defBody (top 2)) (defScope (top 2)) [] [] fa fd) (hm : mg "is_beast" = some (.ref fa)) (Z : Fz mg) (C_is_number : Cal P w K mg base "is_number" (defArgs (top 1)) ["thing"] k .fz f_is_number) :
    Cal P w K mg base "is_beast" (defArgs (top 2)) ["thing"] (k + 1) .fz (bodyM 2 fun _ => b_is_beast f_is_number) :=
  have nd : (["thing", "part"] : List Str).Nodup := sc_is_beast.nd
  Cal.mk2 F (fn_ok F sc_is_beast rfl (.inl rfl) (fun cdv A outer s H E hr => by
    conv => arg 3; whnf
    exact (s_one (p_ret (e_and (e_isi kc_tuple (by rfl) Z.isinstance (E2.bw (e_var (pv 0))) (pe_bltn (v := .ty "tuple") (by rfl) Z.tuple (by decide +kernel) rfl)) (e_and (e_eq hr (E2.bw (e_len (by rfl) Z.len (E2.bw (e_var (pv 0))))) (E2.bw e_int)) (e_and (e_all rfl (E2.bw (e_lc (own := [("part", 1)]) rfl nd (j_seq (E2.bw (e_var (pv 0)))) (blkOk_by rfl) (fun _ _ _ _ _ => (g_name (i := 1) (pg_name (i := 1) nd rfl (by first | exact Or.inl rfl | exact Or.inr rfl)))) (fun _ _ _ _ _ => c_nil) (fun _ _ _ _ _ => (e_cal C_is_number hr (by rfl) (a_cons (e_var (pv 1)) a_nil))))) (by rfl) Z.all) (e_one (e_ge (E2.bw (e_ix (E2.bw (e_var (pv 0))) (E2.bw e_int))) (E2.bw e_int))))))))) (fun z => nomatch z)) hm (fun _ _ _ _ _ _ us hl => match us, hl with | [_], _ => rfl)

def b_is_row (f_is_beast : FM) : SM :=
  (sRet (mAnd (m1 (dIs "tuple") (mVar 0)) (mAnd (m2 dGt (m1 dLen (mVar 0)) (mC (.int 0))) (m1 dAll (mLc (iIt (mVar 0)) (gN 1) cYes (mCal 1 f_is_beast (kCons (mVar 1) kNil)) [1])))))
theorem sc_is_row : FnScope ["thing", "part"] ["thing"] (defScope (top 3)) := ⟨rfl, rfl, rfl, by decide +kernel, rfl, by decide +kernel, by decide +kernel⟩
theorem raw_is_row {k : Nat} {fa : Addr} {fd : FuncData} {f_is_beast : FM} (F : FunD K "is_row" "is_row" (defArgs (top 3)) (defBody (top 3)) (defScope (top 3)) [] [] fa fd) (hm : mg "is_row" = some (.ref fa)) (Z : Fz mg) (C_is_beast : Cal P w K mg base "is_beast" (defArgs (top 2)) ["thing"] k .fz f_is_beast) :
    Cal P w K mg base "is_row" (defArgs (top 3)) ["thing"] (k + 1) .fz (bodyM 2 fun _ => b_is_row f_is_beast) :=
  have nd : (["thing", "part"] : List Str).Nodup := sc_is_row.nd
  Cal.mk2 F (fn_ok F sc_is_row rfl (.inl rfl) (fun cdv A outer s H E hr => by
    conv => arg 3; whnf
    exact (s_one (p_ret (e_and (e_isi kc_tuple (by rfl) Z.isinstance (E2.bw (e_var (pv 0))) (pe_bltn (v := .ty "tuple") (by rfl) Z.tuple (by decide +kernel) rfl)) (e_and (e_gt (E2.bw (e_len (by rfl) Z.len (E2.bw (e_var (pv 0))))) (E2.bw e_int)) (e_one (e_all rfl (E2.bw (e_lc (own := [("part", 1)]) rfl nd (j_seq (E2.bw (e_var (pv 0)))) (blkOk_by rfl) (fun _ _ _ _ _ => (g_name (i := 1) (pg_name (i := 1) nd rfl (by first | exact Or.inl rfl | exact Or.inr rfl)))) (fun _ _ _ _ _ => c_nil) (fun _ _ _ _ _ => (e_cal C_is_beast hr (by rfl) (a_cons (e_var (pv 1)) a_nil))))) (by rfl) Z.all))))))) (fun z => nomatch z)) hm (fun _ _ _ _ _ _ us hl => match us, hl with | [_], _ => rfl)

def b_lets_pass : SM :=
  (sRet (m2 dGt (m2 dSub (m2 dIx (mVar 1) (mC (.int 0))) (m2 dIx (mVar 0) (mC (.int 1)))) (m2 dIx (mVar 0) (mC (.int 0)))))
theorem sc_lets_pass : FnScope ["ahead", "behind"] ["ahead", "behind"] (defScope (top 4)) := ⟨rfl, rfl, rfl, by decide +kernel, rfl, by decide +kernel, by decide +kernel⟩
theorem raw_lets_pass {k : Nat} {fa : Addr} {fd : FuncData} (F : FunD K "lets_pass" "lets_pass" (defArgs (top 4)) (defBody (top 4)) (defScope (top 4)) [] [] fa fd) (hm : mg "lets_pass" = some (.ref fa)) (Z : Fz mg)  :
    Cal P w K mg base "lets_pass" (defArgs (top 4)) ["ahead", "behind"] (k + 1) .fz (bodyM 2 fun _ => b_lets_pass ) :=
  have nd : (["ahead", "behind"] : List Str).Nodup := sc_lets_pass.nd
  Cal.mk2 F (fn_ok F sc_lets_pass rfl (.inl rfl) (fun cdv A outer s H E hr => by
    conv => arg 3; whnf
    exact (s_one (p_ret (e_gt (E2.bw (e_sub (E2.bw (e_ix (E2.bw (e_var (pv 1))) (E2.bw e_int))) (E2.bw (e_ix (E2.bw (e_var (pv 0))) (E2.bw e_int))))) (E2.bw (e_ix (E2.bw (e_var (pv 0))) (E2.bw e_int))))))) (fun z => nomatch z)) hm (fun _ _ _ _ _ _ us hl => match us, hl with | [_, _], _ => rfl)

def b_lets_fall : SM :=
  (sRet (m2 dGt (m2 dIx (mVar 0) (mC (.int 0))) (m2 dIx (mVar 1) (mC (.int 0)))))
theorem sc_lets_fall : FnScope ["ahead", "behind"] ["ahead", "behind"] (defScope (top 5)) := ⟨rfl, rfl, rfl, by decide +kernel, rfl, by decide +kernel, by decide +kernel⟩
theorem raw_lets_fall {k : Nat} {fa : Addr} {fd : FuncData} (F : FunD K "lets_fall" "lets_fall" (defArgs (top 5)) (defBody (top 5)) (defScope (top 5)) [] [] fa fd) (hm : mg "lets_fall" = some (.ref fa)) (Z : Fz mg)  :
    Cal P w K mg base "lets_fall" (defArgs (top 5)) ["ahead", "behind"] (k + 1) .fz (bodyM 2 fun _ => b_lets_fall ) :=
  have nd : (["ahead", "behind"] : List Str).Nodup := sc_lets_fall.nd
  Cal.mk2 F (fn_ok F sc_lets_fall rfl (.inl rfl) (fun cdv A outer s H E hr => by
    conv => arg 3; whnf
    exact (s_one (p_ret (e_gt (E2.bw (e_ix (E2.bw (e_var (pv 0))) (E2.bw e_int))) (E2.bw (e_ix (E2.bw (e_var (pv 1))) (E2.bw e_int))))))) (fun z => nomatch z)) hm (fun _ _ _ _ _ _ us hl => match us, hl with | [_, _], _ => rfl)

def b_may_pass (f_lets_pass : FM) : SM :=
  (sRet (mLc (iR2 (mC (.int 1)) (m1 dLen (mVar 0))) (gN 1) (mT (mCal 2 f_lets_pass (kCons (m2 dIx (mVar 0) (m2 dSub (mVar 1) (mC (.int 1)))) (kCons (m2 dIx (mVar 0) (mVar 1)) kNil)))) (mVar 1) [1]))
theorem sc_may_pass : FnScope ["row", "place"] ["row"] (defScope (top 6)) := ⟨rfl, rfl, rfl, by decide +kernel, rfl, by decide +kernel, by decide +kernel⟩
theorem raw_may_pass {k : Nat} {fa : Addr} {fd : FuncData} {f_lets_pass : FM} (F : FunD K "may_pass" "may_pass" (defArgs (top 6)) (defBody (top 6)) (defScope (top 6)) [] [] fa fd) (hm : mg "may_pass" = some (.ref fa)) (Z : Fz mg) (C_lets_pass : Cal P w K mg base "lets_pass" (defArgs (top 4)) ["ahead", "behind"] k .fz f_lets_pass) :
    Cal P w K mg base "may_pass" (defArgs (top 6)) ["row"] (k + 1) .nw (bodyM 2 fun _ => b_may_pass f_lets_pass) :=
  have nd : (["row", "place"] : List Str).Nodup := sc_may_pass.nd
  Cal.mk2 F (fn_ok F sc_may_pass rfl (.inr rfl) (fun cdv A outer s H E hr => by
    conv => arg 3; whnf
    exact (s_one (p_ret (e_lc (own := [("place", 1)]) rfl nd (I2.j (i_range2 (by rfl) Z.range (E2.bw e_int) (E2.bw (e_len (by rfl) Z.len (E2.bw (e_var (pv 0))))))) (blkOk_by rfl) (fun _ _ _ _ _ => (g_name (i := 1) (pg_name (i := 1) nd rfl (by first | exact Or.inl rfl | exact Or.inr rfl)))) (fun _ _ _ _ _ => (c_one (t_val (e_cal C_lets_pass hr (by rfl) (a_cons (e_ix (E2.bw (e_var (pv 0))) (E2.bw (e_sub (E2.bw (e_var (pv 1))) (E2.bw e_int)))) (a_cons (e_ix (E2.bw (e_var (pv 0))) (E2.bw (e_var (pv 1)))) a_nil)))))) (fun _ _ _ _ _ => (e_var (pv 1))))))) (fun _ _ _ _ h => h)) hm (fun _ _ _ _ _ _ us hl => match us, hl with | [_], _ => rfl)

def b_may_fall (f_lets_fall : FM) : SM :=
  (sRet (mLc (iR1 (m2 dSub (m1 dLen (mVar 0)) (mC (.int 1)))) (gN 1) (mT (mCal 2 f_lets_fall (kCons (m2 dIx (mVar 0) (mVar 1)) (kCons (m2 dIx (mVar 0) (m2 dAdd (mVar 1) (mC (.int 1)))) kNil)))) (mVar 1) [1]))
theorem sc_may_fall : FnScope ["row", "place"] ["row"] (defScope (top 7)) := ⟨rfl, rfl, rfl, by decide +kernel, rfl, by decide +kernel, by decide +kernel⟩
theorem raw_may_fall {k : Nat} {fa : Addr} {fd : FuncData} {f_lets_fall : FM} (F : FunD K "may_fall" "may_fall" (defArgs (top 7)) (defBody (top 7)) (defScope (top 7)) [] [] fa fd) (hm : mg "may_fall" = some (.ref fa)) (Z : Fz mg) (C_lets_fall : Cal P w K mg base "lets_fall" (defArgs (top 5)) ["ahead", "behind"] k .fz f_lets_fall) :
    Cal P w K mg base "may_fall" (defArgs (top 7)) ["row"] (k + 1) .nw (bodyM 2 fun _ => b_may_fall f_lets_fall) :=
  have nd : (["row", "place"] : List Str).Nodup := sc_may_fall.nd
  Cal.mk2 F (fn_ok F sc_may_fall rfl (.inr rfl) (fun cdv A outer s H E hr => by
    conv => arg 3; whnf
    exact (s_one (p_ret (e_lc (own := [("place", 1)]) rfl nd (I2.j (i_range1 (by rfl) Z.range (E2.bw (e_sub (E2.bw (e_len (by rfl) Z.len (E2.bw (e_var (pv 0))))) (E2.bw e_int))))) (blkOk_by rfl) (fun _ _ _ _ _ => (g_name (i := 1) (pg_name (i := 1) nd rfl (by first | exact Or.inl rfl | exact Or.inr rfl)))) (fun _ _ _ _ _ => (c_one (t_val (e_cal C_lets_fall hr (by rfl) (a_cons (e_ix (E2.bw (e_var (pv 0))) (E2.bw (e_var (pv 1)))) (a_cons (e_ix (E2.bw (e_var (pv 0))) (E2.bw (e_add (E2.bw (e_var (pv 1))) (E2.bw e_int)))) a_nil)))))) (fun _ _ _ _ _ => (e_var (pv 1))))))) (fun _ _ _ _ h => h)) hm (fun _ _ _ _ _ _ us hl => match us, hl with | [_], _ => rfl)

def b_is_order (f_is_number : FM) : SM :=
  (sSeq (sIf (cOr (cNot (mT (m1 (dIs "tuple") (mVar 1)))) (cNot (mT (m1 dAll (mLc (iIt (mVar 1)) (gN 2) cYes (mCal 1 f_is_number (kCons (mVar 2) kNil)) [2]))))) (sRet (mC (.bool false))) sNext) (sRet (m2 dEq (m1 dSort (mVar 1)) (m1 (dRg .list) (m1 dLen (mVar 0))))))
theorem sc_is_order : FnScope ["row", "thing", "part"] ["row", "thing"] (defScope (top 8)) := ⟨rfl, rfl, rfl, by decide +kernel, rfl, by decide +kernel, by decide +kernel⟩
theorem raw_is_order {k : Nat} {fa : Addr} {fd : FuncData} {f_is_number : FM} (F : FunD K "is_order" "is_order" (defArgs (top 8)) (defBody (top 8)) (defScope (top 8)) [] [] fa fd) (hm : mg "is_order" = some (.ref fa)) (Z : Fz mg) (C_is_number : Cal P w K mg base "is_number" (defArgs (top 1)) ["thing"] k .fz f_is_number) :
    Cal P w K mg base "is_order" (defArgs (top 8)) ["row", "thing"] (k + 1) .fz (bodyM 3 fun _ => b_is_order f_is_number) :=
  have nd : (["row", "thing", "part"] : List Str).Nodup := sc_is_order.nd
  Cal.mk2 F (fn_ok F sc_is_order rfl (.inl rfl) (fun cdv A outer s H E hr => by
    conv => arg 3; whnf
    exact (s_cons (p_if (W2.t (w_or (t_not (t_val (e_isi kc_tuple (by rfl) Z.isinstance (E2.bw (e_var (pv 1))) (pe_bltn (v := .ty "tuple") (by rfl) Z.tuple (by decide +kernel) rfl)))) (w_or1 (t_not (t_val (e_all rfl (E2.bw (e_lc (own := [("part", 2)]) rfl nd (j_seq (E2.bw (e_var (pv 1)))) (blkOk_by rfl) (fun _ _ _ _ _ => (g_name (i := 2) (pg_name (i := 2) nd rfl (by first | exact Or.inl rfl | exact Or.inr rfl)))) (fun _ _ _ _ _ => c_nil) (fun _ _ _ _ _ => (e_cal C_is_number hr (by rfl) (a_cons (e_var (pv 2)) a_nil))))) (by rfl) Z.all)))))) (s_one (p_ret e_bl)) s_nil) (s_one (p_ret (e_eq hr (E2.bw (e_sort (E2.bw (e_var (pv 1))) (by rfl) Z.sorted)) (E2.bw (e_listRg rfl (by rfl) Z.list (by rfl) Z.range (E2.bw (e_len (by rfl) Z.len (E2.bw (e_var (pv 0)))))))))))) (fun z => nomatch z)) hm (fun _ _ _ _ _ _ us hl => match us, hl with | [_, _], _ => rfl)

def b_last (f_lets_pass : FM) : SM :=
  (sSeq (sPar .nw .nw 1 2 (mLst aNil) (mLst aNil)) (sSeq (sFor (iEn (mVar 0)) (gT 2 (gsCons (gN 3) (gsCons (gT 2 (gsCons (gN 4) (gsCons (gN 5) gsNil))) gsNil))) (sSeq (sSet .fz 6 (m1 dLen (mVarO 1))) (sSeq (sWh (cAnd (mT (m2 dGt (mVar 6) (mC (.int 0)))) (mT (mCal 2 f_lets_pass (kCons (m2 dIx (mVarO 1) (m2 dSub (mVar 6) (mC (.int 1)))) (kCons (mTup (aCons (mVar 4) (aCons (mVar 5) aNil))) kNil))))) (sSeq (sAug dSub 6 (mC (.int 1))) (sAug dSub 4 (m2 dIx (m2 dIx (mVarO 1) (mVar 6)) (mC (.int 1)))))) (sSeq (sX (xMt oIns 1 (aCons (mVar 6) (aCons (mTup (aCons (mVar 4) (aCons (mVar 5) aNil))) aNil)))) (sX (xMt oIns 2 (aCons (mVar 6) (aCons (mVar 3) aNil)))))))) (sRet (mTup (aCons (m1 dTuple (mVarO 1)) (aCons (m1 dTuple (mVarO 2)) aNil))))))
theorem sc_last : FnScope ["row", "here", "order", "place", "strength", "toll", "at"] ["row"] (defScope (top 10)) := ⟨rfl, rfl, rfl, by decide +kernel, rfl, by decide +kernel, by decide +kernel⟩
theorem raw_last {k : Nat} {fa : Addr} {fd : FuncData} {f_lets_pass : FM} (F : FunD K "last" "last" (defArgs (top 10)) (defBody (top 10)) (defScope (top 10)) [] [] fa fd) (hm : mg "last" = some (.ref fa)) (Z : Fz mg) (C_lets_pass : Cal P w K mg base "lets_pass" (defArgs (top 4)) ["ahead", "behind"] k .fz f_lets_pass) :
    Cal P w K mg base "last" (defArgs (top 10)) ["row"] (k + 1) .fz (bodyM 7 fun _ => b_last f_lets_pass) :=
  have nd : (["row", "here", "order", "place", "strength", "toll", "at"] : List Str).Nodup := sc_last.nd
  Cal.mk2 F (fn_ok F sc_last rfl (.inl rfl) (fun cdv A outer s H E hr => by
    conv => arg 3; whnf
    exact (s_cons (p_par (k1 := .nw) (k2 := .nw) (i := 1) (j := 2) (fun z => nomatch z) (fun z => nomatch z) rfl nd rfl rfl (by decide) rfl rfl (e_lst d_nil) (e_lst d_nil)) (s_cons (p_for PassesOwn.never rfl (i_enum (by rfl) Z.enumerate (e_var (pv 0))) (g_tup rfl (gs_cons (g_name (i := 3) (pg_name (i := 3) nd rfl (by first | exact Or.inl rfl | exact Or.inr rfl))) (gs_cons (g_tup rfl (gs_cons (g_name (i := 4) (pg_name (i := 4) nd rfl (by first | exact Or.inl rfl | exact Or.inr rfl))) (gs_cons (g_name (i := 5) (pg_name (i := 5) nd rfl (by first | exact Or.inl rfl | exact Or.inr rfl))) gs_nil))) gs_nil))) (s_cons (p_set (k := .fz) (i := 6) (fun z => nomatch z) nd rfl (by first | exact Or.inl rfl | exact Or.inr rfl) (e_len (by rfl) Z.len (e_varO (pv 1)))) (s_cons (p_while PassesOwn.never (W2.t (w_and (t_gt (E2.bw (e_var (pv 6))) (E2.bw e_int)) (w_and1 (t_val (e_cal C_lets_pass hr (by rfl) (a_cons (e_ix (e_varO (pv 1)) (E2.bw (e_sub (E2.bw (e_var (pv 6))) (E2.bw e_int)))) (a_cons (e_tup (d_cons (e_var (pv 4)) (d_cons (e_var (pv 5)) d_nil))) a_nil))))))) (s_cons (p_isub (i := 6) nd rfl (by first | exact Or.inl rfl | exact Or.inr rfl) (E2.bw e_int)) (s_one (p_isub (i := 4) nd rfl (by first | exact Or.inl rfl | exact Or.inr rfl) (E2.bw (e_ix (E2.bw (e_ix (e_varO (pv 1)) (E2.bw (e_var (pv 6))))) (E2.bw e_int))))))) (s_cons (p_exprX (x_ins (pv 1) (d_cons (e_var (pv 6)) (d_cons (e_tup (d_cons (e_var (pv 4)) (d_cons (e_var (pv 5)) d_nil))) d_nil)))) (s_one (p_exprX (x_ins (pv 2) (d_cons (e_var (pv 6)) (d_cons (e_var (pv 3)) d_nil))))))))) (s_one (p_ret (e_tup (d_cons (e_tuple (by rfl) Z.tuple (e_varO (pv 1))) (d_cons (e_tuple (by rfl) Z.tuple (e_varO (pv 2))) d_nil)))))))) (fun z => nomatch z)) hm (fun _ _ _ _ _ _ us hl => match us, hl with | [_], _ => rfl)

def b_first (f_lets_fall : FM) : SM :=
  (sSeq (sPar .nw .nw 1 2 (mLst aNil) (mLst aNil)) (sSeq (sFor (iR3 (m2 dSub (m1 dLen (mVar 0)) (mC (.int 1))) (m1 dNeg (mC (.int 1))) (m1 dNeg (mC (.int 1)))) (gN 3) (sSeq (sAsg (mTup (aCons (m2 dIx (mVar 0) (mVar 3)) (aCons (mC (.int 0)) aNil))) (gT 2 (gsCons (gT 2 (gsCons (gN 4) (gsCons (gN 5) gsNil))) (gsCons (gN 6) gsNil)))) (sSeq (sWh (cAnd (mT (m2 dLt (mVar 6) (m1 dLen (mVarO 1)))) (mT (mCal 2 f_lets_fall (kCons (mTup (aCons (mVar 4) (aCons (mVar 5) aNil))) (kCons (m2 dIx (mVarO 1) (mVar 6)) kNil))))) (sSeq (sAug dAdd 4 (m2 dIx (m2 dIx (mVarO 1) (mVar 6)) (mC (.int 1)))) (sAug dAdd 6 (mC (.int 1))))) (sSeq (sX (xMt oIns 1 (aCons (mVar 6) (aCons (mTup (aCons (mVar 4) (aCons (mVar 5) aNil))) aNil)))) (sX (xMt oIns 2 (aCons (mVar 6) (aCons (mVar 3) aNil)))))))) (sRet (mTup (aCons (m1 dTuple (mVarO 1)) (aCons (m1 dTuple (mVarO 2)) aNil))))))
theorem sc_first : FnScope ["row", "here", "order", "place", "strength", "toll", "at"] ["row"] (defScope (top 11)) := ⟨rfl, rfl, rfl, by decide +kernel, rfl, by decide +kernel, by decide +kernel⟩
theorem raw_first {k : Nat} {fa : Addr} {fd : FuncData} {f_lets_fall : FM} (F : FunD K "first" "first" (defArgs (top 11)) (defBody (top 11)) (defScope (top 11)) [] [] fa fd) (hm : mg "first" = some (.ref fa)) (Z : Fz mg) (C_lets_fall : Cal P w K mg base "lets_fall" (defArgs (top 5)) ["ahead", "behind"] k .fz f_lets_fall) :
    Cal P w K mg base "first" (defArgs (top 11)) ["row"] (k + 1) .fz (bodyM 7 fun _ => b_first f_lets_fall) :=
  have nd : (["row", "here", "order", "place", "strength", "toll", "at"] : List Str).Nodup := sc_first.nd
  Cal.mk2 F (fn_ok F sc_first rfl (.inl rfl) (fun cdv A outer s H E hr => by
    conv => arg 3; whnf
    exact (s_cons (p_par (k1 := .nw) (k2 := .nw) (i := 1) (j := 2) (fun z => nomatch z) (fun z => nomatch z) rfl nd rfl rfl (by decide) rfl rfl (e_lst d_nil) (e_lst d_nil)) (s_cons (p_for PassesOwn.never rfl (i_range3 (by rfl) Z.range (E2.bw (e_sub (E2.bw (e_len (by rfl) Z.len (E2.bw (e_var (pv 0))))) (E2.bw e_int))) (E2.bw (e_neg (E2.bw e_int))) (E2.bw (e_neg (E2.bw e_int)))) (g_name (i := 3) (pg_name (i := 3) nd rfl (by first | exact Or.inl rfl | exact Or.inr rfl))) (s_cons (p_asg (e_tup (d_cons (e_ix (E2.bw (e_var (pv 0))) (E2.bw (e_var (pv 3)))) (d_cons e_int d_nil))) (g_tup rfl (gs_cons (g_tup rfl (gs_cons (g_name (i := 4) (pg_name (i := 4) nd rfl (by first | exact Or.inl rfl | exact Or.inr rfl))) (gs_cons (g_name (i := 5) (pg_name (i := 5) nd rfl (by first | exact Or.inl rfl | exact Or.inr rfl))) gs_nil))) (gs_cons (g_name (i := 6) (pg_name (i := 6) nd rfl (by first | exact Or.inl rfl | exact Or.inr rfl))) gs_nil)))) (s_cons (p_while PassesOwn.never (W2.t (w_and (t_lt (E2.bw (e_var (pv 6))) (E2.bw (e_len (by rfl) Z.len (e_varO (pv 1))))) (w_and1 (t_val (e_cal C_lets_fall hr (by rfl) (a_cons (e_tup (d_cons (e_var (pv 4)) (d_cons (e_var (pv 5)) d_nil))) (a_cons (e_ix (e_varO (pv 1)) (E2.bw (e_var (pv 6)))) a_nil))))))) (s_cons (p_iadd (i := 4) nd rfl (by first | exact Or.inl rfl | exact Or.inr rfl) (E2.bw (e_ix (E2.bw (e_ix (e_varO (pv 1)) (E2.bw (e_var (pv 6))))) (E2.bw e_int)))) (s_one (p_iadd (i := 6) nd rfl (by first | exact Or.inl rfl | exact Or.inr rfl) (E2.bw e_int))))) (s_cons (p_exprX (x_ins (pv 1) (d_cons (e_var (pv 6)) (d_cons (e_tup (d_cons (e_var (pv 4)) (d_cons (e_var (pv 5)) d_nil))) d_nil)))) (s_one (p_exprX (x_ins (pv 2) (d_cons (e_var (pv 6)) (d_cons (e_var (pv 3)) d_nil))))))))) (s_one (p_ret (e_tup (d_cons (e_tuple (by rfl) Z.tuple (e_varO (pv 1))) (d_cons (e_tuple (by rfl) Z.tuple (e_varO (pv 2))) d_nil)))))))) (fun z => nomatch z)) hm (fun _ _ _ _ _ _ us hl => match us, hl with | [_], _ => rfl)

def b_turned_pairs : SM :=
  (sSeq (sSetDc 1 (iEn (mVar 0)) (gT 2 (gsCons (gN 2) (gsCons (gN 3) gsNil))) cYes (mVar 3) (mVar 2) [2, 3]) (sRet (mLc2 (iR1 (m1 dLen (mVar 0))) (gN 4) cYes (iR2 (m2 dAdd (mVar 4) (mC (.int 1))) (m1 dLen (mVar 0))) (gN 5) (mT (m2 dLt (mDgetK 1 (mVar 5)) (mDgetK 1 (mVar 4)))) (mTup (aCons (mVar 4) (aCons (mVar 5) aNil))) [4, 5] [5])))
theorem sc_turned_pairs : FnScope ["order", "spots", "at", "place", "one", "other"] ["order"] (defScope (top 12)) := ⟨rfl, rfl, rfl, by decide +kernel, rfl, by decide +kernel, by decide +kernel⟩
theorem raw_turned_pairs {k : Nat} {fa : Addr} {fd : FuncData} (F : FunD K "turned_pairs" "turned_pairs" (defArgs (top 12)) (defBody (top 12)) (defScope (top 12)) [] [] fa fd) (hm : mg "turned_pairs" = some (.ref fa)) (Z : Fz mg)  :
    Cal P w K mg base "turned_pairs" (defArgs (top 12)) ["order"] (k + 1) .nw (bodyM 6 fun _ => b_turned_pairs ) :=
  have nd : (["order", "spots", "at", "place", "one", "other"] : List Str).Nodup := sc_turned_pairs.nd
  Cal.mk2 F (fn_ok F sc_turned_pairs rfl (.inr rfl) (fun cdv A outer s H E hr => by
    conv => arg 3; whnf
    exact (s_cons (p_setDc (i := 1) (own := [("at", 2), ("place", 3)]) nd rfl (by first | exact Or.inl rfl | exact Or.inr rfl) rfl nd (j_enum (by rfl) Z.enumerate (E2.bw (e_var (pv 0)))) (blkOk_by rfl) (fun _ _ _ _ _ => (g_tup rfl (gs_cons (g_name (i := 2) (pg_name (i := 2) nd rfl (by first | exact Or.inl rfl | exact Or.inr rfl))) (gs_cons (g_name (i := 3) (pg_name (i := 3) nd rfl (by first | exact Or.inl rfl | exact Or.inr rfl))) gs_nil)))) (fun _ _ _ _ _ => c_nil) (fun _ _ _ _ _ => (e_var (pv 3))) (fun _ _ _ _ _ => (e_var (pv 2)))) (s_one (p_ret (e_lc2 (own := [("one", 4), ("other", 5)]) (vs1 := [5]) rfl nd (I2.j (i_range1 (by rfl) Z.range (E2.bw (e_len (by rfl) Z.len (E2.bw (e_var (pv 0))))))) (blkOk_by rfl) (fun _ _ _ _ _ => (g_name (i := 4) (pg_name (i := 4) nd rfl (by first | exact Or.inl rfl | exact Or.inr rfl)))) (fun _ _ _ _ _ => c_nil) (fun _ _ _ _ _ => (i_range2 (by rfl) Z.range (E2.bw (e_add (E2.bw (e_var (pv 4))) (E2.bw e_int))) (E2.bw (e_len (by rfl) Z.len (E2.bw (e_var (pv 0))))))) (fun _ _ _ _ _ => (g_name (i := 5) (pg_name (i := 5) nd rfl (by first | exact Or.inl rfl | exact Or.inr rfl)))) (fun _ _ _ _ _ => (c_one (t_lt (E2.bw (e_dgetK hr (pv 1) (e_var (pv 5)))) (E2.bw (e_dgetK hr (pv 1) (e_var (pv 4))))))) (fun _ _ _ _ _ => (e_tup (d_cons (e_var (pv 4)) (d_cons (e_var (pv 5)) d_nil))))))))) (fun _ _ _ _ h => h)) hm (fun _ _ _ _ _ _ us hl => match us, hl with | [_], _ => rfl)

def b_passings (f_turned_pairs f_last : FM) : SM :=
  (sRet (mCal 1 f_turned_pairs (kCons (m2 dIx (mCal 1 f_last (kCons (mVar 0) kNil)) (mC (.int 1))) kNil)))
theorem sc_passings : FnScope ["row"] ["row"] (defScope (top 13)) := ⟨rfl, rfl, rfl, by decide +kernel, rfl, by decide +kernel, by decide +kernel⟩
theorem raw_passings {k : Nat} {fa : Addr} {fd : FuncData} {f_turned_pairs f_last : FM} (F : FunD K "passings" "passings" (defArgs (top 13)) (defBody (top 13)) (defScope (top 13)) [] [] fa fd) (hm : mg "passings" = some (.ref fa)) (Z : Fz mg) (C_turned_pairs : Cal P w K mg base "turned_pairs" (defArgs (top 12)) ["order"] k .nw f_turned_pairs) (C_last : Cal P w K mg base "last" (defArgs (top 10)) ["row"] k .fz f_last) :
    Cal P w K mg base "passings" (defArgs (top 13)) ["row"] (k + 1) .nw (bodyM 1 fun _ => b_passings f_turned_pairs f_last) :=
  have nd : (["row"] : List Str).Nodup := sc_passings.nd
  Cal.mk2 F (fn_ok F sc_passings rfl (.inr rfl) (fun cdv A outer s H E hr => by
    conv => arg 3; whnf
    exact (s_one (p_ret (e_cal C_turned_pairs hr (by rfl) (a_cons (e_ix (E2.bw (e_cal C_last hr (by rfl) (a_cons (e_var (pv 0)) a_nil))) (E2.bw e_int)) a_nil))))) (fun _ _ _ _ h => h)) hm (fun _ _ _ _ _ _ us hl => match us, hl with | [_], _ => rfl)

def b_fallings (f_turned_pairs f_first : FM) : SM :=
  (sRet (mCal 1 f_turned_pairs (kCons (m2 dIx (mCal 1 f_first (kCons (mVar 0) kNil)) (mC (.int 1))) kNil)))
theorem sc_fallings : FnScope ["row"] ["row"] (defScope (top 14)) := ⟨rfl, rfl, rfl, by decide +kernel, rfl, by decide +kernel, by decide +kernel⟩
theorem raw_fallings {k : Nat} {fa : Addr} {fd : FuncData} {f_turned_pairs f_first : FM} (F : FunD K "fallings" "fallings" (defArgs (top 14)) (defBody (top 14)) (defScope (top 14)) [] [] fa fd) (hm : mg "fallings" = some (.ref fa)) (Z : Fz mg) (C_turned_pairs : Cal P w K mg base "turned_pairs" (defArgs (top 12)) ["order"] k .nw f_turned_pairs) (C_first : Cal P w K mg base "first" (defArgs (top 11)) ["row"] k .fz f_first) :
    Cal P w K mg base "fallings" (defArgs (top 14)) ["row"] (k + 1) .nw (bodyM 1 fun _ => b_fallings f_turned_pairs f_first) :=
  have nd : (["row"] : List Str).Nodup := sc_fallings.nd
  Cal.mk2 F (fn_ok F sc_fallings rfl (.inr rfl) (fun cdv A outer s H E hr => by
    conv => arg 3; whnf
    exact (s_one (p_ret (e_cal C_turned_pairs hr (by rfl) (a_cons (e_ix (E2.bw (e_cal C_first hr (by rfl) (a_cons (e_var (pv 0)) a_nil))) (E2.bw e_int)) a_nil))))) (fun _ _ _ _ h => h)) hm (fun _ _ _ _ _ _ us hl => match us, hl with | [_], _ => rfl)

def b_is_last (f_may_pass : FM) : SM :=
  (sRet (m2 dEq (m1 dLen (mCal 1 f_may_pass (kCons (mVar 0) kNil))) (mC (.int 0))))
theorem sc_is_last : FnScope ["row"] ["row"] (defScope (top 15)) := ⟨rfl, rfl, rfl, by decide +kernel, rfl, by decide +kernel, by decide +kernel⟩
theorem raw_is_last {k : Nat} {fa : Addr} {fd : FuncData} {f_may_pass : FM} (F : FunD K "is_last" "is_last" (defArgs (top 15)) (defBody (top 15)) (defScope (top 15)) [] [] fa fd) (hm : mg "is_last" = some (.ref fa)) (Z : Fz mg) (C_may_pass : Cal P w K mg base "may_pass" (defArgs (top 6)) ["row"] k .nw f_may_pass) :
    Cal P w K mg base "is_last" (defArgs (top 15)) ["row"] (k + 1) .fz (bodyM 1 fun _ => b_is_last f_may_pass) :=
  have nd : (["row"] : List Str).Nodup := sc_is_last.nd
  Cal.mk2 F (fn_ok F sc_is_last rfl (.inl rfl) (fun cdv A outer s H E hr => by
    conv => arg 3; whnf
    exact (s_one (p_ret (e_eq hr (E2.bw (e_len (by rfl) Z.len (E2.bw (e_cal C_may_pass hr (by rfl) (a_cons (e_var (pv 0)) a_nil))))) (E2.bw e_int))))) (fun z => nomatch z)) hm (fun _ _ _ _ _ _ us hl => match us, hl with | [_], _ => rfl)

def b_is_first (f_may_fall : FM) : SM :=
  (sRet (m2 dEq (m1 dLen (mCal 1 f_may_fall (kCons (mVar 0) kNil))) (mC (.int 0))))
theorem sc_is_first : FnScope ["row"] ["row"] (defScope (top 16)) := ⟨rfl, rfl, rfl, by decide +kernel, rfl, by decide +kernel, by decide +kernel⟩
theorem raw_is_first {k : Nat} {fa : Addr} {fd : FuncData} {f_may_fall : FM} (F : FunD K "is_first" "is_first" (defArgs (top 16)) (defBody (top 16)) (defScope (top 16)) [] [] fa fd) (hm : mg "is_first" = some (.ref fa)) (Z : Fz mg) (C_may_fall : Cal P w K mg base "may_fall" (defArgs (top 7)) ["row"] k .nw f_may_fall) :
    Cal P w K mg base "is_first" (defArgs (top 16)) ["row"] (k + 1) .fz (bodyM 1 fun _ => b_is_first f_may_fall) :=
  have nd : (["row"] : List Str).Nodup := sc_is_first.nd
  Cal.mk2 F (fn_ok F sc_is_first rfl (.inl rfl) (fun cdv A outer s H E hr => by
    conv => arg 3; whnf
    exact (s_one (p_ret (e_eq hr (E2.bw (e_len (by rfl) Z.len (E2.bw (e_cal C_may_fall hr (by rfl) (a_cons (e_var (pv 0)) a_nil))))) (E2.bw e_int))))) (fun z => nomatch z)) hm (fun _ _ _ _ _ _ us hl => match us, hl with | [_], _ => rfl)

theorem sc_never : FnScope nvN ["row"] (defScope (top 18)) := ⟨rfl, rfl, rfl, by decide +kernel, rfl, by decide +kernel, by decide +kernel⟩
theorem raw_never {k : Nat} {fa : Addr} {fd : FuncData} (F : FunD K "never" "never" (defArgs (top 18)) (defBody (top 18)) (defScope (top 18)) [] [] fa fd) (hm : mg "never" = some (.ref fa)) (Z : Fz mg) :
    Cal P w K mg base "never" (defArgs (top 18)) ["row"] (k + 1) (.nn 2) fNever :=
  have nd : (nvN : List Str).Nodup := sc_never.nd
  Cal.mk2 F (ok_never F sc_never (fun cdv A outer s H E hr => ⟨_, rfl, by
    conv => arg 2; whnf
    exact (pss_cons (ps_setLc (i := 1) (own := [("beast", 6)]) rfl nd rfl rfl (sw_true rfl rfl rfl (by decide +kernel)) (pi_tup (pv 0)) (blkOk_by rfl) (fun _ _ _ _ _ => (pg_name (i := 6) nd rfl (by first | exact Or.inl rfl | exact Or.inr rfl))) (fun _ _ _ _ _ => pts_nil) (fun _ _ _ _ _ => (pe_lst pa_nil))) (pss_cons (ps_for PassesOwn.never rfl (pi_enum (by rfl) Z.enumerate (pa_cons (pv 1) pa_nil)) (pg_tup rfl (pgs_cons (pg_name (i := 2) nd rfl (by first | exact Or.inl rfl | exact Or.inr rfl)) (pgs_cons (pg_name (i := 3) nd rfl (by first | exact Or.inl rfl | exact Or.inr rfl)) pgs_nil))) (pss_cons (ps_set (i := 4) nd rfl (by first | exact Or.inl rfl | exact Or.inr rfl) (e_sumA rfl (E2.bw (e_ix (E2.bw (e_var (pv 0))) (E2.bw (e_var (pv 2))))) (by rfl) Z.sum).pe) (pss_one (ps_for PassesOwn.never rfl (pi_range2 (by rfl) Z.range (d_cons (e_add (E2.bw (e_var (pv 2))) (E2.bw e_int)) (d_cons (e_len (by rfl) Z.len (E2.bw (e_var (pv 0)))) d_nil)).pa) (pg_name (i := 5) nd rfl (by first | exact Or.inl rfl | exact Or.inr rfl)) (pss_one (ps_if (t_le (E2.bw (e_ix (E2.bw (e_ix (E2.bw (e_var (pv 0))) (E2.bw (e_var (pv 5))))) (E2.bw e_int))) (E2.bw (e_var (pv 4)))).pt (pss_cons (ps_expr (pe_bm PySem.F.plainAttrs_list PySem.F.slot_list_append PySem.F.type_list_append mt_append (pv 3) (d_cons (e_var (pv 5)) d_nil).pa)) (pss_one (ps_aug (ti := rI0 fun i j => .int (i + j)) (i := 4) nd rfl (by first | exact Or.inl rfl | exact Or.inr rfl) (e_ix (E2.bw (e_ix (E2.bw (e_var (pv 0))) (E2.bw (e_var (pv 5))))) (E2.bw e_int)).pe (fun pins s σ H x y v u Q I r1 r2 q => iop_add pins s σ H x y v u Q I r1 r2 q)))) pss_nil)))))) (pss_one (ps_ret (pv 1)))))⟩)) hm (fun _ _ _ _ _ _ us hl => match us, hl with | [_], _ => rfl)

def b_shows_never (f_never f_is_number : FM) : SM :=
  (sSeq (sIf (cOr (cNot (mT (m1 (dIs "list") (mVar 1)))) (cNot (mT (m1 dAll (mLc (iIt (mVar 1)) (gN 3) cYes (m1 (dIs "list") (mVar 3)) [3]))))) (sRet (mC (.bool false))) sNext) (sRet (mAnd (m1 dAll (mLc2 (iIt (mVar 1)) (gN 2) cYes (iIt (mVar 2)) (gN 3) cYes (mCal 1 f_is_number (kCons (mVar 3) kNil)) [2, 3] [3])) (m2 dEq (mVar 1) (mCal 1 f_never (kCons (mVar 0) kNil))))))
theorem sc_shows_never : FnScope ["row", "thing", "places", "part"] ["row", "thing"] (defScope (top 19)) := ⟨rfl, rfl, rfl, by decide +kernel, rfl, by decide +kernel, by decide +kernel⟩
theorem raw_shows_never {k : Nat} {fa : Addr} {fd : FuncData} {f_never f_is_number : FM} (F : FunD K "shows_never" "shows_never" (defArgs (top 19)) (defBody (top 19)) (defScope (top 19)) [] [] fa fd) (hm : mg "shows_never" = some (.ref fa)) (Z : Fz mg) (C_never : Cal P w K mg base "never" (defArgs (top 18)) ["row"] k (.nn 2) f_never) (C_is_number : Cal P w K mg base "is_number" (defArgs (top 1)) ["thing"] k .fz f_is_number) :
    Cal P w K mg base "shows_never" (defArgs (top 19)) ["row", "thing"] (k + 1) .fz (bodyM 4 fun _ => b_shows_never f_never f_is_number) :=
  have nd : (["row", "thing", "places", "part"] : List Str).Nodup := sc_shows_never.nd
  Cal.mk2 F (fn_ok F sc_shows_never rfl (.inl rfl) (fun cdv A outer s H E hr => by
    conv => arg 3; whnf
    exact (s_cons (p_if (W2.t (w_or (t_not (t_val (e_isi kc_list (by rfl) Z.isinstance (E2.bw (e_var (pv 1))) (pe_bltn (v := .ty "list") (by rfl) Z.list (by decide +kernel) rfl)))) (w_or1 (t_not (t_val (e_all rfl (E2.bw (e_lc (own := [("part", 3)]) rfl nd (j_seq (E2.bw (e_var (pv 1)))) (blkOk_by rfl) (fun _ _ _ _ _ => (g_name (i := 3) (pg_name (i := 3) nd rfl (by first | exact Or.inl rfl | exact Or.inr rfl)))) (fun _ _ _ _ _ => c_nil) (fun _ _ _ _ _ => (e_isi kc_list (by rfl) Z.isinstance (E2.bw (e_var (pv 3))) (pe_bltn (v := .ty "list") (by rfl) Z.list (by decide +kernel) rfl))))) (by rfl) Z.all)))))) (s_one (p_ret e_bl)) s_nil) (s_one (p_ret (e_and (e_all rfl (E2.bw (e_lc2 (own := [("places", 2), ("part", 3)]) (vs1 := [3]) rfl nd (j_seq (E2.bw (e_var (pv 1)))) (blkOk_by rfl) (fun _ _ _ _ _ => (g_name (i := 2) (pg_name (i := 2) nd rfl (by first | exact Or.inl rfl | exact Or.inr rfl)))) (fun _ _ _ _ _ => c_nil) (fun _ _ _ _ _ => (i_seq (e_var (pv 2)))) (fun _ _ _ _ _ => (g_name (i := 3) (pg_name (i := 3) nd rfl (by first | exact Or.inl rfl | exact Or.inr rfl)))) (fun _ _ _ _ _ => c_nil) (fun _ _ _ _ _ => (e_cal C_is_number hr (by rfl) (a_cons (e_var (pv 3)) a_nil))))) (by rfl) Z.all) (e_one (e_eq hr (E2.bw (e_var (pv 1))) (E2.bw (e_cal C_never hr (by rfl) (a_cons (e_var (pv 0)) a_nil)))))))))) (fun z => nomatch z)) hm (fun _ _ _ _ _ _ us hl => match us, hl with | [_, _], _ => rfl)

def b_ever (f_never : FM) : SM :=
  (sRet (m2 (dMem true) (mVar 2) (m2 dIx (mCal 1 f_never (kCons (mVar 0) kNil)) (mVar 1))))
theorem sc_ever : FnScope ["row", "one", "other"] ["row", "one", "other"] (defScope (top 20)) := ⟨rfl, rfl, rfl, by decide +kernel, rfl, by decide +kernel, by decide +kernel⟩
theorem raw_ever {k : Nat} {fa : Addr} {fd : FuncData} {f_never : FM} (F : FunD K "ever" "ever" (defArgs (top 20)) (defBody (top 20)) (defScope (top 20)) [] [] fa fd) (hm : mg "ever" = some (.ref fa)) (Z : Fz mg) (C_never : Cal P w K mg base "never" (defArgs (top 18)) ["row"] k (.nn 2) f_never) :
    Cal P w K mg base "ever" (defArgs (top 20)) ["row", "one", "other"] (k + 1) .fz (bodyM 3 fun _ => b_ever f_never) :=
  have nd : (["row", "one", "other"] : List Str).Nodup := sc_ever.nd
  Cal.mk2 F (fn_ok F sc_ever rfl (.inl rfl) (fun cdv A outer s H E hr => by
    conv => arg 3; whnf
    exact (s_one (p_ret (e_nin hr (E2.bw (e_var (pv 2))) (E2.bw (e_ix (E2.bw (e_cal C_never hr (by rfl) (a_cons (e_var (pv 0)) a_nil))) (E2.bw (e_var (pv 1))))))))) (fun z => nomatch z)) hm (fun _ _ _ _ _ _ us hl => match us, hl with | [_, _, _], _ => rfl)

def b_least_strength (f_never : FM) : SM :=
  (sSeq (sSet .fz 3 (m2 dIx (mCal 1 f_never (kCons (mSl dSl (mVar 0) oNone (oSome (mVar 2))) kNil)) (mVar 1))) (sRet (m2 dAdd (m2 dAdd (m1 dSumA (m2 dIx (mVar 0) (mVar 1))) (m1 dSumA (mLc (iIt (mVar 3)) (gN 4) cYes (m2 dIx (m2 dIx (mVar 0) (mVar 4)) (mC (.int 1))) [4]))) (mC (.int 1)))))
theorem sc_least_strength : FnScope ["row", "one", "other", "between", "place"] ["row", "one", "other"] (defScope (top 21)) := ⟨rfl, rfl, rfl, by decide +kernel, rfl, by decide +kernel, by decide +kernel⟩
theorem raw_least_strength {k : Nat} {fa : Addr} {fd : FuncData} {f_never : FM} (F : FunD K "least_strength" "least_strength" (defArgs (top 21)) (defBody (top 21)) (defScope (top 21)) [] [] fa fd) (hm : mg "least_strength" = some (.ref fa)) (Z : Fz mg) (C_never : Cal P w K mg base "never" (defArgs (top 18)) ["row"] k (.nn 2) f_never) :
    Cal P w K mg base "least_strength" (defArgs (top 21)) ["row", "one", "other"] (k + 1) .fz (bodyM 5 fun _ => b_least_strength f_never) :=
  have nd : (["row", "one", "other", "between", "place"] : List Str).Nodup := sc_least_strength.nd
  Cal.mk2 F (fn_ok F sc_least_strength rfl (.inl rfl) (fun cdv A outer s H E hr => by
    conv => arg 3; whnf
    exact (s_cons (p_set (k := .fz) (i := 3) (fun z => nomatch z) nd rfl (by first | exact Or.inl rfl | exact Or.inr rfl) (e_ix (E2.bw (e_cal C_never hr (by rfl) (a_cons (e_sl (E2.bw (e_var (pv 0))) o_none (o_some (E2.bw (e_var (pv 2))))) a_nil))) (E2.bw (e_var (pv 1))))) (s_one (p_ret (e_add (E2.bw (e_add (E2.bw (e_sumA rfl (E2.bw (e_ix (E2.bw (e_var (pv 0))) (E2.bw (e_var (pv 1))))) (by rfl) Z.sum)) (E2.bw (e_sumA rfl (E2.bw (e_lc (own := [("place", 4)]) rfl nd (j_seq (E2.bw (e_var (pv 3)))) (blkOk_by rfl) (fun _ _ _ _ _ => (g_name (i := 4) (pg_name (i := 4) nd rfl (by first | exact Or.inl rfl | exact Or.inr rfl)))) (fun _ _ _ _ _ => c_nil) (fun _ _ _ _ _ => (e_ix (E2.bw (e_ix (E2.bw (e_var (pv 0))) (E2.bw (e_var (pv 4))))) (E2.bw e_int))))) (by rfl) Z.sum)))) (E2.bw e_int)))))) (fun z => nomatch z)) hm (fun _ _ _ _ _ _ us hl => match us, hl with | [_, _, _], _ => rfl)

def b_stopped_by (f_last : FM) : SM :=
  (sSeq (sSet .fz 2 (m2 dIx (mCal 1 f_last (kCons (mSl dSl (mVar 0) oNone (oSome (m2 dAdd (mVar 1) (mC (.int 1))))) kNil)) (mC (.int 1)))) (sSeq (sSet .fz 3 (mIndexT (mVar 2) (mVar 1))) (sRet (mIf (mT (m2 dGt (mVar 3) (mC (.int 0)))) (m2 dIx (mVar 2) (m2 dSub (mVar 3) (mC (.int 1)))) (mC .none)))))
theorem sc_stopped_by : FnScope ["row", "who", "order", "at"] ["row", "who"] (defScope (top 22)) := ⟨rfl, rfl, rfl, by decide +kernel, rfl, by decide +kernel, by decide +kernel⟩
theorem raw_stopped_by {k : Nat} {fa : Addr} {fd : FuncData} {f_last : FM} (F : FunD K "stopped_by" "stopped_by" (defArgs (top 22)) (defBody (top 22)) (defScope (top 22)) [] [] fa fd) (hm : mg "stopped_by" = some (.ref fa)) (Z : Fz mg) (C_last : Cal P w K mg base "last" (defArgs (top 10)) ["row"] k .fz f_last) :
    Cal P w K mg base "stopped_by" (defArgs (top 22)) ["row", "who"] (k + 1) .fz (bodyM 4 fun _ => b_stopped_by f_last) :=
  have nd : (["row", "who", "order", "at"] : List Str).Nodup := sc_stopped_by.nd
  Cal.mk2 F (fn_ok F sc_stopped_by rfl (.inl rfl) (fun cdv A outer s H E hr => by
    conv => arg 3; whnf
    exact (s_cons (p_set (k := .fz) (i := 2) (fun z => nomatch z) nd rfl (by first | exact Or.inl rfl | exact Or.inr rfl) (e_ix (E2.bw (e_cal C_last hr (by rfl) (a_cons (e_sl (E2.bw (e_var (pv 0))) o_none (o_some (E2.bw (e_add (E2.bw (e_var (pv 1))) (E2.bw e_int))))) a_nil))) (E2.bw e_int))) (s_cons (p_set (k := .fz) (i := 3) (fun z => nomatch z) nd rfl (by first | exact Or.inl rfl | exact Or.inr rfl) (e_indexT hr (e_var (pv 2)) (e_var (pv 1)))) (s_one (p_ret (e_if (t_gt (E2.bw (e_var (pv 3))) (E2.bw e_int)) (e_ix (E2.bw (e_var (pv 2))) (E2.bw (e_sub (E2.bw (e_var (pv 3))) (E2.bw e_int)))) e_non)))))) (fun z => nomatch z)) hm (fun _ _ _ _ _ _ us hl => match us, hl with | [_, _], _ => rfl)

def b_weighed : SM :=
  (sSeq (sPar .nw .fz 1 2 (mLst aNil) (mC (.int 0))) (sSeq (sFor (iIt (mVar 0)) (gT 2 (gsCons (gN 3) (gsCons (gN 4) gsNil))) (sSeq (sX (xMt oApp 1 (aCons (m2 dSub (mVar 3) (mVar 2)) aNil))) (sAug dAdd 2 (mVar 4)))) (sRetO 1)))
theorem sc_weighed : FnScope ["row", "found", "ahead", "strength", "toll"] ["row"] (defScope (top 24)) := ⟨rfl, rfl, rfl, by decide +kernel, rfl, by decide +kernel, by decide +kernel⟩
theorem raw_weighed {k : Nat} {fa : Addr} {fd : FuncData} (F : FunD K "weighed" "weighed" (defArgs (top 24)) (defBody (top 24)) (defScope (top 24)) [] [] fa fd) (hm : mg "weighed" = some (.ref fa)) (Z : Fz mg)  :
    Cal P w K mg base "weighed" (defArgs (top 24)) ["row"] (k + 1) .nw (bodyM 5 fun _ => b_weighed ) :=
  have nd : (["row", "found", "ahead", "strength", "toll"] : List Str).Nodup := sc_weighed.nd
  Cal.mk2 F (fn_ok F sc_weighed rfl (.inr rfl) (fun cdv A outer s H E hr => by
    conv => arg 3; whnf
    exact (s_cons (p_par (k1 := .nw) (k2 := .fz) (i := 1) (j := 2) (fun z => nomatch z) (fun z => nomatch z) rfl nd rfl rfl (by decide) rfl rfl (e_lst d_nil) e_int) (s_cons (p_for PassesOwn.never rfl (i_seq (e_var (pv 0))) (g_tup rfl (gs_cons (g_name (i := 3) (pg_name (i := 3) nd rfl (by first | exact Or.inl rfl | exact Or.inr rfl))) (gs_cons (g_name (i := 4) (pg_name (i := 4) nd rfl (by first | exact Or.inl rfl | exact Or.inr rfl))) gs_nil))) (s_cons (p_exprX (x_app (pv 1) (d_cons (e_sub (E2.bw (e_var (pv 3))) (E2.bw (e_var (pv 2)))) d_nil))) (s_one (p_iadd (i := 2) nd rfl (by first | exact Or.inl rfl | exact Or.inr rfl) (E2.bw (e_var (pv 4))))))) (s_one (p_retO (pv 1)))))) (fun _ _ _ _ h => h)) hm (fun _ _ _ _ _ _ us hl => match us, hl with | [_], _ => rfl)

def b_turned (f_weighed : FM) : SM :=
  (sRet (m1 dTuple (mLc (iZpS (mCal 1 f_weighed (kCons (mVar 0) kNil)) (mVar 0)) (gT 2 (gsCons (gN 1) (gsCons (gT 2 (gsCons (gN 2) (gsCons (gN 3) gsNil))) gsNil))) cYes (mTup (aCons (m1 dNeg (mVar 1)) (aCons (mVar 3) aNil))) [1, 2, 3])))
theorem sc_turned : FnScope ["row", "weight", "strength", "toll"] ["row"] (defScope (top 25)) := ⟨rfl, rfl, rfl, by decide +kernel, rfl, by decide +kernel, by decide +kernel⟩
theorem raw_turned {k : Nat} {fa : Addr} {fd : FuncData} {f_weighed : FM} (F : FunD K "turned" "turned" (defArgs (top 25)) (defBody (top 25)) (defScope (top 25)) [] [] fa fd) (hm : mg "turned" = some (.ref fa)) (Z : Fz mg) (C_weighed : Cal P w K mg base "weighed" (defArgs (top 24)) ["row"] k .nw f_weighed) :
    Cal P w K mg base "turned" (defArgs (top 25)) ["row"] (k + 1) .fz (bodyM 4 fun _ => b_turned f_weighed) :=
  have nd : (["row", "weight", "strength", "toll"] : List Str).Nodup := sc_turned.nd
  Cal.mk2 F (fn_ok F sc_turned rfl (.inl rfl) (fun cdv A outer s H E hr => by
    conv => arg 3; whnf
    exact (s_one (p_ret (e_tuple (by rfl) Z.tuple (E2.bw (e_lc (own := [("weight", 1), ("strength", 2), ("toll", 3)]) rfl nd (I2.j (i_zipS (by rfl) Z.zip (E2.fz (e_cal C_weighed hr (by rfl) (a_cons (e_var (pv 0)) a_nil))) (e_var (pv 0)))) (blkOk_by rfl) (fun _ _ _ _ _ => (g_tup rfl (gs_cons (g_name (i := 1) (pg_name (i := 1) nd rfl (by first | exact Or.inl rfl | exact Or.inr rfl))) (gs_cons (g_tup rfl (gs_cons (g_name (i := 2) (pg_name (i := 2) nd rfl (by first | exact Or.inl rfl | exact Or.inr rfl))) (gs_cons (g_name (i := 3) (pg_name (i := 3) nd rfl (by first | exact Or.inl rfl | exact Or.inr rfl))) gs_nil))) gs_nil)))) (fun _ _ _ _ _ => c_nil) (fun _ _ _ _ _ => (e_tup (d_cons (e_neg (E2.bw (e_var (pv 1)))) (d_cons (e_var (pv 3)) d_nil)))))))))) (fun z => nomatch z)) hm (fun _ _ _ _ _ _ us hl => match us, hl with | [_], _ => rfl)

def b_law_dip : SM :=
  (sSeq (sSet .fz 2 (mIf (mT (m2 dLt (mVar 1) (m1 dLen (mVar 0)))) (m2 dIx (mVar 0) (mVar 1)) (mC (.int 0)))) (sRet (mLst (aCons (m2 dMul (m1 dAbs (mVar 2)) (m1 dInt (m2 dGe (m1 dAbs (mVar 2)) (m2 dPow (mC (.int 10)) (mC (.int 18)))))) (aCons (m2 dAdd (m2 dAdd (m2 dMod (mVar 2) (mC (.int 2305843009213693951))) (m2 dMul (mC (.int 39373)) (mVar 1))) (mC (.int 17))) (aCons (mC (.int 0)) aNil))))))
theorem sc_law_dip : FnScope ["_law_script", "_law_k", "_law_cell"] ["_law_script", "_law_k"] (defScope (top 27)) := ⟨rfl, rfl, rfl, by decide +kernel, rfl, by decide +kernel, by decide +kernel⟩
theorem raw_law_dip {k : Nat} {fa : Addr} {fd : FuncData} (F : FunD K "_law_dip" "_law_dip" (defArgs (top 27)) (defBody (top 27)) (defScope (top 27)) [] [] fa fd) (hm : mg "_law_dip" = some (.ref fa)) (Z : Fz mg)  :
    Cal P w K mg base "_law_dip" (defArgs (top 27)) ["_law_script", "_law_k"] (k + 1) .nw (bodyM 3 fun _ => b_law_dip ) :=
  have nd : (["_law_script", "_law_k", "_law_cell"] : List Str).Nodup := sc_law_dip.nd
  Cal.mk2 F (fn_ok F sc_law_dip rfl (.inr rfl) (fun cdv A outer s H E hr => by
    conv => arg 3; whnf
    exact (s_cons (p_set (k := .fz) (i := 2) (fun z => nomatch z) nd rfl (by first | exact Or.inl rfl | exact Or.inr rfl) (e_if (t_lt (E2.bw (e_var (pv 1))) (E2.bw (e_len (by rfl) Z.len (E2.bw (e_var (pv 0)))))) (e_ix (E2.bw (e_var (pv 0))) (E2.bw (e_var (pv 1)))) e_int)) (s_one (p_ret (e_lst (d_cons (e_mul (E2.bw (e_abs (by rfl) Z.abs (E2.bw (e_var (pv 2))))) (E2.bw (e_int1 (by rfl) Z.int (E2.bw (e_ge (E2.bw (e_abs (by rfl) Z.abs (E2.bw (e_var (pv 2))))) (E2.bw (e_pow (E2.bw e_int) (E2.bw e_int)))))))) (d_cons (e_add (E2.bw (e_add (E2.bw (e_mod (E2.bw (e_var (pv 2))) (E2.bw e_int))) (E2.bw (e_mul (E2.bw e_int) (E2.bw (e_var (pv 1))))))) (E2.bw e_int)) (d_cons e_int d_nil)))))))) (fun _ _ _ _ h => h)) hm (fun _ _ _ _ _ _ us hl => match us, hl with | [_, _], _ => rfl)

theorem sc_law_take : FnScope ["_law_box", "_law_many", "_law_found", "_law_once", "_law_pair"] ["_law_box", "_law_many"] (defScope (top 28)) := ⟨rfl, rfl, rfl, by decide +kernel, rfl, by decide +kernel, by decide +kernel⟩
theorem raw_law_take {k : Nat} {fa : Addr} {fd : FuncData} (F : FunD K "_law_take" "_law_take" (defArgs (top 28)) (defBody (top 28)) (defScope (top 28)) [] [] fa fd) (hm : mg "_law_take" = some (.ref fa)) :
    Cal P w K mg base "_law_take" (defArgs (top 28)) ["_law_box", "_law_many"] (k + 1) .fz fTake :=
  have nd : (["_law_box", "_law_many", "_law_found", "_law_once", "_law_pair"] : List Str).Nodup := sc_law_take.nd
  Cal.mk2 F (ok_take F sc_law_take (fun cdv A outer s H E => ⟨_, rfl, by
    conv => arg 2; whnf
    exact (pss_cons (ps_if (pt_cmpR op_gt (pe_ix ix_list (pv 0) pe_int (fun _ _ => rfl)) pe_int (nomark _)) (pss_cons (ps_asg (pe_op op_mod (pe_ix ix_list (pv 0) pe_int (fun _ _ => rfl)) (pv 1)) (pg_name (i := 2) nd rfl (by first | exact Or.inl rfl | exact Or.inr rfl))) (pss_cons (ps_asg (pe_op op_fdivW (pe_ix ix_list (pv 0) pe_int (fun _ _ => rfl)) (pv 1)) (pg_sub (pv 0) pe_int set_list)) (pss_one (ps_ret (pv 2))))) pss_nil) (pss_cons (ps_asg (pe_op op_add (pe_ix ix_list (pv 0) pe_int (fun _ _ => rfl)) pe_int) (pg_sub (pv 0) pe_int set_list)) (pss_cons (ps_asg (pe_op op_mod (pe_op op_powB (pe_op op_add (pe_ix ix_list (pv 0) pe_int (fun _ _ => rfl)) (pe_op op_mulO pe_int (pe_ix ix_list (pv 0) pe_int (fun _ _ => rfl)))) pe_int) pe_int) (pg_name (i := 3) nd rfl (by first | exact Or.inl rfl | exact Or.inr rfl))) (pss_cons (ps_asg (pe_op op_mod (pe_op op_mulO (pe_op op_add (pe_op op_add (pv 3) (pe_ix ix_list (pv 0) pe_int (fun _ _ => rfl))) (pe_op op_fdivW (pe_ix ix_list (pv 0) pe_int (fun _ _ => rfl)) pe_int)) (pe_op op_add (pe_op op_add (pe_op op_mod (pv 3) pe_int) pe_int) (pe_ix ix_list (pv 0) pe_int (fun _ _ => rfl)))) pe_int) (pg_name (i := 4) nd rfl (by first | exact Or.inl rfl | exact Or.inr rfl))) (pss_one (ps_ret (pe_op op_mod (pe_op op_fdivW (pe_op op_mod (pe_op op_add (pe_op op_mulO (pv 4) pe_int) (pv 3)) pe_int) pe_int) (pv 1))))))))⟩)) hm (fun _ _ _ _ _ _ us hl => match us, hl with | [_, _], _ => rfl)

def b_law_folded : SM :=
  (sSeq (sSet .nw 2 (m1 dList (mSl dSlL (mVar 0) oNone (oSome (mVar 1))))) (sSeq (sFor (iEn (mSl dSlL (mVar 0) (oSome (mVar 1)) (oSome (mC (.int 63))))) (gT 2 (gsCons (gN 3) (gsCons (gN 4) gsNil))) (sSetIx 2 (m2 dMod (mVar 3) (mVar 1)) (m2 dAdd (m2 dIx (mVarO 2) (m2 dMod (mVar 3) (mVar 1))) (m2 dMul (mVar 4) (m2 dAdd (mVar 3) (mC (.int 2))))))) (sFrz 2 (sRet (mVar 2)))))
theorem sc_law_folded : FnScope ["_law_script", "_law_many", "_law_cells", "_law_k", "_law_cell"] ["_law_script", "_law_many"] (defScope (top 29)) := ⟨rfl, rfl, rfl, by decide +kernel, rfl, by decide +kernel, by decide +kernel⟩
theorem raw_law_folded {k : Nat} {fa : Addr} {fd : FuncData} (F : FunD K "_law_folded" "_law_folded" (defArgs (top 29)) (defBody (top 29)) (defScope (top 29)) [] [] fa fd) (hm : mg "_law_folded" = some (.ref fa)) (Z : Fz mg)  :
    Cal P w K mg base "_law_folded" (defArgs (top 29)) ["_law_script", "_law_many"] (k + 1) .fz (bodyM 5 fun _ => b_law_folded ) :=
  have nd : (["_law_script", "_law_many", "_law_cells", "_law_k", "_law_cell"] : List Str).Nodup := sc_law_folded.nd
  Cal.mk2 F (fn_ok F sc_law_folded rfl (.inl rfl) (fun cdv A outer s H E hr => by
    conv => arg 3; whnf
    exact (s_cons (p_set (k := .nw) (i := 2) (fun z => nomatch z) nd rfl (by first | exact Or.inl rfl | exact Or.inr rfl) (e_list (by rfl) Z.list (E2.bw (e_slL (E2.bw (e_var (pv 0))) o_none (o_some (E2.bw (e_var (pv 1)))))))) (s_cons (p_for PassesOwn.never rfl (i_enum (by rfl) Z.enumerate (E2.fz (e_slL (E2.bw (e_var (pv 0))) (o_some (E2.bw (e_var (pv 1)))) (o_some (E2.bw e_int))))) (g_tup rfl (gs_cons (g_name (i := 3) (pg_name (i := 3) nd rfl (by first | exact Or.inl rfl | exact Or.inr rfl))) (gs_cons (g_name (i := 4) (pg_name (i := 4) nd rfl (by first | exact Or.inl rfl | exact Or.inr rfl))) gs_nil))) (s_one (p_setIx (pv 2) (E2.bw (e_mod (E2.bw (e_var (pv 3))) (E2.bw (e_var (pv 1))))) (e_add (E2.bw (e_ix (e_varO (pv 2)) (E2.bw (e_mod (E2.bw (e_var (pv 3))) (E2.bw (e_var (pv 1))))))) (E2.bw (e_mul (E2.bw (e_var (pv 4))) (E2.bw (e_add (E2.bw (e_var (pv 3))) (E2.bw e_int))))))))) (s_frz 2 (s_one (p_ret (e_var (pv 2)))))))) (fun z => nomatch z)) hm (fun _ _ _ _ _ _ us hl => match us, hl with | [_, _], _ => rfl)

def b_law_of (f_law_take : FM) : SM :=
  (sRet (m2 dIx (mVar 1) (mCal 2 f_law_take (kBox 0 (kCons (m1 dLen (mVar 1)) kNil)))))
theorem sc_law_of : FnScope ["_law_box", "_law_pool"] ["_law_box", "_law_pool"] (defScope (top 31)) := ⟨rfl, rfl, rfl, by decide +kernel, rfl, by decide +kernel, by decide +kernel⟩
theorem raw_law_of {k : Nat} {fa : Addr} {fd : FuncData} {f_law_take : FM} (F : FunD K "_law_of" "_law_of" (defArgs (top 31)) (defBody (top 31)) (defScope (top 31)) [] [] fa fd) (hm : mg "_law_of" = some (.ref fa)) (Z : Fz mg) (C_law_take : Cal P w K mg base "_law_take" (defArgs (top 28)) ["_law_box", "_law_many"] k .fz f_law_take) :
    Cal P w K mg base "_law_of" (defArgs (top 31)) ["_law_box", "_law_pool"] (k + 1) .fz (bodyM 2 fun _ => b_law_of f_law_take) :=
  have nd : (["_law_box", "_law_pool"] : List Str).Nodup := sc_law_of.nd
  Cal.mk2 F (fn_ok F sc_law_of rfl (.inl rfl) (fun cdv A outer s H E hr => by
    conv => arg 3; whnf
    exact (s_one (p_ret (e_ix (E2.bw (e_var (pv 1))) (E2.bw (e_cal C_law_take hr (by rfl) (a_box (i := 0) (pv 0) (a_cons (e_len (by rfl) Z.len (E2.bw (e_var (pv 1)))) a_nil)))))))) (fun z => nomatch z)) hm (fun _ _ _ _ _ _ us hl => match us, hl with | [_, _], _ => rfl)

def b_law_row (f_law_take f_law_of : FM) : SM :=
  (sSeq (sPar3 .fz .fz .fz 2 3 4 (m2 dAdd (mC (.int 1)) (mCal 2 f_law_take (kBox 0 (kCons (mVar 1) kNil)))) (mCal 2 f_law_take (kBox 0 (kCons (mC (.int 6)) kNil))) (mCal 2 f_law_of (kBox 0 (kCons (mLst (aCons (mC (.int 0)) (aCons (mC (.int 0)) (aCons (mC (.int 1)) (aCons (mC (.int 3)) aNil))))) kNil)))) (sSeq (sPar .fz .fz 5 6 (m2 dIx (mLst (aCons (mC (.int 9)) (aCons (mC (.int 9)) (aCons (mC (.int 30)) (aCons (mC (.int 60)) (aCons (mC (.int 25)) (aCons (mC (.int 200)) aNil))))))) (mVar 3)) (m2 dIx (mLst (aCons (mC (.int 3)) (aCons (mC (.int 1)) (aCons (mC (.int 1)) (aCons (mC (.int 10)) (aCons (mC (.int 4)) (aCons (mC (.int 40)) aNil))))))) (mVar 3))) (sSeq (sPar .fz .fz 7 8 (m2 dIx (mLst (aCons (mC (.int 0)) (aCons (m1 dNeg (mC (.int 4))) (aCons (m1 dNeg (mC (.int 15))) (aCons (mC (.int 0)) (aCons (m2 dSub (m2 dPow (mC (.int 10)) (mC (.int 12))) (mC (.int 1000))) (aCons (m1 dNeg (mC (.int 100))) aNil))))))) (mVar 3)) (mIf (mT (m2 dEq (mVar 3) (mC (.int 2)))) (mCal 2 f_law_take (kBox 0 (kCons (mC (.int 6)) kNil))) (mC (.int 0)))) (sSeq (sSet .nw 9 (mLst aNil)) (sSeq (sFor (iR1 (mVar 2)) (gN 10) (sX (xMt oApp 9 (aCons (mTup (aCons (m2 dAdd (m2 dAdd (mVar 7) (m2 dMul (mVar 4) (mVar 10))) (mCal 2 f_law_take (kBox 0 (kCons (mVar 5) kNil)))) (aCons (m2 dAdd (mVar 8) (mCal 2 f_law_take (kBox 0 (kCons (mVar 6) kNil)))) aNil))) aNil)))) (sRet (m1 dTuple (mVarO 9))))))))
theorem sc_law_row : FnScope ["_law_box", "_law_most", "_law_many", "_law_way", "_law_rise", "_law_high", "_law_dear", "_law_base", "_law_toll", "_law_found", "_law_place"] ["_law_box", "_law_most"] (defScope (top 32)) := ⟨rfl, rfl, rfl, by decide +kernel, rfl, by decide +kernel, by decide +kernel⟩
theorem raw_law_row {k : Nat} {fa : Addr} {fd : FuncData} {f_law_take f_law_of : FM} (F : FunD K "_law_row" "_law_row" (defArgs (top 32)) (defBody (top 32)) (defScope (top 32)) [] [] fa fd) (hm : mg "_law_row" = some (.ref fa)) (Z : Fz mg) (C_law_take : Cal P w K mg base "_law_take" (defArgs (top 28)) ["_law_box", "_law_many"] k .fz f_law_take) (C_law_of : Cal P w K mg base "_law_of" (defArgs (top 31)) ["_law_box", "_law_pool"] k .fz f_law_of) :
    Cal P w K mg base "_law_row" (defArgs (top 32)) ["_law_box", "_law_most"] (k + 1) .fz (bodyM 11 fun _ => b_law_row f_law_take f_law_of) :=
  have nd : (["_law_box", "_law_most", "_law_many", "_law_way", "_law_rise", "_law_high", "_law_dear", "_law_base", "_law_toll", "_law_found", "_law_place"] : List Str).Nodup := sc_law_row.nd
  Cal.mk2 F (fn_ok F sc_law_row rfl (.inl rfl) (fun cdv A outer s H E hr => by
    conv => arg 3; whnf
    exact (s_cons (p_par3 (k1 := .fz) (k2 := .fz) (k3 := .fz) (i := 2) (j := 3) (l := 4) (fun z => nomatch z) (fun z => nomatch z) (fun z => nomatch z) rfl nd rfl rfl rfl (by decide) (by decide) (by decide) rfl rfl rfl (e_add (E2.bw e_int) (E2.bw (e_cal C_law_take hr (by rfl) (a_box (i := 0) (pv 0) (a_cons (e_var (pv 1)) a_nil))))) (e_cal C_law_take hr (by rfl) (a_box (i := 0) (pv 0) (a_cons e_int a_nil))) (e_cal C_law_of hr (by rfl) (a_box (i := 0) (pv 0) (a_cons (E2.fz (e_lst (d_cons e_int (d_cons e_int (d_cons e_int (d_cons e_int d_nil)))))) a_nil)))) (s_cons (p_par (k1 := .fz) (k2 := .fz) (i := 5) (j := 6) (fun z => nomatch z) (fun z => nomatch z) rfl nd rfl rfl (by decide) rfl rfl (e_ix (E2.bw (e_lst (d_cons e_int (d_cons e_int (d_cons e_int (d_cons e_int (d_cons e_int (d_cons e_int d_nil)))))))) (E2.bw (e_var (pv 3)))) (e_ix (E2.bw (e_lst (d_cons e_int (d_cons e_int (d_cons e_int (d_cons e_int (d_cons e_int (d_cons e_int d_nil)))))))) (E2.bw (e_var (pv 3))))) (s_cons (p_par (k1 := .fz) (k2 := .fz) (i := 7) (j := 8) (fun z => nomatch z) (fun z => nomatch z) rfl nd rfl rfl (by decide) rfl rfl (e_ix (E2.bw (e_lst (d_cons e_int (d_cons (e_neg (E2.bw e_int)) (d_cons (e_neg (E2.bw e_int)) (d_cons e_int (d_cons (e_sub (E2.bw (e_pow (E2.bw e_int) (E2.bw e_int))) (E2.bw e_int)) (d_cons (e_neg (E2.bw e_int)) d_nil)))))))) (E2.bw (e_var (pv 3)))) (e_if (t_eq hr (E2.bw (e_var (pv 3))) (E2.bw e_int)) (e_cal C_law_take hr (by rfl) (a_box (i := 0) (pv 0) (a_cons e_int a_nil))) e_int)) (s_cons (p_set (k := .nw) (i := 9) (fun z => nomatch z) nd rfl (by first | exact Or.inl rfl | exact Or.inr rfl) (e_lst d_nil)) (s_cons (p_for PassesOwn.never rfl (i_range1 (by rfl) Z.range (E2.bw (e_var (pv 2)))) (g_name (i := 10) (pg_name (i := 10) nd rfl (by first | exact Or.inl rfl | exact Or.inr rfl))) (s_one (p_exprX (x_app (pv 9) (d_cons (e_tup (d_cons (e_add (E2.bw (e_add (E2.bw (e_var (pv 7))) (E2.bw (e_mul (E2.bw (e_var (pv 4))) (E2.bw (e_var (pv 10))))))) (E2.bw (e_cal C_law_take hr (by rfl) (a_box (i := 0) (pv 0) (a_cons (e_var (pv 5)) a_nil))))) (d_cons (e_add (E2.bw (e_var (pv 8))) (E2.bw (e_cal C_law_take hr (by rfl) (a_box (i := 0) (pv 0) (a_cons (e_var (pv 6)) a_nil))))) d_nil))) d_nil))))) (s_one (p_ret (e_tuple (by rfl) Z.tuple (e_varO (pv 9))))))))))) (fun z => nomatch z)) hm (fun _ _ _ _ _ _ us hl => match us, hl with | [_, _], _ => rfl)

def b_law_asks (f_may_pass f_may_fall f_last f_first f_passings f_stopped_by f_shows_never f_fallings f_weighed f_turned f_never f_is_last f_is_first f_is_row f_is_order f_least_strength f_ever : FM) : SM :=
  (sHet 2 (mHL (aCons (mCal 1 f_may_pass (kPerm 0 1 [0] kNil (kCons (mVar 0) kNil))) (aCons (mCal 1 f_may_fall (kPerm 0 1 [0] kNil (kCons (mVar 0) kNil))) (aCons (mNL (mCal 1 f_last (kPerm 0 1 [0] kNil (kCons (mVar 0) kNil)))) (aCons (mNL (mCal 1 f_first (kPerm 0 1 [0] kNil (kCons (mVar 0) kNil)))) (aCons (mCal 1 f_passings (kPerm 0 1 [0] kNil (kCons (mVar 0) kNil))) aNil)))))) (hCatS 2 (mHL (aCons (mCal 1 f_fallings (kPerm 0 1 [0] kNil (kCons (mVar 0) kNil))) (aCons (mCal 1 f_weighed (kPerm 0 1 [0] kNil (kCons (mVar 0) kNil))) (aCons (mNL (mCal 1 f_turned (kPerm 0 1 [0] kNil (kCons (mVar 0) kNil)))) (aCons (mCal 1 f_never (kPerm 0 1 [0] kNil (kCons (mVar 0) kNil))) aNil))))) (hApp (mNL (mCal 2 f_stopped_by (kPerm 0 2 [1, 0] kNil (kCons (mVar 1) (kCons (mVar 0) kNil))))) (hCatS 2 (mHL (aCons (mNL (mCal 1 f_is_last (kPerm 0 1 [0] kNil (kCons (mVar 0) kNil)))) (aCons (mNL (mCal 1 f_is_first (kPerm 0 1 [0] kNil (kCons (mVar 0) kNil)))) (aCons (mNL (mCal 1 f_is_row (kPerm 0 1 [0] kNil (kCons (mVar 0) kNil)))) (aCons (mNL (mCal 2 f_is_order (kPerm 0 2 [0, 1] kNil (kCons (mVar 0) (kCons (m2 dIx (mCal 1 f_last (kCons (mVar 0) kNil)) (mC (.int 1))) kNil))))) aNil))))) (hApp (mNL (mCal 2 f_shows_never (kPerm 0 2 [1, 0] kNil (kCons (mCal 1 f_never (kCons (mVar 0) kNil)) (kCons (mVar 0) kNil))))) (hFor (iR1 (mVar 1)) (gN 3) (hCatS 2 (mHL (aCons (mNL (mCal 3 f_least_strength (kPerm 0 3 [2, 1, 0] kNil (kCons (mVar 1) (kCons (mVar 3) (kCons (mVar 0) kNil)))))) (aCons (mNL (mCal 3 f_ever (kPerm 0 3 [1, 0, 2] kNil (kCons (mVar 3) (kCons (mVar 0) (kCons (mVar 1) kNil)))))) aNil))) hNil) hRet))))))
theorem sc_law_asks : FnScope ["_law_pen", "_law_whom", "_law_found", "_law_fore"] ["_law_pen", "_law_whom"] (defScope (top 33)) := ⟨rfl, rfl, rfl, by decide +kernel, rfl, by decide +kernel, by decide +kernel⟩
theorem raw_law_asks {k : Nat} {fa : Addr} {fd : FuncData} {f_may_pass f_may_fall f_last f_first f_passings f_stopped_by f_shows_never f_fallings f_weighed f_turned f_never f_is_last f_is_first f_is_row f_is_order f_least_strength f_ever : FM} (F : FunD K "_law_asks" "_law_asks" (defArgs (top 33)) (defBody (top 33)) (defScope (top 33)) [] [] fa fd) (hm : mg "_law_asks" = some (.ref fa)) (Z : Fz mg) (C_may_pass : Cal P w K mg base "may_pass" (defArgs (top 6)) ["row"] k .nw f_may_pass) (C_may_fall : Cal P w K mg base "may_fall" (defArgs (top 7)) ["row"] k .nw f_may_fall) (C_last : Cal P w K mg base "last" (defArgs (top 10)) ["row"] k .fz f_last) (C_first : Cal P w K mg base "first" (defArgs (top 11)) ["row"] k .fz f_first) (C_passings : Cal P w K mg base "passings" (defArgs (top 13)) ["row"] k .nw f_passings) (C_stopped_by : Cal P w K mg base "stopped_by" (defArgs (top 22)) ["row", "who"] k .fz f_stopped_by) (C_shows_never : Cal P w K mg base "shows_never" (defArgs (top 19)) ["row", "thing"] k .fz f_shows_never) (C_fallings : Cal P w K mg base "fallings" (defArgs (top 14)) ["row"] k .nw f_fallings) (C_weighed : Cal P w K mg base "weighed" (defArgs (top 24)) ["row"] k .nw f_weighed) (C_turned : Cal P w K mg base "turned" (defArgs (top 25)) ["row"] k .fz f_turned) (C_never : Cal P w K mg base "never" (defArgs (top 18)) ["row"] k (.nn 2) f_never) (C_is_last : Cal P w K mg base "is_last" (defArgs (top 15)) ["row"] k .fz f_is_last) (C_is_first : Cal P w K mg base "is_first" (defArgs (top 16)) ["row"] k .fz f_is_first) (C_is_row : Cal P w K mg base "is_row" (defArgs (top 3)) ["thing"] k .fz f_is_row) (C_is_order : Cal P w K mg base "is_order" (defArgs (top 8)) ["row", "thing"] k .fz f_is_order) (C_least_strength : Cal P w K mg base "least_strength" (defArgs (top 21)) ["row", "one", "other"] k .fz f_least_strength) (C_ever : Cal P w K mg base "ever" (defArgs (top 20)) ["row", "one", "other"] k .fz f_ever) :
    Cal P w K mg base "_law_asks" (defArgs (top 33)) ["_law_pen", "_law_whom"] (k + 1) .het (bodyM 4 fun _ => b_law_asks f_may_pass f_may_fall f_last f_first f_passings f_stopped_by f_shows_never f_fallings f_weighed f_turned f_never f_is_last f_is_first f_is_row f_is_order f_least_strength f_ever) :=
  have nd : (["_law_pen", "_law_whom", "_law_found", "_law_fore"] : List Str).Nodup := sc_law_asks.nd
  Cal.mk2 F (fn_okN F sc_law_asks rfl  (fun cdv A outer s H E hr => by
    conv => arg 3; whnf
    exact (s_het (i := 2) nd rfl (by first | exact Or.inl rfl | exact Or.inr rfl) (dh_cons (ei_nw (e_calKW (ks := ["row"]) (is := [0]) C_may_pass hr (by rfl) (fun _ _ _ _ _ _ _ _ _ us ws l1 l2 => match us, ws, l1, l2 with | [], [_], _, _ => rfl) (k_cons (e_var (pv 0)) k_nil))) (dh_cons (ei_nw (e_calKW (ks := ["row"]) (is := [0]) C_may_fall hr (by rfl) (fun _ _ _ _ _ _ _ _ _ us ws l1 l2 => match us, ws, l1, l2 with | [], [_], _, _ => rfl) (k_cons (e_var (pv 0)) k_nil))) (dh_cons (ei_fz (e_calKW (ks := ["row"]) (is := [0]) C_last hr (by rfl) (fun _ _ _ _ _ _ _ _ _ us ws l1 l2 => match us, ws, l1, l2 with | [], [_], _, _ => rfl) (k_cons (e_var (pv 0)) k_nil))) (dh_cons (ei_fz (e_calKW (ks := ["row"]) (is := [0]) C_first hr (by rfl) (fun _ _ _ _ _ _ _ _ _ us ws l1 l2 => match us, ws, l1, l2 with | [], [_], _, _ => rfl) (k_cons (e_var (pv 0)) k_nil))) (dh_cons (ei_nw (e_calKW (ks := ["row"]) (is := [0]) C_passings hr (by rfl) (fun _ _ _ _ _ _ _ _ _ us ws l1 l2 => match us, ws, l1, l2 with | [], [_], _, _ => rfl) (k_cons (e_var (pv 0)) k_nil))) dh_nil))))) (h_cat (i := 2) nd rfl (by first | exact Or.inl rfl | exact Or.inr rfl) (pv 2) (dh_cons (ei_nw (e_calKW (ks := ["row"]) (is := [0]) C_fallings hr (by rfl) (fun _ _ _ _ _ _ _ _ _ us ws l1 l2 => match us, ws, l1, l2 with | [], [_], _, _ => rfl) (k_cons (e_var (pv 0)) k_nil))) (dh_cons (ei_nw (e_calKW (ks := ["row"]) (is := [0]) C_weighed hr (by rfl) (fun _ _ _ _ _ _ _ _ _ us ws l1 l2 => match us, ws, l1, l2 with | [], [_], _, _ => rfl) (k_cons (e_var (pv 0)) k_nil))) (dh_cons (ei_fz (e_calKW (ks := ["row"]) (is := [0]) C_turned hr (by rfl) (fun _ _ _ _ _ _ _ _ _ us ws l1 l2 => match us, ws, l1, l2 with | [], [_], _, _ => rfl) (k_cons (e_var (pv 0)) k_nil))) (dh_cons (ei_nn (e_calKW (ks := ["row"]) (is := [0]) C_never hr (by rfl) (fun _ _ _ _ _ _ _ _ _ us ws l1 l2 => match us, ws, l1, l2 with | [], [_], _, _ => rfl) (k_cons (e_var (pv 0)) k_nil))) dh_nil)))) (h_app (i := 2) (pv 2) (ei_fz (e_calKW (ks := ["who", "row"]) (is := [1, 0]) C_stopped_by hr (by rfl) (fun _ _ _ _ _ _ _ _ _ us ws l1 l2 => match us, ws, l1, l2 with | [], [_, _], _, _ => rfl) (k_cons (e_var (pv 1)) (k_cons (e_var (pv 0)) k_nil)))) (h_cat (i := 2) nd rfl (by first | exact Or.inl rfl | exact Or.inr rfl) (pv 2) (dh_cons (ei_fz (e_calKW (ks := ["row"]) (is := [0]) C_is_last hr (by rfl) (fun _ _ _ _ _ _ _ _ _ us ws l1 l2 => match us, ws, l1, l2 with | [], [_], _, _ => rfl) (k_cons (e_var (pv 0)) k_nil))) (dh_cons (ei_fz (e_calKW (ks := ["row"]) (is := [0]) C_is_first hr (by rfl) (fun _ _ _ _ _ _ _ _ _ us ws l1 l2 => match us, ws, l1, l2 with | [], [_], _, _ => rfl) (k_cons (e_var (pv 0)) k_nil))) (dh_cons (ei_fz (e_calKW (ks := ["thing"]) (is := [0]) C_is_row hr (by rfl) (fun _ _ _ _ _ _ _ _ _ us ws l1 l2 => match us, ws, l1, l2 with | [], [_], _, _ => rfl) (k_cons (e_var (pv 0)) k_nil))) (dh_cons (ei_fz (e_calKW (ks := ["row", "thing"]) (is := [0, 1]) C_is_order hr (by rfl) (fun _ _ _ _ _ _ _ _ _ us ws l1 l2 => match us, ws, l1, l2 with | [], [_, _], _, _ => rfl) (k_cons (e_var (pv 0)) (k_cons (e_ix (E2.bw (e_cal C_last hr (by rfl) (a_cons (e_var (pv 0)) a_nil))) (E2.bw e_int)) k_nil)))) dh_nil)))) (h_app (i := 2) (pv 2) (ei_fz (e_calKW (ks := ["thing", "row"]) (is := [1, 0]) C_shows_never hr (by rfl) (fun _ _ _ _ _ _ _ _ _ us ws l1 l2 => match us, ws, l1, l2 with | [], [_, _], _, _ => rfl) (k_cons (E2.ofN (e_cal C_never hr (by rfl) (a_cons (e_var (pv 0)) a_nil))) (k_cons (e_var (pv 0)) k_nil)))) (h_for (i := 2) PassesOwn.never rfl (i_range1 (by rfl) Z.range (E2.bw (e_var (pv 1)))) (g_name (i := 3) (pg_name (i := 3) nd rfl (by first | exact Or.inl rfl | exact Or.inr rfl))) (by decide) (h_cat (i := 2) nd rfl (by first | exact Or.inl rfl | exact Or.inr rfl) (pv 2) (dh_cons (ei_fz (e_calKW (ks := ["other", "one", "row"]) (is := [2, 1, 0]) C_least_strength hr (by rfl) (fun _ _ _ _ _ _ _ _ _ us ws l1 l2 => match us, ws, l1, l2 with | [], [_, _, _], _, _ => rfl) (k_cons (e_var (pv 1)) (k_cons (e_var (pv 3)) (k_cons (e_var (pv 0)) k_nil))))) (dh_cons (ei_fz (e_calKW (ks := ["one", "row", "other"]) (is := [1, 0, 2]) C_ever hr (by rfl) (fun _ _ _ _ _ _ _ _ _ us ws l1 l2 => match us, ws, l1, l2 with | [], [_, _, _], _, _ => rfl) (k_cons (e_var (pv 3)) (k_cons (e_var (pv 0)) (k_cons (e_var (pv 1)) k_nil))))) dh_nil)) h_nil) (h_ret (pv 2))))))))) (fun _ _ _ h => h)) hm (fun _ _ _ _ _ _ us hl => match us, hl with | [_, _], _ => rfl)

def b_law_with : SM :=
  (sSeq (sSet .fz 3 (mTup (aCons (m2 dAdd (m2 dIx (m2 dIx (mVar 0) (mVar 1)) (mC (.int 0))) (mVar 2)) (aCons (m2 dIx (m2 dIx (mVar 0) (mVar 1)) (mC (.int 1))) aNil)))) (sRet (m2 dCatT (m2 dCatT (mSl dSl (mVar 0) oNone (oSome (mVar 1))) (mTup (aCons (mVar 3) aNil))) (mSl dSl (mVar 0) (oSome (m2 dAdd (mVar 1) (mC (.int 1)))) oNone))))
theorem sc_law_with : FnScope ["_law_pen", "_law_spot", "_law_more", "_law_beast"] ["_law_pen", "_law_spot", "_law_more"] (defScope (top 34)) := ⟨rfl, rfl, rfl, by decide +kernel, rfl, by decide +kernel, by decide +kernel⟩
theorem raw_law_with {k : Nat} {fa : Addr} {fd : FuncData} (F : FunD K "_law_with" "_law_with" (defArgs (top 34)) (defBody (top 34)) (defScope (top 34)) [] [] fa fd) (hm : mg "_law_with" = some (.ref fa)) (Z : Fz mg)  :
    Cal P w K mg base "_law_with" (defArgs (top 34)) ["_law_pen", "_law_spot", "_law_more"] (k + 1) .fz (bodyM 4 fun _ => b_law_with ) :=
  have nd : (["_law_pen", "_law_spot", "_law_more", "_law_beast"] : List Str).Nodup := sc_law_with.nd
  Cal.mk2 F (fn_ok F sc_law_with rfl (.inl rfl) (fun cdv A outer s H E hr => by
    conv => arg 3; whnf
    exact (s_cons (p_set (k := .fz) (i := 3) (fun z => nomatch z) nd rfl (by first | exact Or.inl rfl | exact Or.inr rfl) (e_tup (d_cons (e_add (E2.bw (e_ix (E2.bw (e_ix (E2.bw (e_var (pv 0))) (E2.bw (e_var (pv 1))))) (E2.bw e_int))) (E2.bw (e_var (pv 2)))) (d_cons (e_ix (E2.bw (e_ix (E2.bw (e_var (pv 0))) (E2.bw (e_var (pv 1))))) (E2.bw e_int)) d_nil)))) (s_one (p_ret (e_catT (E2.bw (e_catT (E2.bw (e_sl (E2.bw (e_var (pv 0))) o_none (o_some (E2.bw (e_var (pv 1)))))) (E2.bw (e_tup (d_cons (e_var (pv 3)) d_nil))))) (E2.bw (e_sl (E2.bw (e_var (pv 0))) (o_some (E2.bw (e_add (E2.bw (e_var (pv 1))) (E2.bw e_int)))) o_none))))))) (fun z => nomatch z)) hm (fun _ _ _ _ _ _ us hl => match us, hl with | [_, _, _], _ => rfl)

def b_law_right (f_law_row f_law_with f_law_take f_law_of f_law_asks f_never f_ever : FM) : SM :=
  (sSeq (sSet .fz 1 (mCal 2 f_law_row (kBox 0 (kCons (mC (.int 24)) kNil)))) (sSeq (sSet .fz 2 (mCal 3 f_law_with (kCons (mVar 1) (kCons (mCal 2 f_law_take (kBox 0 (kCons (m1 dLen (mVar 1)) kNil))) (kCons (mCal 2 f_law_of (kBox 0 (kCons (mLst (aCons (mC (.int 1)) (aCons (mC (.int 3)) (aCons (m1 dNeg (mC (.int 2))) aNil)))) kNil))) kNil))))) (sSeq (sSet .fz 3 (mCal 2 f_law_take (kBox 0 (kCons (m1 dLen (mVar 1)) kNil)))) (sSeq (sSet .fz 4 (mTup (aCons (mVar 1) (aCons (mVar 2) aNil)))) (sSeq (sSet .fz 5 (mLc (iIt (mVar 4)) (gN 11) cYes (m1 dRepr (mCal 2 f_law_asks (kCons (mVar 11) (kCons (mVar 3) kNil)))) [11])) (sSeq (sFor (iR1 (mC (.int 6))) (gN 6) (sSeq (sSet .fz 7 (mCal 2 f_law_take (kBox 0 (kCons (mC (.int 2)) kNil)))) (sNestH 8 9 (mCal 2 f_law_asks (kCons (m2 dIx (mVar 4) (mVar 7)) (kCons (mVar 3) kNil))) (qIf (mT (m2 dNe (m1 dRepr (mVar 8)) (m2 dIx (mVar 5) (mVar 7)))) (mC (.bool false)) qNil) (sNest 10 (mCal 1 f_never (kCons (m2 dIx (mVar 4) (mVar 7)) kNil)) qNil (mMod [0] (oA (.int 99)) mEnd) (sIf (cAnd (mT (m2 dGt (mVar 3) (mC (.int 0)))) (mT (m2 dEq (mCal 3 f_ever (kCons (m2 dIx (mVar 4) (mVar 7)) (kCons (mC (.int 0)) (kCons (mVar 3) kNil)))) (m2 (dMem false) (mVar 3) (m2 dIx (mCal 1 f_never (kCons (m2 dIx (mVar 4) (mVar 7)) kNil)) (mC (.int 0))))))) (sRet (mC (.bool false))) sNext))))) (sRet (m2 dEq (m1 dRepr (mVar 4)) (m1 dRepr (mTup (aCons (mVar 1) (aCons (mVar 2) aNil))))))))))))
theorem sc_law_right : FnScope ["_law_box", "_law_pen", "_law_hind", "_law_whom", "_law_rows", "_law_due", "_law_turn", "_law_at", "_law_found", "_law_part", "_law_inner", "_law_fore"] ["_law_box"] (defScope (top 35)) := ⟨rfl, rfl, rfl, by decide +kernel, rfl, by decide +kernel, by decide +kernel⟩
theorem raw_law_right {k : Nat} {fa : Addr} {fd : FuncData} {f_law_row f_law_with f_law_take f_law_of f_law_asks f_never f_ever : FM} (F : FunD K "_law_right" "_law_right" (defArgs (top 35)) (defBody (top 35)) (defScope (top 35)) [] [] fa fd) (hm : mg "_law_right" = some (.ref fa)) (Z : Fz mg) (C_law_row : Cal P w K mg base "_law_row" (defArgs (top 32)) ["_law_box", "_law_most"] k .fz f_law_row) (C_law_with : Cal P w K mg base "_law_with" (defArgs (top 34)) ["_law_pen", "_law_spot", "_law_more"] k .fz f_law_with) (C_law_take : Cal P w K mg base "_law_take" (defArgs (top 28)) ["_law_box", "_law_many"] k .fz f_law_take) (C_law_of : Cal P w K mg base "_law_of" (defArgs (top 31)) ["_law_box", "_law_pool"] k .fz f_law_of) (C_law_asks : Cal P w K mg base "_law_asks" (defArgs (top 33)) ["_law_pen", "_law_whom"] k .het f_law_asks) (C_never : Cal P w K mg base "never" (defArgs (top 18)) ["row"] k (.nn 2) f_never) (C_ever : Cal P w K mg base "ever" (defArgs (top 20)) ["row", "one", "other"] k .fz f_ever) :
    GCal P w K mg base "_law_right" (defArgs (top 35)) ["_law_box"] (k + 1) .fz (bodyM 12 fun _ => b_law_right f_law_row f_law_with f_law_take f_law_of f_law_asks f_never f_ever) :=
  have nd : (["_law_box", "_law_pen", "_law_hind", "_law_whom", "_law_rows", "_law_due", "_law_turn", "_law_at", "_law_found", "_law_part", "_law_inner", "_law_fore"] : List Str).Nodup := sc_law_right.nd
  GCal.mk2 F (gn_ok F sc_law_right rfl rfl (fun cdv A outer s H E hgd hr => by
    conv => arg 3; whnf
    exact (s_cons (p_set (k := .fz) (i := 1) (fun z => nomatch z) nd rfl (by first | exact Or.inl rfl | exact Or.inr rfl) (e_cal C_law_row hr (by rfl) (a_box (i := 0) (pv 0) (a_cons e_int a_nil)))) (s_cons (p_set (k := .fz) (i := 2) (fun z => nomatch z) nd rfl (by first | exact Or.inl rfl | exact Or.inr rfl) (e_cal C_law_with hr (by rfl) (a_cons (e_var (pv 1)) (a_cons (e_cal C_law_take hr (by rfl) (a_box (i := 0) (pv 0) (a_cons (e_len (by rfl) Z.len (E2.bw (e_var (pv 1)))) a_nil))) (a_cons (e_cal C_law_of hr (by rfl) (a_box (i := 0) (pv 0) (a_cons (E2.fz (e_lst (d_cons e_int (d_cons e_int (d_cons (e_neg (E2.bw e_int)) d_nil))))) a_nil))) a_nil))))) (s_cons (p_set (k := .fz) (i := 3) (fun z => nomatch z) nd rfl (by first | exact Or.inl rfl | exact Or.inr rfl) (e_cal C_law_take hr (by rfl) (a_box (i := 0) (pv 0) (a_cons (e_len (by rfl) Z.len (E2.bw (e_var (pv 1)))) a_nil)))) (s_cons (p_set (k := .fz) (i := 4) (fun z => nomatch z) nd rfl (by first | exact Or.inl rfl | exact Or.inr rfl) (e_tup (d_cons (e_var (pv 1)) (d_cons (e_var (pv 2)) d_nil)))) (s_cons (p_setLc (k := .fz) (i := 5) (.inl rfl) (own := [("_law_fore", 11)]) rfl nd rfl rfl (j_seq (E2.bw (e_var (pv 4)))) (blkOk_by rfl) (fun _ _ _ _ _ => (g_name (i := 11) (pg_name (i := 11) nd rfl (by first | exact Or.inl rfl | exact Or.inr rfl)))) (fun _ _ _ _ _ => c_nil) (fun _ _ _ _ _ => (e_repr hgd hr (by rfl) Z.repr (E2.bw (e_cal C_law_asks hr (by rfl) (a_cons (e_var (pv 11)) (a_cons (e_var (pv 3)) a_nil)))))) (sw_true rfl rfl rfl (by decide +kernel))) (s_cons (p_for PassesOwn.never rfl (i_range1 (by rfl) Z.range (E2.bw e_int)) (g_name (i := 6) (pg_name (i := 6) nd rfl (by first | exact Or.inl rfl | exact Or.inr rfl))) (s_cons (p_set (k := .fz) (i := 7) (fun z => nomatch z) nd rfl (by first | exact Or.inl rfl | exact Or.inr rfl) (e_cal C_law_take hr (by rfl) (a_box (i := 0) (pv 0) (a_cons e_int a_nil)))) (s_nestH (i := 8) (j := 9) nd rfl (by first | exact Or.inl rfl | exact Or.inr rfl) (e_cal C_law_asks hr (by rfl) (a_cons (e_ix (E2.bw (e_var (pv 4))) (E2.bw (e_var (pv 7)))) (a_cons (e_var (pv 3)) a_nil))) (fun Wx tk => (q_if (t_ne hr (E2.bw (e_repr hgd hr (by rfl) Z.repr (E2.bw (e_var (pv 8))))) (E2.bw (e_ix (E2.bw (e_var (pv 5))) (E2.bw (e_var (pv 7)))))) e_bl (q_nil (m_het (i := 8) (j := 9) (w := .str "more") (by decide) PassesOwn.never rfl nd rfl (by first | exact Or.inl rfl | exact Or.inr rfl) (pv 8) (pv 9) (by rfl) Z.isinstance (pe_bltn (v := .ty "list") (by rfl) Z.list (by decide +kernel) rfl) (pv 9) (pv 9) pe_str ((s_nest (k := 2) (i := 10) nd rfl (by first | exact Or.inl rfl | exact Or.inr rfl) (e_cal C_never hr (by rfl) (a_cons (e_ix (E2.bw (e_var (pv 4))) (E2.bw (e_var (pv 7)))) a_nil)) (fun Wx tk => (q_nil (m_app (c := .int 99) (pa_ix (pa_name (pv 10))) pe_int (m_end ((s_one (p_if (W2.t (w_and (t_gt (E2.bw (e_var (pv 3))) (E2.bw e_int)) (w_and1 (t_eq hr (E2.bw (e_cal C_ever hr (by rfl) (a_cons (e_ix (E2.bw (e_var (pv 4))) (E2.bw (e_var (pv 7)))) (a_cons e_int (a_cons (e_var (pv 3)) a_nil))))) (E2.bw (e_in hr (E2.bw (e_var (pv 3))) (E2.bw (e_ix (E2.bw (e_cal C_never hr (by rfl) (a_cons (e_ix (E2.bw (e_var (pv 4))) (E2.bw (e_var (pv 7)))) a_nil))) (E2.bw e_int))))))))) (s_one (p_ret e_bl)) s_nil)).ps Wx tk)))))).ps Wx tk)))))))) (s_one (p_ret (e_eq hr (E2.bw (e_repr hgd hr (by rfl) Z.repr (E2.bw (e_var (pv 4))))) (E2.bw (e_repr hgd hr (by rfl) Z.repr (E2.bw (e_tup (d_cons (e_var (pv 1)) (d_cons (e_var (pv 2)) d_nil))))))))))))))))) hm (fun _ _ _ _ _ _ us hl => match us, hl with | [_], _ => rfl)

def b_law (f_law_folded f_law_right f_law_dip : FM) : SM :=
  (sSeq (sSet .fz 1 (mCal 2 f_law_folded (kCons (mVar 0) (kCons (mC (.int 1)) kNil)))) (sRet (m1 dAll (mLc (iR1 (m2 dMax2 (mC (.int 1)) (m1 dLen (mVar 1)))) (gN 2) cYes (mCallBx f_law_right (mCal 2 f_law_dip (kCons (mVar 1) (kCons (mVar 2) kNil)))) [2]))))
theorem sc_law : FnScope ["_law_script", "_law_cells", "_law_k"] ["_law_script"] (defScope (top 36)) := ⟨rfl, rfl, rfl, by decide +kernel, rfl, by decide +kernel, by decide +kernel⟩
end
end TL
set_option Elab.async false
set_option linter.all false
set_option maxRecDepth 100000
set_option maxHeartbeats 4000000
namespace TL
open PySem PySem.Spec PyProof.Rows L2
/-! ### comprehensions without draws -/
theorem lc_map {α : Type} {g : GM} {c : CM} {me : EM} {τw : Ev} (φ : α → D) (st : α → Ev) (p : α → Bool) (f : α → D) : ∀ (xs : List α), (∀ a ∈ xs, ∀ n R, R (st a) n → g (φ a) τw n R) → (∀ a ∈ xs, ∀ n R, R (p a) n → c (st a) n R) →
    (∀ a ∈ xs, p a = true → ∀ n R, R (f a) n → me (st a) n R) → ∀ (acc : List D) (n : Nat) (Q : D → Nat → Prop), acc.length + xs.length ≤ sizeLine → Q (.list (acc ++ (xs.filter p).map f)) n → lcD g c me τw (xs.map φ) acc n Q
  | [], _, _, _, acc, n, Q, _, q => by simpa [lcD] using q
  | a :: r, hg, hc, hm, acc, n, Q, hl, q => by
    have hl' : acc.length + (r.length + 1) ≤ sizeLine := hl
    refine hg a (by simp) n _ (hc a (by simp) n _ ?_)
    have ih := lc_map φ st p f r (fun b hb => hg b (List.mem_cons_of_mem _ hb)) (fun b hb => hc b (List.mem_cons_of_mem _ hb)) (fun b hb => hm b (List.mem_cons_of_mem _ hb))
    by_cases hp : p a = true
    · rw [if_pos hp]
      refine hm a (by simp) hp n _ ⟨by omega, ih (acc ++ [f a]) n Q (by rw [List.length_append]; simp only [List.length_cons, List.length_nil]; omega) ?_⟩
      rw [List.filter_cons_of_pos hp] at q
      simpa using q
    · rw [if_neg hp]
      refine ih acc n Q (by omega) ?_
      rw [List.filter_cons_of_neg hp] at q
      exact q
theorem rangeD_map (lo : Int) (k : Nat) : rangeD lo k = (List.range k).map fun j => .int (lo + (j : Nat)) := rfl
/-! ### _law_same -/
end TL
set_option Elab.async false
set_option linter.all false
set_option maxRecDepth 100000
set_option maxHeartbeats 4000000
namespace TL
open PySem PySem.Spec PyProof.Rows L2
theorem lk0 {α : Type} {a : α} {xs : List α} : (a :: xs)[0]? = some a := rfl
theorem sz20 : 2 ^ 20 ≤ sizeLine := by decide
/-! ### rows -/
abbrev Row := List (Int × Int)
def pairD (p : Int × Int) : D := .tuple [.int p.1, .int p.2]
def rowD (l : Row) : D := .tuple (l.map pairD)
def gR (l : Row) (j : Nat) : Int × Int := l.getD j (0, 0)
theorem atI_nat {α : Type} (xs : List α) {i : Int} (h : 0 ≤ i) : atI xs i = xs[i.toNat]? := by
  unfold atI ixN
  rw [if_pos h]
  by_cases q : i < xs.length
  · rw [if_pos q]; rfl
  · rw [if_neg q, List.getElem?_eq_none (by omega)]; rfl
@[simp] theorem atI_0 {α : Type} {x : α} {xs : List α} : atI (x :: xs) 0 = some x := by rw [atI_nat _ (Int.le_refl 0)]; rfl
@[simp] theorem atI_1 {α : Type} {x y : α} {xs : List α} : atI (x :: y :: xs) 1 = some y := by rw [atI_nat _ (by decide)]; rfl
@[simp] theorem ix_pair0 {p : Int × Int} {P : D → Prop} : dIx (pairD p) (.int 0) P ↔ P (.int p.1) := by simp [pairD]
@[simp] theorem ix_pair1 {p : Int × Int} {P : D → Prop} : dIx (pairD p) (.int 1) P ↔ P (.int p.2) := by simp [pairD]
theorem ix_row {l : Row} {i : Int} {P : D → Prop} (h0 : 0 ≤ i) (h : i < l.length) : dIx (rowD l) (.int i) P ↔ P (pairD (gR l i.toNat)) := by
  have hl : i.toNat < l.length := by omega
  simp [rowD, atI_nat _ h0, hl, gR]
@[simp] theorem len_row {l : Row} {P : D → Prop} : dLen (rowD l) P ↔ P (.int l.length) := by simp [rowD]
theorem cut_to {α : Type} {xs : List α} {i : Int} (h : 0 ≤ i) : cutG xs none (some i) = xs.take i.toNat := by
  obtain ⟨k, rfl⟩ := Int.eq_ofNat_of_zero_le h
  unfold cutG
  rw [HT.sIx_none, HT.sIx_nat]
  simp [Nat.min_comm, List.take_take]
theorem cut_from {α : Type} {xs : List α} {i : Int} (h : 0 ≤ i) : cutG xs (some i) none = xs.drop i.toNat := by
  obtain ⟨k, rfl⟩ := Int.eq_ofNat_of_zero_le h
  unfold cutG
  rw [HT.sIx_none, HT.sIx_nat]
  simp
  by_cases hk : k ≤ xs.length
  · rw [Nat.min_eq_left hk, List.take_of_length_le (by simp)]
  · rw [Nat.min_eq_right (by omega), List.drop_of_length_le (Nat.le_refl _), List.drop_of_length_le (by omega)]
    simp
theorem sl_to {l : Row} {i : Int} {P : D → Prop} (h : 0 ≤ i) : dSl (rowD l) none (some i) P ↔ P (rowD (l.take i.toNat)) := by
  simp [rowD, cut_to h]
theorem sl_from {l : Row} {i : Int} {P : D → Prop} (h : 0 ≤ i) : dSl (rowD l) (some i) none P ↔ P (rowD (l.drop i.toNat)) := by
  simp [rowD, cut_from h]
@[simp] theorem cat_row {l l' : Row} {P : D → Prop} : dCatT (rowD l) (rowD l') P ↔ l.length + l'.length ≤ sizeLine ∧ P (rowD (l ++ l')) := by simp [rowD]
theorem row1 (a b : Int) : PyData.tuple [.tuple [.int a, .int b]] = rowD [(a, b)] := rfl
@[simp] theorem gT_pair {g : GMs} {p : Int × Int} {τ : Ev} {n : Nat} {R : Ev → Nat → Prop} : gT 2 g (pairD p) τ n R ↔ g [.int p.1, .int p.2] τ n R := by simp [pairD]
/-! ### draws -/
def Fof : FM := bodyM 2 fun _ => b_law_of fTake
theorem of_ok {xs : List D} {n : Nat} {P : D → Nat → Prop} {PX : XE → Nat → Prop} (h0 : 0 < xs.length) (h1 : xs.length < 2 ^ 62) (hn : n < cap) (h : ∀ x ∈ xs, P x (n + 1)) : Fof [.box, .d (.list xs)] n P PX := by
  show bodyM 2 (fun _ => b_law_of fTake) _ _ _ _
  simp only [b_law_of, bodyM_ap, sRet_ap, m2_ap, mVar_ap, mCall_ap, kBox_ap, kCons_ap, kNil_ap, m1_ap]
  simp
  refine ⟨⟨h0, by omega⟩, hn, fun r h2 h3 => ?_⟩
  have hr : r.toNat < xs.length := by omega
  exact ⟨_, by rw [atI_nat _ h2]; exact List.getElem?_eq_getElem hr, h _ (List.getElem_mem hr)⟩
/-! ### deeds -/
def lets (l : Row) (j : Nat) : Bool := decide (0 < j) && decide ((gR l (j - 1)).1 < (gR l j).1 - (gR l (j - 1)).2)
def passed (l : Row) (j : Nat) : Row := l.take (j - 1) ++ [((gR l j).1 - (gR l (j - 1)).2, (gR l j).2), gR l (j - 1)] ++ l.drop (j + 1)
def fallen (l : Row) (j : Nat) : Row := l.take j ++ [gR l (j + 1), ((gR l j).1 + (gR l (j + 1)).2, (gR l j).2)] ++ l.drop (j + 2)
end TL
set_option Elab.async false
set_option linter.all false
set_option maxRecDepth 100000
set_option maxHeartbeats 4000000
namespace TL
open PySem PySem.Spec PyProof.Rows L2
theorem for_inv {g : GM} {b : SM} {E : En} (I : Nat → Ev → Nat → Prop) : ∀ (items : List D) (k : Nat) (τ : Ev) (n : Nat), I k τ n →
    (∀ (i : Nat) (x : D), items[i]? = some x → ∀ (τ : Ev) (n : Nat) (N : Ev → Nat → Prop), I (k + i) τ n → (∀ τ n, I (k + i + 1) τ n → N τ n) → g x τ n fun τ1 n1 => b { E with nx := N, ct := N, bk := E.nx } τ1 n1) →
    (∀ τ n, I (k + items.length) τ n → E.nx τ n) → forD items g b E τ n
  | [], k, τ, n, h0, _, hd => hd τ n h0
  | x :: r, k, τ, n, h0, hs, hd => hs 0 x rfl τ n _ h0 fun τ1 n1 h1 => for_inv I r (k + 1) τ1 n1 h1 (fun i y e τ n N h hN => hs (i + 1) y e τ n N (by rw [show k + (i + 1) = k + 1 + i by omega]; exact h) fun τ n z => hN τ n (by rw [show k + 1 + i + 1 = k + (i + 1) + 1 by omega]; exact z)) fun τ n h => hd τ n (by rw [List.length_cons, show k + (r.length + 1) = k + 1 + r.length by omega]; exact h)
/-- strengths to S either way, tolls to T -/
structure RowOk (S T : Int) (l : Row) : Prop where
  s : ∀ p ∈ l, -S ≤ p.1 ∧ p.1 ≤ S
  t : ∀ p ∈ l, 0 ≤ p.2 ∧ p.2 ≤ T
def Frow : FM := bodyM 11 fun _ => b_law_row fTake Fof
theorem mul64 {i j : Int} (h1 : -(2 ^ 63) < j) (h2 : j < 2 ^ 63) : IntMulOk i j := .of_right (intBits_le_64 (by omega) (by omega))
theorem row_loop {most : Int} {way : D} {rise high dear base toll many : Int} {n : Nat} {P : D → Nat → Prop} {PX : XE → Nat → Prop} (hr : 0 ≤ rise ∧ rise ≤ 3) (hh : 1 ≤ high ∧ high ≤ 200) (hd : 1 ≤ dear ∧ dear ≤ 40) (hb : -100 ≤ base ∧ base ≤ 10 ^ 12) (ht : 0 ≤ toll ∧ toll ≤ 5) (hm : 1 ≤ many ∧ many ≤ 64) (hn : n + 140 < cap)
    (h : ∀ l n', RowOk (2 * 10 ^ 12) 50 l → (l.length : Int) = many → n' ≤ n + 140 → P (rowD l) n') :
    forD (rangeD 0 many.toNat) (gN 10) (sX (xMt oApp 9 (aCons (mTup (aCons (m2 dAdd (m2 dAdd (mVar 7) (m2 dMul (mVar 4) (mVar 10))) (mCal 2 fTake (kBox 0 (kCons (mVar 5) kNil)))) (aCons (m2 dAdd (mVar 8) (mCal 2 fTake (kBox 0 (kCons (mVar 6) kNil)))) aNil))) aNil)))
      { nx := fun τ' n' => ∃ x, τ'[9]? = some (some (Sl.ow x)) ∧ P (PyData.tuple x) n', rt := P }
      [some Sl.box, some (Sl.d (PyData.int most)), some (Sl.d (PyData.int many)), some (Sl.d way), some (Sl.d (.int rise)), some (Sl.d (.int high)), some (Sl.d (.int dear)), some (Sl.d (.int base)), some (Sl.d (PyData.int toll)), some (Sl.ow []), none] n := by
  refine for_inv (fun i τ n' => ∃ (l : Row) (y : Option Sl), τ = [some Sl.box, some (Sl.d (PyData.int most)), some (Sl.d (PyData.int many)), some (Sl.d way), some (Sl.d (.int rise)), some (Sl.d (.int high)), some (Sl.d (.int dear)), some (Sl.d (.int base)), some (Sl.d (PyData.int toll)), some (Sl.ow (l.map pairD)), y] ∧
    RowOk (2 * 10 ^ 12) 50 l ∧ l.length = i ∧ n' ≤ n + 2 * i) _ 0 _ _ ⟨[], none, rfl, ⟨fun _ z => (nomatch z), fun _ z => (nomatch z)⟩, rfl, Nat.le_refl _⟩ ?_ ?_
  · rintro i x hx τ n1 N ⟨l, y, rfl, ok, hl, hn1⟩ hN
    rw [rangeD_get] at hx
    by_cases hi : i < many.toNat
    · rw [if_pos hi] at hx
      cases hx
      have z := sz20
      simp
      refine ⟨mul64 (by omega) (by omega), ⟨by omega, by omega⟩, by omega, fun r r1 r2 => ⟨⟨by omega, by omega⟩, by omega, fun q q1 q2 => ⟨by omega, by omega, hN _ _ ⟨l ++ [(base + rise * i + r, toll + q)], some (Sl.d (.int (i : Nat))), ?_, ⟨fun p hp => ?_, fun p hp => ?_⟩, by simp; omega, by omega⟩⟩⟩⟩
      · simp [pairD]
      · rcases List.mem_append.mp hp with hp | hp
        · exact ok.s p hp
        · have : p = (base + rise * i + r, toll + q) := by simpa using hp
          subst this
          have h0 : 0 ≤ rise * (i : Int) := Int.mul_nonneg hr.1 (by omega)
          have h3 : rise * (i : Int) ≤ 3 * 64 := Int.mul_le_mul hr.2 (by omega) (by omega) (by decide)
          constructor <;> dsimp only <;> omega
      · rcases List.mem_append.mp hp with hp | hp
        · exact ok.t p hp
        · have : p = (base + rise * i + r, toll + q) := by simpa using hp
          subst this
          constructor <;> dsimp only <;> omega
    · rw [if_neg hi] at hx
      cases hx
  · rintro τ n1 ⟨l, y, rfl, ok, hl, hn1⟩
    rw [rangeD_len] at hl hn1
    exact ⟨_, rfl, h l n1 ok (by omega) (by omega)⟩
theorem row_ok {most : Int} {n : Nat} {P : D → Nat → Prop} {PX : XE → Nat → Prop} (h1 : 1 ≤ most) (h2 : most ≤ 64) (hn : n + 200 < cap) (h : ∀ l n', RowOk (2 * 10 ^ 12) 50 l → 1 ≤ l.length → l.length ≤ most → n' ≤ n + 200 → P (rowD l) n') : Frow [.box, .d (.int most)] n P PX := by
  show bodyM 11 (fun _ => b_law_row fTake Fof) _ _ _ _
  have z := sz20
  simp [b_law_row]
  refine ⟨by omega, by omega, fun r r1 r2 => ⟨by omega, fun w w1 w2 => ⟨by omega, of_ok (by simp) (by simp) (by omega) fun x hx => ?_⟩⟩⟩
  obtain ⟨rise, rfl, hr⟩ : ∃ rise : Int, x = .int rise ∧ 0 ≤ rise ∧ rise ≤ 3 := by
    simp at hx
    rcases hx with rfl | rfl | rfl
    · exact ⟨0, rfl, by decide⟩
    · exact ⟨1, rfl, by decide⟩
    · exact ⟨3, rfl, by decide⟩
  refine ⟨by omega, ?_⟩
  have pw : CPowB 10 12 := ⟨by decide, by decide +kernel⟩
  have fin : ∀ (high dear base toll : Int) (n1 : Nat), n1 ≤ n + 4 → (1 ≤ high ∧ high ≤ 200) → (1 ≤ dear ∧ dear ≤ 40) → (-100 ≤ base ∧ base ≤ 10 ^ 12) → (0 ≤ toll ∧ toll ≤ 5) → (-4611686018427387904 ≤ 1 + r ∧ 1 + r < 4611686018427387904) ∧ forD (rangeD 0 (1 + r).toNat) (gN 10) (sX (xMt oApp 9 (aCons (mTup (aCons (m2 dAdd (m2 dAdd (mVar 7) (m2 dMul (mVar 4) (mVar 10))) (mCal 2 fTake (kBox 0 (kCons (mVar 5) kNil)))) (aCons (m2 dAdd (mVar 8) (mCal 2 fTake (kBox 0 (kCons (mVar 6) kNil)))) aNil))) aNil)))
      { nx := fun τ' n' => ∃ x, τ'[9]? = some (some (Sl.ow x)) ∧ P (PyData.tuple x) n', rt := P }
      [some Sl.box, some (Sl.d (PyData.int most)), some (Sl.d (PyData.int (1 + r))), some (Sl.d (.int w)), some (Sl.d (.int rise)), some (Sl.d (.int high)), some (Sl.d (.int dear)), some (Sl.d (.int base)), some (Sl.d (PyData.int toll)), some (Sl.ow []), none] n1 := fun high dear base toll n1 g0 g1 g2 g3 g4 =>
    ⟨by omega, row_loop (PX := PX) hr g1 g2 g3 g4 (by omega) (by omega) fun l n' a b c => h l n' a (by omega) (by omega) (by omega)⟩
  have cs : w = 0 ∨ w = 1 ∨ w = 2 ∨ w = 3 ∨ w = 4 ∨ w = 5 := by omega
  rcases cs with rfl | rfl | rfl | rfl | rfl | rfl
  · exact ⟨_, rfl, by omega, _, rfl, pw, by omega, _, rfl, .inl ⟨by decide, fin _ _ _ _ _ (by omega) (by decide) (by decide) (by decide) (by decide)⟩⟩
  · exact ⟨_, rfl, by omega, _, rfl, pw, by omega, _, rfl, .inl ⟨by decide, fin _ _ _ _ _ (by omega) (by decide) (by decide) (by decide) (by decide)⟩⟩
  · exact ⟨_, rfl, by omega, _, rfl, pw, by omega, _, rfl, .inr ⟨rfl, by omega, fun t t1 t2 => fin _ _ _ _ _ (by omega) (by decide) (by decide) (by decide) (by omega)⟩⟩
  · exact ⟨_, rfl, by omega, _, rfl, pw, by omega, _, rfl, .inl ⟨by decide, fin _ _ _ _ _ (by omega) (by decide) (by decide) (by decide) (by decide)⟩⟩
  · exact ⟨_, rfl, by omega, _, rfl, pw, by omega, _, rfl, .inl ⟨by decide, fin _ _ _ _ _ (by omega) (by decide) (by decide) (by decide) (by decide)⟩⟩
  · exact ⟨_, rfl, by omega, _, rfl, pw, by omega, _, rfl, .inl ⟨by decide, fin _ _ _ _ _ (by omega) (by decide) (by decide) (by decide) (by decide)⟩⟩
end TL
set_option Elab.async false
set_option linter.all false
set_option maxRecDepth 100000
set_option maxHeartbeats 4000000
namespace TL
open PySem PySem.Spec PyProof.Rows L2
/-! ### who passes whom: orders of numbers, tolls -/
section
variable (w t : Nat → Int)
def tolls : List Nat → (Nat → Bool) → Int
  | [], _ => 0
  | c :: A, f => (if f c = true then t c else 0) + tolls A f
def btwf (y x : Nat) : Nat → Bool := fun c => decide (y < c) && decide (c < x)
variable {t}
theorem tolls_append (A B : List Nat) (f : Nat → Bool) : tolls t (A ++ B) f = tolls t A f + tolls t B f := by
  induction A with
  | nil => simp [tolls]
  | cons c A ih => simp [tolls, ih]; omega
theorem tolls_swap (A B : List Nat) (a b : Nat) (f : Nat → Bool) : tolls t (A ++ a :: b :: B) f = tolls t (A ++ b :: a :: B) f := by
  simp [tolls_append, tolls]; omega
theorem tolls_split (A : List Nat) (a b : Nat) (hab : a < b) (ha : a ∉ A) : tolls t A (fun c => decide (c < b)) = tolls t A (fun c => decide (c < a)) + tolls t A (btwf a b) := by
  induction A with
  | nil => rfl
  | cons c A ih =>
    have h1 : a ≠ c := fun e => ha (by simp [e])
    have := ih (fun e => ha (List.mem_cons_of_mem _ e))
    simp only [tolls, this, btwf]
    by_cases c1 : c < a
    · have c2 : c < b := by omega
      have c3 : ¬ a < c := by omega
      simp [c1, c2, c3]; omega
    · by_cases c2 : c < b
      · have c3 : a < c := by omega
        simp [c1, c2, c3]; omega
      · simp [c1, c2]
theorem tolls_split' (A : List Nat) (a b : Nat) (hab : a < b) (hb : b ∉ A) : tolls t A (fun c => decide (a < c)) = tolls t A (fun c => decide (b < c)) + tolls t A (btwf a b) := by
  induction A with
  | nil => rfl
  | cons c A ih =>
    have h2 : b ≠ c := fun e => hb (by simp [e])
    simp only [tolls, ih (fun e => hb (List.mem_cons_of_mem _ e)), btwf]
    by_cases c1 : a < c
    · by_cases c2 : b < c
      · have c3 : ¬ c < b := by omega
        simp [c1, c2, c3]; omega
      · have c3 : c < b := by omega
        simp [c1, c2, c3]; omega
    · have c2 : ¬ b < c := by omega
      simp [c1, c2]
/-- whoever stands turned about has won -/
def Inv (t : Nat → Int) (o : List Nat) : Prop := ∀ (A : List Nat) (y : Nat) (B : List Nat), o = A ++ y :: B → ∀ x ∈ A, y < x → 0 < w x - w y + tolls t A (btwf y x)
variable {w}
theorem Inv.swap {A0 B0 : List Nat} {a b : Nat} (ht : ∀ c, 0 ≤ t c) (h : Inv w t (A0 ++ a :: b :: B0)) (hab : a < b) (hD : 0 < w b - w a + tolls t A0 (btwf a b)) : Inv w t (A0 ++ b :: a :: B0) := by
  intro A y B e x hx hxy
  have yb : A = A0 → y = b → 0 < w x - w y + tolls t A (btwf y x) := by
    rintro rfl rfl
    have := h (A ++ [a]) y B0 (by simp) x (by simp [hx]) hxy
    rw [tolls_append] at this
    have z : ¬ y < a := by omega
    simpa [tolls, btwf, z] using this
  rcases List.append_eq_append_iff.mp e with ⟨a', e1, e2⟩ | ⟨c', e1, e2⟩
  · cases a' with
    | nil =>
      simp at e1 e2
      exact yb e1 e2.1.symm
    | cons b' a' =>
      simp at e2
      obtain ⟨rfl, e2⟩ := e2
      cases a' with
      | nil =>
        simp at e2
        obtain ⟨rfl, rfl⟩ := e2
        subst e1
        rw [tolls_append]
        have tb := ht b
        rcases List.mem_append.mp hx with hx | hx
        · have := h A0 a (b :: B0) rfl x hx hxy
          simp only [tolls]
          split <;> omega
        · have : x = b := by simpa using hx
          subst this
          simp only [tolls]
          split <;> omega
      | cons a1 A1 =>
        simp at e2
        obtain ⟨rfl, rfl⟩ := e2
        subst e1
        rw [tolls_swap]
        exact h (A0 ++ a :: b :: A1) y B (by simp) x (by
          simp at hx ⊢
          rcases hx with hx | hx | hx | hx <;> simp [hx]) hxy
  · cases c' with
    | nil =>
      simp at e1 e2
      exact yb e1.symm e2.1
    | cons y' c' =>
      simp at e2
      obtain ⟨rfl, rfl⟩ := e2
      subst e1
      exact h A y (c' ++ a :: b :: B0) (by simp) x hx hxy
/-- turned pairs -/
def inv : List Nat → Nat
  | [] => 0
  | y :: B => (B.filter fun c => decide (c < y)).length + inv B
theorem inv_swap (A B : List Nat) {a b : Nat} (h : a < b) : inv (A ++ b :: a :: B) = inv (A ++ a :: b :: B) + 1 := by
  induction A with
  | nil =>
    have h2 : ¬ b < a := by omega
    simp [inv, h, h2]; omega
  | cons c A ih =>
    have : ((A ++ b :: a :: B).filter fun d => decide (d < c)).length = ((A ++ a :: b :: B).filter fun d => decide (d < c)).length := ((List.Perm.append_left A (List.Perm.swap a b B)).filter _).length_eq
    simp only [List.cons_append, inv, this, ih]
    omega
theorem inv_le : ∀ o : List Nat, inv o ≤ o.length * o.length
  | [] => Nat.le_refl _
  | y :: B => by
    have h1 := inv_le B
    have h2 : (B.filter fun c => decide (c < y)).length ≤ B.length := List.length_filter_le _ _
    simp only [inv, List.length_cons]
    have : (B.length + 1) * (B.length + 1) = B.length * B.length + B.length + B.length + 1 := by
      rw [Nat.add_mul, Nat.mul_add]; omega
    omega
/-- the row of an order -/
def rowG (w t : Nat → Int) (g : Nat → Nat → Bool) : List Nat → List Nat → Row
  | _, [] => []
  | A, y :: B => (w y + tolls t A (fun c => g c y), t y) :: rowG w t g (A ++ [y]) B
variable {g : Nat → Nat → Bool}
theorem rowG_length : ∀ (A X : List Nat), (rowG w t g A X).length = X.length
  | _, [] => rfl
  | A, y :: X => congrArg Nat.succ (rowG_length (A ++ [y]) X)
theorem rowG_append : ∀ (A X Y : List Nat), rowG w t g A (X ++ Y) = rowG w t g A X ++ rowG w t g (A ++ X) Y
  | A, [], Y => by simp [rowG]
  | A, y :: X, Y => by simp [rowG, rowG_append (A ++ [y]) X Y]
theorem rowG_same : ∀ (A A' X : List Nat), (∀ f, tolls t A f = tolls t A' f) → rowG w t g A X = rowG w t g A' X
  | _, _, [], _ => rfl
  | A, A', y :: X, h => by
    simp only [rowG, h]
    rw [rowG_same (A ++ [y]) (A' ++ [y]) X fun f => by rw [tolls_append, tolls_append, h f]]
end
end TL
set_option Elab.async false
set_option linter.all false
set_option maxRecDepth 100000
set_option maxHeartbeats 4000000
namespace TL
open PySem PySem.Spec PyProof.Rows L2
section
theorem gR_mid (LA LB : Row) (p : Int × Int) : gR (LA ++ p :: LB) LA.length = p := by simp [gR]
theorem gR_mid1 (LA LB : Row) (p q : Int × Int) : gR (LA ++ p :: q :: LB) (LA.length + 1) = q := by
  have := gR_mid (LA ++ [p]) LB q
  simpa using this
theorem lets_at (LA LB : Row) (p q : Int × Int) : lets (LA ++ p :: q :: LB) (LA.length + 1) = decide (p.1 < q.1 - p.2) := by
  unfold lets
  rw [gR_mid1, show LA.length + 1 - 1 = LA.length from rfl, gR_mid]
  simp
theorem passed_at (LA LB : Row) (p q : Int × Int) : passed (LA ++ p :: q :: LB) (LA.length + 1) = LA ++ (q.1 - p.2, q.2) :: p :: LB := by
  unfold passed
  rw [gR_mid1, show LA.length + 1 - 1 = LA.length from rfl, gR_mid]
  have e : LA.length + 1 + 1 - LA.length = 2 := by omega
  simp [List.drop_append, e, List.drop_of_length_le (show LA.length ≤ LA.length + 1 + 1 by omega)]
def falls (l : Row) (j : Nat) : Bool := decide ((gR l (j + 1)).1 < (gR l j).1)
theorem falls_at (LA LB : Row) (p q : Int × Int) : falls (LA ++ p :: q :: LB) LA.length = decide (q.1 < p.1) := by
  unfold falls
  rw [gR_mid1, gR_mid]
theorem fallen_at (LA LB : Row) (p q : Int × Int) : fallen (LA ++ p :: q :: LB) LA.length = LA ++ q :: (p.1 + q.2, p.2) :: LB := by
  unfold fallen
  rw [gR_mid1, gR_mid]
  simp [List.drop_append]
def gP (c y : Nat) : Bool := decide (c < y)
def gF (c y : Nat) : Bool := decide (y < c)
variable {w t : Nat → Int}
theorem rowG_two (g : Nat → Nat → Bool) (A B : List Nat) (a b : Nat) : rowG w t g [] (A ++ a :: b :: B) = rowG w t g [] A ++ (w a + tolls t A (fun c => g c a), t a) :: (w b + tolls t (A ++ [a]) (fun c => g c b), t b) :: rowG w t g (A ++ [a] ++ [b]) B := by
  rw [rowG_append]
  rfl
theorem rowG_tail (g : Nat → Nat → Bool) (A B : List Nat) (a b : Nat) : rowG w t g (A ++ [a] ++ [b]) B = rowG w t g (A ++ [b] ++ [a]) B := rowG_same _ _ _ fun f => by
  simp [tolls_append, tolls]; omega
theorem nodup_mid {A B : List Nat} {a b : Nat} (h : (A ++ a :: b :: B).Nodup) : a ∉ A ∧ b ∉ A ∧ a ≠ b := by
  rw [List.nodup_append] at h
  obtain ⟨_, h2, h3⟩ := h
  refine ⟨fun z => h3 a z a (by simp) rfl, fun z => h3 b z b (by simp) rfl, fun z => ?_⟩
  subst z
  simp at h2
theorem pass_step {A B : List Nat} {a b : Nat} (ht : ∀ c, 0 ≤ t c) (hn : (A ++ a :: b :: B).Nodup) (hI : Inv w t (A ++ a :: b :: B)) (hl : lets (rowG w t gP [] (A ++ a :: b :: B)) (A.length + 1) = true) :
    a < b ∧ Inv w t (A ++ b :: a :: B) ∧ passed (rowG w t gP [] (A ++ a :: b :: B)) (A.length + 1) = rowG w t gP [] (A ++ b :: a :: B) := by
  obtain ⟨na, nb, nab⟩ := nodup_mid hn
  have la : A.length = (rowG w t gP [] A).length := (rowG_length [] A).symm
  rw [rowG_two] at hl ⊢
  rw [la, lets_at] at hl
  rw [la, passed_at]
  have hl : w a + tolls t A (fun c => gP c a) < w b + tolls t (A ++ [a]) (fun c => gP c b) - t a := of_decide_eq_true hl
  rw [tolls_append] at hl
  rcases Nat.lt_or_gt_of_ne nab with h | h
  · have e1 : tolls t [a] (fun c => gP c b) = t a := by simp [tolls, gP, h]
    have e2 : tolls t [b] (fun c => gP c a) = 0 := by
      have : ¬ b < a := by omega
      simp [tolls, gP, this]
    have sp := tolls_split (t := t) A a b h na
    have sp : tolls t A (fun c => gP c b) = tolls t A (fun c => gP c a) + tolls t A (btwf a b) := sp
    refine ⟨h, hI.swap ht h (by omega), ?_⟩
    rw [rowG_two, rowG_tail]
    rw [tolls_append, tolls_append, e1, e2]
    have q1 : w b + (tolls t A (fun c => gP c b) + t a) - t a = w b + tolls t A (fun c => gP c b) := by omega
    have q2 : tolls t A (fun c => gP c a) + 0 = tolls t A (fun c => gP c a) := by omega
    rw [q1, q2]
  · exfalso
    have e1 : tolls t [a] (fun c => gP c b) = 0 := by
      have : ¬ a < b := by omega
      simp [tolls, gP, this]
    have sp : tolls t A (fun c => gP c a) = tolls t A (fun c => gP c b) + tolls t A (btwf b a) := tolls_split (t := t) A b a h nb
    have := hI (A ++ [a]) b B (by simp) a (by simp) h
    rw [tolls_append] at this
    have e2 : tolls t [a] (btwf b a) = 0 := by simp [tolls, btwf]
    have ta := ht a
    omega
theorem fall_step {s : Nat → Int} {A B : List Nat} {a b : Nat} (ht : ∀ c, 0 ≤ t c) (hn : (A ++ a :: b :: B).Nodup) (hI : Inv (fun c => - s c) t (A ++ a :: b :: B)) (hl : falls (rowG s t gF [] (A ++ a :: b :: B)) A.length = true) :
    a < b ∧ Inv (fun c => - s c) t (A ++ b :: a :: B) ∧ fallen (rowG s t gF [] (A ++ a :: b :: B)) A.length = rowG s t gF [] (A ++ b :: a :: B) := by
  obtain ⟨na, nb, nab⟩ := nodup_mid hn
  have la : A.length = (rowG s t gF [] A).length := (rowG_length [] A).symm
  rw [rowG_two] at hl ⊢
  rw [la, falls_at] at hl
  rw [la, fallen_at]
  have hl : s b + tolls t (A ++ [a]) (fun c => gF c b) < s a + tolls t A (fun c => gF c a) := of_decide_eq_true hl
  rw [tolls_append] at hl
  rcases Nat.lt_or_gt_of_ne nab with h | h
  · have e1 : tolls t [a] (fun c => gF c b) = 0 := by
      have : ¬ b < a := by omega
      simp [tolls, gF, this]
    have e2 : tolls t [b] (fun c => gF c a) = t b := by simp [tolls, gF, h]
    have sp : tolls t A (fun c => gF c a) = tolls t A (fun c => gF c b) + tolls t A (btwf a b) := tolls_split' (t := t) A a b h nb
    refine ⟨h, hI.swap ht h (by omega), ?_⟩
    rw [rowG_two, rowG_tail]
    rw [tolls_append, tolls_append, e1, e2]
    have q1 : tolls t A (fun c => gF c b) + 0 = tolls t A (fun c => gF c b) := by omega
    have q2 : s a + tolls t A (fun c => gF c a) + t b = s a + (tolls t A (fun c => gF c a) + t b) := by omega
    rw [q1, q2]
  · exfalso
    have e1 : tolls t [a] (fun c => gF c b) = t a := by simp [tolls, gF, h]
    have sp : tolls t A (fun c => gF c b) = tolls t A (fun c => gF c a) + tolls t A (btwf b a) := tolls_split' (t := t) A b a h na
    have := hI (A ++ [a]) b B (by simp) a (by simp) h
    rw [tolls_append] at this
    have e2 : tolls t [a] (btwf b a) = 0 := by simp [tolls, btwf]
    have ta := ht a
    dsimp only at this
    omega
theorem Inv.range (n : Nat) : Inv w t (List.range n) := by
  intro A y B e x hx hxy
  have := @List.pairwise_lt_range n
  rw [e, List.pairwise_append] at this
  have := this.2.2 x hx y (by simp)
  omega
theorem rowG_range {g : Nat → Nat → Bool} {l : Row} (hw : ∀ y, w y + tolls t (List.range y) (fun c => g c y) = (gR l y).1) (ht : ∀ y, t y = (gR l y).2) : rowG w t g [] (List.range l.length) = l := by
  have key : ∀ m i, i + m = l.length → rowG w t g (List.range i) (List.range' i m) = l.drop i := by
    intro m
    induction m with
    | zero => intro i e; rw [List.drop_of_length_le (by omega)]; rfl
    | succ m ih =>
      intro i e
      have hi : i < l.length := by omega
      rw [List.range'_succ]
      show (w i + _, t i) :: rowG w t g (List.range i ++ [i]) (List.range' (i + 1) m) = _
      rw [← List.range_succ, ih (i + 1) (by omega), hw i, ht i, show gR l i = l[i] by simp [gR, hi]]
      exact (List.drop_eq_getElem_cons hi).symm
  have := key l.length 0 (by omega)
  rw [List.range_eq_range']
  simpa using this
theorem split2 {α : Type} (o : List α) {j : Nat} (h0 : 0 < j) (hj : j < o.length) : ∃ A a b B, o = A ++ a :: b :: B ∧ j = A.length + 1 := by
  refine ⟨o.take (j - 1), o[j - 1], o[j], o.drop (j + 1), ?_, by rw [List.length_take]; omega⟩
  rw [← List.drop_eq_getElem_cons hj]
  have : o.drop j = o.drop (j - 1 + 1) := by rw [show j - 1 + 1 = j by omega]
  rw [this, ← List.drop_eq_getElem_cons (by omega), List.take_append_drop]
end
end TL
set_option Elab.async false
set_option linter.all false
set_option maxRecDepth 100000
set_option maxHeartbeats 4000000
namespace TL
open PySem PySem.Spec PyProof.Rows L2
section
variable {w t : Nat → Int}
/-- nobody may pass any more -/
def Term (w t : Nat → Int) (o : List Nat) : Prop := ∀ (A : List Nat) (a b : Nat) (B : List Nat), o = A ++ a :: b :: B → a < b → w b - w a + tolls t A (btwf a b) ≤ 0
theorem tolls_out (A B : List Nat) (m : Nat) (f : Nat → Bool) (h : f m = false) : tolls t (A ++ m :: B) f = tolls t (A ++ B) f := by
  rw [tolls_append, tolls_append]
  simp [tolls, h]
theorem tolls_btw (A : List Nat) {a b m : Nat} (hab : a < b) (hbm : b < m) (hb : b ∉ A) : tolls t A (btwf a m) = tolls t A (btwf a b) + tolls t A (btwf b m) := by
  induction A with
  | nil => rfl
  | cons c A ih =>
    have h2 : b ≠ c := fun e => hb (by simp [e])
    simp only [tolls, ih (fun e => hb (List.mem_cons_of_mem _ e)), btwf]
    by_cases c1 : c < b
    · have c2 : ¬ b < c := by omega
      have c3 : c < m := by omega
      simp [c1, c2, c3]; omega
    · have c2 : b < c := by omega
      have c3 : a < c := by omega
      simp [c1, c2, c3]; omega
theorem btw_hi {y x m : Nat} (h : x ≤ m) : btwf y x m = false := by
  have : ¬ m < x := by omega
  simp [btwf, this]
theorem Inv.drop {q1 q2 : List Nat} {m : Nat} (h : Inv w t (q1 ++ m :: q2)) (h1 : ∀ x ∈ q1 ++ q2, x < m) : Inv w t (q1 ++ q2) := by
  intro A y B e x hx hxy
  have hxm : x < m := h1 x (by rw [e]; exact List.mem_append_left _ hx)
  rcases List.append_eq_append_iff.mp e with ⟨a', e1, e2⟩ | ⟨c', e1, e2⟩
  · subst e1 e2
    have := h (q1 ++ m :: a') y B (by simp) x (by
      simp at hx ⊢
      rcases hx with hx | hx <;> simp [hx]) hxy
    rwa [tolls_out _ _ _ _ (btw_hi (by omega))] at this
  · cases c' with
    | nil =>
      simp at e1 e2
      subst e1
      have := h (q1 ++ [m]) y B (by simp [← e2]) x (by simp [hx]) hxy
      rw [tolls_out _ _ _ _ (btw_hi (by omega))] at this
      simpa using this
    | cons y' c' =>
      simp at e2
      obtain ⟨rfl, e2⟩ := e2
      subst e1
      exact h A y (c' ++ m :: q2) (by simp) x hx hxy
theorem Term.drop {q1 q2 : List Nat} {m : Nat} (hI : Inv w t (q1 ++ m :: q2)) (hT : Term w t (q1 ++ m :: q2)) (hn : (q1 ++ q2).Nodup) (h1 : ∀ x ∈ q1 ++ q2, x < m) : Term w t (q1 ++ q2) := by
  intro A a b B e hab
  have hbm : b < m := h1 b (by rw [e]; simp)
  have hbA : b ∉ A := by
    rw [e] at hn
    exact (nodup_mid hn).2.1
  rcases List.append_eq_append_iff.mp e with ⟨a', e1, e2⟩ | ⟨c', e1, e2⟩
  · subst e1 e2
    have := hT (q1 ++ m :: a') a b B (by simp) hab
    rwa [tolls_out _ _ _ _ (btw_hi (by omega))] at this
  · cases c' with
    | nil =>
      simp at e1 e2
      subst e1
      have := hT (q1 ++ [m]) a b B (by simp [← e2]) hab
      rw [tolls_out _ _ _ _ (btw_hi (by omega))] at this
      simpa using this
    | cons a1 c' =>
      simp at e2
      obtain ⟨rfl, e2⟩ := e2
      cases c' with
      | nil =>
        simp at e2
        subst e1
        rw [← e2] at hI hT
        have g1 := hT A a m (b :: B) (by simp) (by omega)
        have g2 := hI (A ++ [a, m]) b B (by simp) m (by simp) hbm
        rw [tolls_append] at g2
        have z : tolls t [a, m] (btwf b m) = 0 := by
          have : ¬ b < a := by omega
          simp [tolls, btwf, this]
        have sp := tolls_btw (t := t) A hab hbm hbA
        omega
      | cons b1 c'' =>
        simp at e2
        obtain ⟨rfl, rfl⟩ := e2
        subst e1
        exact hT A a b (c'' ++ m :: q2) (by simp) hab
theorem uniq_aux {q1 q2' a' : List Nat} {m : Nat} (hI : Inv w t (q1 ++ m :: (a' ++ q2'))) (hT : Term w t (q1 ++ a' ++ m :: q2')) (h1 : ∀ x ∈ a', x < m) : a' = [] := by
  rcases List.eq_nil_or_concat a' with rfl | ⟨a'', a, rfl⟩
  · rfl
  · exfalso
    simp only [List.concat_eq_append] at hI hT h1
    have ham : a < m := h1 a (by simp)
    have g1 := hT (q1 ++ a'') a m q2' (by simp) ham
    have g2 := hI (q1 ++ m :: a'') a q2' (by simp) m (by simp) ham
    rw [tolls_out _ _ _ _ (btw_hi (Nat.le_refl _))] at g2
    omega
theorem perm_split {n : Nat} {o : List Nat} (h : o.Perm (List.range (n + 1))) : ∃ q1 q2, o = q1 ++ n :: q2 ∧ (q1 ++ q2).Perm (List.range n) := by
  have hm : n ∈ o := h.mem_iff.mpr (by simp)
  obtain ⟨q1, q2, rfl⟩ := List.append_of_mem hm
  refine ⟨q1, q2, rfl, ?_⟩
  have h1 : (n :: (q1 ++ q2)).Perm (n :: List.range n) := (List.perm_middle.symm.trans h).trans (by
    rw [List.range_succ]
    exact List.perm_append_comm)
  exact h1.cons_inv
theorem uniq : ∀ (n : Nat) (o o' : List Nat), o.Perm (List.range n) → o'.Perm (List.range n) → Inv w t o → Inv w t o' → Term w t o → Term w t o' → o = o'
  | 0, o, o', h, h', _, _, _, _ => by
    rw [List.perm_nil.mp h, List.perm_nil.mp h']
  | n + 1, o, o', h, h', hI, hI', hT, hT' => by
    obtain ⟨q1, q2, rfl, hq⟩ := perm_split h
    obtain ⟨q1', q2', rfl, hq'⟩ := perm_split h'
    have lt : ∀ x ∈ q1 ++ q2, x < n := fun x hx => by simpa using hq.mem_iff.mp hx
    have lt' : ∀ x ∈ q1' ++ q2', x < n := fun x hx => by simpa using hq'.mem_iff.mp hx
    have e := uniq n _ _ hq hq' (hI.drop lt) (hI'.drop lt') (Term.drop hI hT (hq.nodup_iff.mpr List.nodup_range) lt) (Term.drop hI' hT' (hq'.nodup_iff.mpr List.nodup_range) lt')
    rcases List.append_eq_append_iff.mp e with ⟨a', e1, e2⟩ | ⟨a', e1, e2⟩
    · subst e1 e2
      have := uniq_aux hI hT' fun x hx => lt x (by simp [hx])
      subst this
      simp
    · subst e1 e2
      have := uniq_aux hI' hT fun x hx => lt' x (by simp [hx])
      subst this
      simp
end
end TL
set_option Elab.async false
set_option linter.all false
set_option maxRecDepth 100000
set_option maxHeartbeats 4000000
namespace TL
open PySem PySem.Spec PyProof.Rows L2
end TL
set_option Elab.async false
set_option linter.all false
set_option maxRecDepth 100000
set_option maxHeartbeats 4000000
namespace TL
open PySem PySem.Spec PyProof.Rows L2
/-! ### what == may look at -/
def Lay (n : Nat) (d : D) : Prop := d.canLay0 = true ∧ d.depth ≤ n
theorem Lay.shaped {n : Nat} {d : D} (h : Lay n d) (hn : n ≤ 64 := by decide) : SeqAt.shaped d = true := by
  unfold SeqAt.shaped
  rw [h.1]
  simp
  exact Nat.le_trans h.2 hn
theorem lay_int {n : Nat} {i : Int} : Lay n (.int i) := ⟨by simp [PyData.canLay0], by simp [PyData.depth]⟩
theorem lay_all {n : Nat} : ∀ {xs : List D}, (∀ x ∈ xs, Lay n x) → PyData.canLayAll0 xs = true ∧ PyData.depthAll xs ≤ n
  | [], _ => ⟨rfl, by simp [PyData.depthAll]⟩
  | x :: r, h => by
    have h1 := h x (by simp)
    have h2 := lay_all (xs := r) fun y hy => h y (List.mem_cons_of_mem _ hy)
    refine ⟨by simp [PyData.canLayAll0, h1.1, h2.1], ?_⟩
    simp only [PyData.depthAll]
    exact Nat.max_le.mpr ⟨h1.2, h2.2⟩
theorem lay_list {n : Nat} {xs : List D} (h : ∀ x ∈ xs, Lay n x) : Lay (n + 1) (.list xs) := ⟨by simp [PyData.canLay0, (lay_all h).1], by simp only [PyData.depth]; exact Nat.succ_le_succ (lay_all h).2⟩
theorem lay_tup {n : Nat} {xs : List D} (h : ∀ x ∈ xs, Lay n x) : Lay (n + 1) (.tuple xs) := ⟨by simp [PyData.canLay0, (lay_all h).1], by simp only [PyData.depth]; exact Nat.succ_le_succ (lay_all h).2⟩
@[simp] theorem eqv_nil {xs : List D} : PyData.eqv (.list xs) (.list []) = xs.isEmpty := by cases xs <;> simp [PyData.eqv, PyData.eqvAll]
@[simp] theorem shaped_nil : SeqAt.shaped (.list []) = true := (lay_list (n := 0) (xs := []) (fun _ z => nomatch z)).shaped
def natD (j : Nat) : D := .int (j : Int)
theorem rangeD_nat (k : Nat) : rangeD 0 k = (List.range k).map natD := by
  unfold rangeD
  exact List.map_congr_left fun j _ => by simp [natD]
@[simp] theorem ix_mid {α : Type} {f : α → D} {A : List α} {x : D} {Y : List D} {P : D → Prop} : dIx (.list (A.map f ++ x :: Y)) (.int A.length) P ↔ P x := by
  rw [dIx_L, atI_nat _ (Int.natCast_nonneg _)]
  simp
@[simp] theorem ix_mid1 {α : Type} {f : α → D} {A : List α} {x y : D} {Y : List D} {P : D → Prop} : dIx (.list (A.map f ++ x :: y :: Y)) (.int (A.length + 1)) P ↔ P y := by
  rw [dIx_L, atI_nat _ (by omega), show ((A.length : Int) + 1).toNat = A.length + 1 by omega]
  simp
@[simp] theorem atI_mid {α : Type} {f : α → D} {A : List α} {x : D} {Y : List D} : atI (A.map f ++ x :: Y) (A.length : Int) = some x := by
  rw [atI_nat _ (Int.natCast_nonneg _)]
  simp
@[simp] theorem atI_mid1 {α : Type} {f : α → D} {A : List α} {x y : D} {Y : List D} : atI (A.map f ++ x :: y :: Y) ((A.length : Int) + 1) = some y := by
  rw [atI_nat _ (by omega), show ((A.length : Int) + 1).toNat = A.length + 1 by omega]
  simp
/-! ### led to the end -/
def someP (l : Row) : List Nat := (List.range l.length).filter (lets l)
structure Ended (l l' : Row) (o : List Nat) : Prop where
  ex : ∃ w t : Nat → Int, (∀ c, 0 ≤ t c) ∧ rowG w t gP [] (List.range l.length) = l ∧ o.Perm (List.range l.length) ∧ Inv w t o ∧ l' = rowG w t gP [] o
  no : someP l' = []
theorem Ended.len {l l' : Row} {o : List Nat} (h : Ended l l' o) : l'.length = l.length := by
  obtain ⟨w, t, _, _, h3, _, h5⟩ := h.ex
  rw [h5, rowG_length, h3.length_eq, List.length_range]
end TL
set_option Elab.async false
set_option linter.all false
set_option maxRecDepth 100000
set_option maxHeartbeats 4000000
namespace TL
open PySem PySem.Spec PyProof.Rows L2
/-! ### led to the begin -/
def someF (l : Row) : List Nat := (List.range (l.length - 1)).filter (falls l)
structure Begun (l l' : Row) (o : List Nat) : Prop where
  ex : ∃ s t : Nat → Int, (∀ c, 0 ≤ t c) ∧ rowG s t gF [] (List.range l.length) = l ∧ o.Perm (List.range l.length) ∧ Inv (fun c => - s c) t o ∧ l' = rowG s t gF [] o
  no : someF l' = []
theorem Begun.len {l l' : Row} {o : List Nat} (h : Begun l l' o) : l'.length = l.length := by
  obtain ⟨w, t, _, _, h3, _, h5⟩ := h.ex
  rw [h5, rowG_length, h3.length_eq, List.length_range]
end TL
set_option Elab.async false
set_option linter.all false
set_option maxRecDepth 100000
set_option maxHeartbeats 4000000
namespace TL
open PySem PySem.Spec PyProof.Rows L2
section
variable {w t : Nat → Int}
theorem pass_iff {A : List Nat} {a b : Nat} (hab : a < b) (na : a ∉ A) : (w a + tolls t A (fun c => gP c a) < w b + tolls t (A ++ [a]) (fun c => gP c b) - t a) ↔ 0 < w b - w a + tolls t A (btwf a b) := by
  have e1 : tolls t [a] (fun c => gP c b) = t a := by simp [tolls, gP, hab]
  have sp : tolls t A (fun c => gP c b) = tolls t A (fun c => gP c a) + tolls t A (btwf a b) := tolls_split A a b hab na
  rw [tolls_append, e1, sp]
  omega
theorem fall_iff {s : Nat → Int} {A : List Nat} {a b : Nat} (hab : a < b) (nb : b ∉ A) : (s b + tolls t (A ++ [a]) (fun c => gF c b) < s a + tolls t A (fun c => gF c a)) ↔ 0 < - s b - - s a + tolls t A (btwf a b) := by
  have e1 : tolls t [a] (fun c => gF c b) = 0 := by
    have : ¬ b < a := by omega
    simp [tolls, gF, this]
  have sp : tolls t A (fun c => gF c a) = tolls t A (fun c => gF c b) + tolls t A (btwf a b) := tolls_split' A a b hab nb
  rw [tolls_append, e1, sp]
  omega
theorem lets_mid {A B : List Nat} {a b : Nat} : lets (rowG w t gP [] (A ++ a :: b :: B)) (A.length + 1) = decide (w a + tolls t A (fun c => gP c a) < w b + tolls t (A ++ [a]) (fun c => gP c b) - t a) := by
  have la : A.length = (rowG w t gP [] A).length := (rowG_length [] A).symm
  rw [rowG_two, la, lets_at]
theorem falls_mid {s : Nat → Int} {A B : List Nat} {a b : Nat} : falls (rowG s t gF [] (A ++ a :: b :: B)) A.length = decide (s b + tolls t (A ++ [a]) (fun c => gF c b) < s a + tolls t A (fun c => gF c a)) := by
  have la : A.length = (rowG s t gF [] A).length := (rowG_length [] A).symm
  rw [rowG_two, la, falls_at]
theorem term_pass {o : List Nat} (hn : o.Nodup) (h : someP (rowG w t gP [] o) = []) : Term w t o := by
  rintro A a b B rfl hab
  have hj : lets (rowG w t gP [] (A ++ a :: b :: B)) (A.length + 1) = false := by
    cases e : lets (rowG w t gP [] (A ++ a :: b :: B)) (A.length + 1) with
    | false => rfl
    | true =>
      have : A.length + 1 ∈ someP (rowG w t gP [] (A ++ a :: b :: B)) := List.mem_filter.mpr ⟨by simp [rowG_length], e⟩
      rw [h] at this
      cases this
  rw [lets_mid, decide_eq_false_iff_not, pass_iff hab (nodup_mid hn).1] at hj
  omega
theorem term_fall {s : Nat → Int} {o : List Nat} (hn : o.Nodup) (h : someF (rowG s t gF [] o) = []) : Term (fun c => - s c) t o := by
  rintro A a b B rfl hab
  have hj : falls (rowG s t gF [] (A ++ a :: b :: B)) A.length = false := by
    cases e : falls (rowG s t gF [] (A ++ a :: b :: B)) A.length with
    | false => rfl
    | true =>
      have : A.length ∈ someF (rowG s t gF [] (A ++ a :: b :: B)) := List.mem_filter.mpr ⟨by simp [rowG_length], e⟩
      rw [h] at this
      cases this
  rw [falls_mid, decide_eq_false_iff_not, fall_iff hab (nodup_mid hn).2.1] at hj
  show - s b - - s a + _ ≤ 0
  omega
end
end TL
set_option Elab.async false
set_option linter.all false
set_option maxRecDepth 100000
set_option maxHeartbeats 4000000
namespace TL
open PySem PySem.Spec PyProof.Rows L2
section
variable {w t : Nat → Int}
/-! ### one more ahead of all -/
theorem Inv.front {p : Nat} {q : List Nat} (h : Inv w t q) (hp : ∀ y ∈ q, p < y) : Inv w t (p :: q) := by
  intro A y B e x hx hxy
  cases A with
  | nil => cases hx
  | cons a A =>
    simp at e
    obtain ⟨rfl, e⟩ := e
    have hy : p < y := hp y (by rw [e]; simp)
    have hx' : x ∈ A := by
      rcases List.mem_cons.mp hx with rfl | h
      · omega
      · exact h
    have := h A y B e x hx' hxy
    have z : btwf y x p = false := by
      have : ¬ y < p := by omega
      simp [btwf, this]
    simpa [tolls, z] using this
theorem Inv.back {m : Nat} {q : List Nat} (h : Inv w t q) (hm : ∀ y ∈ q, y < m) : Inv w t (q ++ [m]) := by
  intro A y B e x hx hxy
  rcases List.append_eq_append_iff.mp e with ⟨a', e1, e2⟩ | ⟨c', e1, e2⟩
  · cases a' with
    | nil =>
      simp at e1 e2
      obtain ⟨rfl, _⟩ := e2
      subst e1
      have := hm x hx
      omega
    | cons a a' => simp at e2
  · cases c' with
    | nil =>
      simp at e1 e2
      obtain ⟨rfl, _⟩ := e2
      subst e1
      have := hm x hx
      omega
    | cons a c' =>
      simp at e2
      obtain ⟨rfl, e2⟩ := e2
      exact h A y c' e1 x hx hxy
theorem Term.front {p : Nat} {A B : List Nat} (h : Term w t (A ++ B)) (hp : ∀ y ∈ A ++ B, p < y) (hx : ∀ b B', B = b :: B' → w b - w p + tolls t A (btwf p b) ≤ 0) : Term w t (A ++ p :: B) := by
  intro A1 a b B1 e hab
  have at_ : A = A1 → p = a → b :: B1 = B → w b - w a + tolls t A1 (btwf a b) ≤ 0 := by
    rintro rfl rfl rfl
    exact hx b B1 rfl
  rcases List.append_eq_append_iff.mp e with ⟨a', e1, e2⟩ | ⟨c', e1, e2⟩
  · cases a' with
    | nil =>
      simp at e1 e2
      exact at_ e1.symm e2.1 e2.2.symm
    | cons p' a'' =>
      simp at e2
      obtain ⟨rfl, rfl⟩ := e2
      subst e1
      have := h (A ++ a'') a b B1 (by simp) hab
      rw [tolls_out]
      · exact this
      · have hpa : p < a := hp a (by simp)
        have : ¬ a < p := by omega
        simp [btwf, this]
  · cases c' with
    | nil =>
      simp at e1 e2
      exact at_ e1 e2.1.symm e2.2
    | cons a1 c' =>
      simp at e2
      obtain ⟨rfl, e2⟩ := e2
      cases c' with
      | nil =>
        simp at e2
        obtain ⟨rfl, rfl⟩ := e2
        have := hp a (by rw [e1]; simp)
        omega
      | cons b1 c'' =>
        simp at e2
        obtain ⟨rfl, rfl⟩ := e2
        subst e1
        exact h A1 a b (c'' ++ B) (by simp) hab
theorem Term.back {m : Nat} {A B : List Nat} (h : Term w t (A ++ B)) (hm : ∀ y ∈ A ++ B, y < m) (hx : ∀ A' a, A = A' ++ [a] → w m - w a + tolls t A' (btwf a m) ≤ 0) : Term w t (A ++ m :: B) := by
  intro A1 a b B1 e hab
  rcases List.append_eq_append_iff.mp e with ⟨a', e1, e2⟩ | ⟨c', e1, e2⟩
  · cases a' with
    | nil =>
      simp at e2
      obtain ⟨rfl, rfl⟩ := e2
      have := hm b (by simp)
      omega
    | cons p' a'' =>
      simp at e2
      obtain ⟨rfl, rfl⟩ := e2
      subst e1
      have := h (A ++ a'') a b B1 (by simp) hab
      rw [tolls_out]
      · exact this
      · have hb : b < m := hm b (by simp)
        exact btw_hi (by omega)
  · cases c' with
    | nil =>
      simp at e2
      obtain ⟨rfl, rfl⟩ := e2
      have := hm b (by simp)
      omega
    | cons a1 c' =>
      simp at e2
      obtain ⟨rfl, e2⟩ := e2
      cases c' with
      | nil =>
        simp at e2
        obtain ⟨rfl, rfl⟩ := e2
        exact hx A1 a e1
      | cons b1 c'' =>
        simp at e2
        obtain ⟨rfl, rfl⟩ := e2
        subst e1
        exact h A1 a b (c'' ++ B) (by simp) hab
theorem rowG_skip {g : Nat → Nat → Bool} {p : Nat} : ∀ (A C B : List Nat), (∀ y ∈ B, g p y = false) → rowG w t g (A ++ p :: C) B = rowG w t g (A ++ C) B
  | _, _, [], _ => rfl
  | A, C, y :: B, h => by
    have hy := h y (by simp)
    have ih := rowG_skip A (C ++ [y]) B fun z hz => h z (List.mem_cons_of_mem _ hz)
    simp only [rowG]
    rw [tolls_out A C p (fun c => g c y) hy, show A ++ p :: C ++ [y] = A ++ p :: (C ++ [y]) by simp, ih]
    simp
theorem rowG_ins {g : Nat → Nat → Bool} {p : Nat} {A B : List Nat} (h : ∀ y ∈ B, g p y = false) : rowG w t g [] (A ++ p :: B) = (rowG w t g [] (A ++ B)).take A.length ++ (w p + tolls t A (fun c => g c p), t p) :: (rowG w t g [] (A ++ B)).drop A.length := by
  rw [rowG_append, rowG_append]
  have hl : (rowG w t g [] A).length = A.length := rowG_length [] A
  rw [List.take_left' hl, List.drop_left' hl]
  show _ ++ (_, _) :: rowG w t g (A ++ [p]) B = _
  have := rowG_skip (w := w) (t := t) A [] B h
  rw [this]
  simp
theorem tolls_none {A : List Nat} {f : Nat → Bool} (h : ∀ c ∈ A, f c = false) : tolls t A f = 0 := by
  induction A with
  | nil => rfl
  | cons c A ih => simp [tolls, h c (by simp), ih fun d hd => h d (List.mem_cons_of_mem _ hd)]
theorem gR_range {g : Nat → Nat → Bool} {n p : Nat} (hp : p < n) : gR (rowG w t g [] (List.range n)) p = (w p + tolls t (List.range p) (fun c => g c p), t p) := by
  have e : List.range n = List.range p ++ p :: List.range' (p + 1) (n - p - 1) := by
    rw [List.range_eq_range', List.range_eq_range', show n = p + (n - p - 1 + 1) by omega, ← List.range'_append_1, List.range'_succ]
    simp
  rw [e, rowG_append]
  have hl : p = (rowG w t g [] (List.range p)).length := by rw [rowG_length, List.length_range]
  show gR (_ ++ (_, _) :: _) p = _
  conv => lhs; arg 2; rw [hl]
  rw [gR_mid]
  rfl
end
end TL
set_option Elab.async false
set_option linter.all false
set_option maxRecDepth 100000
set_option maxHeartbeats 4000000
namespace TL
section
variable {w t : Nat → Int}
theorem min_over (j : Nat) : ∀ B : List Nat, (∃ c ∈ B, j < c) → ∃ c ∈ B, j < c ∧ ∀ x ∈ B, j < x → c ≤ x
  | [], h => by obtain ⟨c, hc, _⟩ := h; cases hc
  | b :: B, h => by
    by_cases hB : ∃ c ∈ B, j < c
    · obtain ⟨c, hc, h1, h2⟩ := min_over j B hB
      by_cases hb : j < b ∧ b < c
      · refine ⟨b, by simp, hb.1, fun x hx hj => ?_⟩
        rcases List.mem_cons.mp hx with rfl | hx
        · omega
        · have := h2 x hx hj; omega
      · refine ⟨c, by simp [hc], h1, fun x hx hj => ?_⟩
        rcases List.mem_cons.mp hx with rfl | hx
        · omega
        · exact h2 x hx hj
    · obtain ⟨c, hc, hj⟩ := h
      rcases List.mem_cons.mp hc with rfl | hc
      · refine ⟨c, by simp, hj, fun x hx hjx => ?_⟩
        rcases List.mem_cons.mp hx with rfl | hx
        · omega
        · exact absurd ⟨x, hx, hjx⟩ hB
      · exact absurd ⟨c, hc, hj⟩ hB
theorem tolls_zero {A : List Nat} {f : Nat → Bool} (h : ∀ c ∈ A, f c = false) : tolls t A f = 0 := by
  induction A with
  | nil => rfl
  | cons c A ih => simp [tolls, h c (by simp), ih fun d hd => h d (List.mem_cons_of_mem _ hd)]
theorem btw_lo {y x m : Nat} (h : m ≤ y) : btwf y x m = false := by
  have : ¬ y < m := by omega
  simp [btwf, this]
theorem btw_in {y x m : Nat} (h : y < m) (h' : m < x) : btwf y x m = true := by simp [btwf, h, h']
/-- whoever was ahead and stayed so isn't passed: any two -/
theorem full_of (ht : ∀ c, 0 ≤ t c) : ∀ (m : Nat) {o : List Nat}, o.Nodup → Inv w t o → Term w t o → ∀ (A : List Nat) (i : Nat) (B : List Nat) (j : Nat) (C : List Nat), B.length ≤ m → o = A ++ i :: (B ++ j :: C) → i < j → w j - w i + tolls t A (btwf i j) ≤ 0
  | m, o, hn, hI, hT, A, i, [], j, C, hm, e, hij => hT A i j C (by simpa using e) hij
  | 0, o, hn, hI, hT, A, i, b :: B', j, C, hm, e, hij => by simp at hm
  | m + 1, o, hn, hI, hT, A, i, b :: B', j, C, hm, e, hij => by
    have nd := hn
    rw [e] at nd
    have jA : j ∉ A := by
      rw [List.nodup_append] at nd
      exact fun z => nd.2.2 j z j (by simp) rfl
    have iA : i ∉ A := by
      rw [List.nodup_append] at nd
      exact fun z => nd.2.2 i z i (by simp) rfl
    have bA : b ∉ A := by
      rw [List.nodup_append] at nd
      exact fun z => nd.2.2 b z b (by simp) rfl
    have nj : j ∉ b :: B' := fun z => by
      rw [List.nodup_append, List.nodup_cons, List.nodup_append] at nd
      exact nd.2.1.2.2.2 j z j (by simp) rfl
    have ni : i ∉ b :: B' := fun z => by
      rw [List.nodup_append, List.nodup_cons] at nd
      exact nd.2.1.1 (List.mem_append_left _ z)
    by_cases hc : ∃ c ∈ b :: B', j < c
    · obtain ⟨c, hcB, hjc, hmin⟩ := min_over j _ hc
      obtain ⟨B1, B2, eB⟩ := List.append_of_mem hcB
      have hB1 : B1.length ≤ m := by
        have := congrArg List.length eB
        simp at this hm
        omega
      have g1 := full_of ht m hn hI hT A i B1 c (B2 ++ j :: C) hB1 (by rw [e, eB]; simp) (by omega)
      have g2 := hI (A ++ i :: (b :: B')) j C (by rw [e]; simp) c (by simp; right; right; simpa using hcB) hjc
      have z : tolls t (i :: (b :: B')) (btwf j c) = 0 := tolls_zero fun x hx => by
        rcases List.mem_cons.mp hx with rfl | hx
        · exact btw_lo (by omega)
        · by_cases hjx : j < x
          · exact btw_hi (hmin x hx hjx)
          · exact btw_lo (by omega)
      rw [tolls_append, z] at g2
      have sp := tolls_btw (t := t) A hij hjc jA
      omega
    · have hbj : b < j := by
        rcases Nat.lt_trichotomy b j with h | h | h
        · exact h
        · exact absurd (by simp [h]) nj
        · exact absurd ⟨b, by simp, h⟩ hc
      have hB' : B'.length ≤ m := by simp at hm; omega
      have g1 := full_of ht m hn hI hT (A ++ [i]) b B' j C hB' (by rw [e]; simp) hbj
      rw [tolls_append] at g1
      have hib : i ≠ b := fun z => ni (by simp [z])
      rcases Nat.lt_or_gt_of_ne hib with h | h
      · have g2 := hT A i b (B' ++ j :: C) (by rw [e]; simp) h
        have z : tolls t [i] (btwf b j) = 0 := tolls_zero fun x hx => by
          have : x = i := by simpa using hx
          exact btw_lo (by omega)
        have sp := tolls_btw (t := t) A h hbj bA
        omega
      · have g2 := hI (A ++ [i]) b (B' ++ j :: C) (by rw [e]; simp) i (by simp) h
        rw [tolls_append] at g2
        have z : tolls t [i] (btwf b i) = 0 := tolls_zero fun x hx => by
          have : x = i := by simpa using hx
          exact btw_hi (by omega)
        have z2 : tolls t [i] (btwf b j) = t i := by
          simp [tolls, btw_in h hij]
        have sp := tolls_btw (t := t) A h hij iA
        have := ht i
        omega
/-- x stands ahead of y -/
def ah (o : List Nat) (x y : Nat) : Bool := decide (o.idxOf x < o.idxOf y)
theorem idx_mid {A : List Nat} {x : Nat} {B : List Nat} (h : x ∉ A) : (A ++ x :: B).idxOf x = A.length := by
  rw [List.idxOf_append, if_neg h]
  simp
theorem ah_iff {o : List Nat} (hn : o.Nodup) {A : List Nat} {y : Nat} {B : List Nat} (e : o = A ++ y :: B) {x : Nat} : ah o x y = true ↔ x ∈ A := by
  subst e
  have hy : y ∉ A := by
    rw [List.nodup_append] at hn
    exact fun z => hn.2.2 y z y (by simp) rfl
  unfold ah
  rw [idx_mid hy, decide_eq_true_eq]
  constructor
  · intro h
    by_cases hx : x ∈ A
    · exact hx
    · rw [List.idxOf_append, if_neg hx] at h
      omega
  · intro h
    rw [List.idxOf_append, if_pos h]
    exact List.idxOf_lt_length_iff.mpr h
theorem tolls_congr {A : List Nat} {f g : Nat → Bool} (h : ∀ c ∈ A, f c = g c) : tolls t A f = tolls t A g := by
  induction A with
  | nil => rfl
  | cons c A ih => simp only [tolls, h c (by simp), ih fun d hd => h d (List.mem_cons_of_mem _ hd)]
theorem tolls_permL {A B : List Nat} (h : A.Perm B) (f : Nat → Bool) : tolls t A f = tolls t B f := by
  induction h with
  | nil => rfl
  | cons x _ ih => simp only [tolls, ih]
  | swap x y l => simp only [tolls]; omega
  | trans _ _ h1 h2 => rw [h1, h2]
theorem tolls_ahead {n : Nat} {o : List Nat} (hp : o.Perm (List.range n)) {A : List Nat} {y : Nat} {B : List Nat} (e : o = A ++ y :: B) (f : Nat → Bool) : tolls t A f = tolls t (List.range n) (fun c => f c && ah o c y) := by
  have hn : o.Nodup := hp.nodup_iff.mpr List.nodup_range
  rw [← tolls_permL hp]
  have hA : ∀ c ∈ A, (f c && ah o c y) = f c := fun c hc => by rw [(ah_iff hn e).mpr hc]; simp
  have hB : ∀ c ∈ y :: B, (f c && ah o c y) = false := fun c hc => by
    cases q : ah o c y with
    | false => simp
    | true =>
      have h1 := (ah_iff hn e).mp q
      rw [e, List.nodup_append] at hn
      exact absurd rfl (hn.2.2 c h1 c hc)
  have e2 : tolls t o (fun c => f c && ah o c y) = tolls t (A ++ y :: B) (fun c => f c && ah o c y) := by rw [← e]
  rw [e2, tolls_append, tolls_congr hA, tolls_zero hB]
  omega
/-- who passes whom, by sums -/
theorem sum_law (ht : ∀ c, 0 ≤ t c) {n : Nat} {o : List Nat} (hp : o.Perm (List.range n)) (hI : Inv w t o) (hT : Term w t o) {i j : Nat} (hij : i < j) (hj : j < n) :
    ah o j i = true ↔ 0 < w j - w i + tolls t (List.range n) (fun c => btwf i j c && ah o c i) := by
  have hn : o.Nodup := hp.nodup_iff.mpr List.nodup_range
  have mi : i ∈ o := hp.mem_iff.mpr (by simp; omega)
  have mj : j ∈ o := hp.mem_iff.mpr (by simp; omega)
  obtain ⟨A, B, e⟩ := List.append_of_mem mi
  rw [← tolls_ahead hp e]
  constructor
  · intro h
    exact hI A i B e j ((ah_iff hn e).mp h) hij
  · intro h
    have hjB : j ∈ A ∨ j ∈ B := by
      rw [e] at mj
      rcases List.mem_append.mp mj with h | h
      · exact .inl h
      · rcases List.mem_cons.mp h with h | h
        · omega
        · exact .inr h
    rcases hjB with hA | hB
    · exact (ah_iff hn e).mpr hA
    · obtain ⟨B1, C, eB⟩ := List.append_of_mem hB
      have := full_of ht B1.length hn hI hT A i B1 j C (Nat.le_refl _) (by rw [e, eB]) hij
      omega
/-- there is an end -/
theorem end_ex (ht : ∀ c, 0 ≤ t c) (n : Nat) : ∀ (m : Nat) (o : List Nat), o.Perm (List.range n) → Inv w t o → n * n - inv o ≤ m → ∃ o', o'.Perm (List.range n) ∧ Inv w t o' ∧ Term w t o'
  | m, o, hp, hI, hm => by
    by_cases hT : Term w t o
    · exact ⟨o, hp, hI, hT⟩
    · have hlo : o.length = n := by rw [hp.length_eq, List.length_range]
      obtain ⟨A, a, b, B, e, hab, h⟩ : ∃ A a b B, o = A ++ a :: b :: B ∧ a < b ∧ 0 < w b - w a + tolls t A (btwf a b) := by
        apply Classical.byContradiction
        intro z
        refine hT fun A a b B e hab => ?_
        apply Classical.byContradiction
        intro h
        exact z ⟨A, a, b, B, e, hab, by omega⟩
      have hI2 : Inv w t (A ++ b :: a :: B) := (e ▸ hI).swap ht hab h
      have hp2 : (A ++ b :: a :: B).Perm (List.range n) := (List.Perm.append_left A (List.Perm.swap a b B)).trans (e ▸ hp)
      have hiv := inv_swap A B hab
      have hle := inv_le (A ++ b :: a :: B)
      have hl2 : (A ++ b :: a :: B).length = n := by rw [hp2.length_eq, List.length_range]
      rw [hl2] at hle
      rw [e] at hm
      cases m with
      | zero => omega
      | succ m => exact end_ex ht n m _ hp2 hI2 (by omega)
end
end TL
set_option Elab.async false
set_option linter.all false
set_option maxRecDepth 100000
set_option maxHeartbeats 4000000
namespace TL
section
/-! ### a row's own labels, its ends -/
def tP (l : Row) (c : Nat) : Int := (gR l c).2
def sP (l : Row) (c : Nat) : Int := (gR l c).1
def wP (l : Row) (y : Nat) : Int := sP l y - tolls (tP l) (List.range y) (fun c => gP c y)
def T0 (l : Row) : Prop := ∀ p ∈ l, 0 ≤ p.2
theorem RowOk.t0 {S T : Int} {l : Row} (h : RowOk S T l) : T0 l := fun p hp => (h.t p hp).1
theorem tP_nn {l : Row} (h : T0 l) (c : Nat) : 0 ≤ tP l c := by
  unfold tP gR
  by_cases hc : c < l.length
  · have := h l[c] (List.getElem_mem hc)
    simpa [hc] using this
  · have : l[c]? = none := List.getElem?_eq_none (by omega)
    simp [this]
theorem rowG_P (l : Row) : rowG (wP l) (tP l) gP [] (List.range l.length) = l := rowG_range (fun y => by show wP l y + _ = sP l y; unfold wP; omega) fun _ => rfl
theorem tolls_gF (t : Nat → Int) (y : Nat) : tolls t (List.range y) (fun c => gF c y) = 0 := tolls_zero fun c hc => by
  have : c < y := by simpa using hc
  have : ¬ y < c := by omega
  simp [gF, this]
theorem rowG_F (l : Row) : rowG (sP l) (tP l) gF [] (List.range l.length) = l := rowG_range (fun y => by rw [tolls_gF]; show sP l y + 0 = sP l y; omega) fun _ => rfl
theorem lab_get {w t : Nat → Int} {g : Nat → Nat → Bool} {l : Row} (h : rowG w t g [] (List.range l.length) = l) {y : Nat} (hy : y < l.length) : t y = tP l y ∧ w y + tolls t (List.range y) (fun c => g c y) = sP l y := by
  have := gR_range (w := w) (t := t) (g := g) (n := l.length) hy
  rw [h] at this
  exact ⟨by unfold tP; rw [this], by unfold sP; rw [this]⟩
theorem tolls_t {t t' : Nat → Int} {A : List Nat} {f : Nat → Bool} (h : ∀ c ∈ A, t c = t' c) : tolls t A f = tolls t' A f := by
  induction A with
  | nil => rfl
  | cons c A ih => simp only [tolls, h c (by simp), ih fun d hd => h d (List.mem_cons_of_mem _ hd)]
theorem Inv.congr {w w' t t' : Nat → Int} {o : List Nat} (h : ∀ c ∈ o, w c = w' c ∧ t c = t' c) (hI : Inv w t o) : Inv w' t' o := by
  rintro A y B rfl x hx hxy
  have := hI A y B rfl x hx hxy
  rw [(h x (by simp [hx])).1, (h y (by simp)).1, tolls_t (t' := t') fun c hc => (h c (by simp [hc])).2] at this
  exact this
theorem Term.congr {w w' t t' : Nat → Int} {o : List Nat} (h : ∀ c ∈ o, w c = w' c ∧ t c = t' c) (hI : Term w t o) : Term w' t' o := by
  rintro A a b B rfl hab
  have := hI A a b B rfl hab
  rw [(h b (by simp)).1, (h a (by simp)).1, tolls_t (t' := t') fun c hc => (h c (by simp [hc])).2] at this
  exact this
theorem rowG_congr {w w' t t' : Nat → Int} {g : Nat → Nat → Bool} : ∀ (A o : List Nat), (∀ c ∈ A ++ o, w c = w' c ∧ t c = t' c) → rowG w t g A o = rowG w' t' g A o
  | _, [], _ => rfl
  | A, y :: o, h => by
    simp only [rowG]
    rw [(h y (by simp)).1, (h y (by simp)).2, tolls_t (t' := t') fun c hc => (h c (by simp [hc])).2, rowG_congr (A ++ [y]) o fun c hc => h c (by simpa using hc)]
theorem lab_P {w t : Nat → Int} {l : Row} (h : rowG w t gP [] (List.range l.length) = l) {y : Nat} (hy : y < l.length) : w y = wP l y ∧ t y = tP l y := by
  obtain ⟨h1, h2⟩ := lab_get h hy
  refine ⟨?_, h1⟩
  unfold wP
  rw [← h2, tolls_t (t := tP l) (t' := t) fun c hc => ?_]
  · omega
  · have : c < y := by simpa using hc
    exact (lab_get h (y := c) (by omega)).1.symm
theorem lab_F {s t : Nat → Int} {l : Row} (h : rowG s t gF [] (List.range l.length) = l) {y : Nat} (hy : y < l.length) : s y = sP l y ∧ t y = tP l y := by
  obtain ⟨h1, h2⟩ := lab_get h hy
  rw [tolls_gF] at h2
  exact ⟨by omega, h1⟩
theorem lastO_ex {l : Row} (h : T0 l) : ∃ o, o.Perm (List.range l.length) ∧ Inv (wP l) (tP l) o ∧ Term (wP l) (tP l) o := end_ex (tP_nn h) l.length _ _ (List.Perm.refl _) (Inv.range _) (Nat.le_refl _)
theorem firstO_ex {l : Row} (h : T0 l) : ∃ o, o.Perm (List.range l.length) ∧ Inv (fun c => - sP l c) (tP l) o ∧ Term (fun c => - sP l c) (tP l) o := end_ex (tP_nn h) l.length _ _ (List.Perm.refl _) (Inv.range _) (Nat.le_refl _)
open Classical in
noncomputable def lastO (l : Row) : List Nat := if h : T0 l then Classical.choose (lastO_ex h) else List.range l.length
open Classical in
noncomputable def firstO (l : Row) : List Nat := if h : T0 l then Classical.choose (firstO_ex h) else List.range l.length
noncomputable def lastR (l : Row) : Row := rowG (wP l) (tP l) gP [] (lastO l)
noncomputable def firstR (l : Row) : Row := rowG (sP l) (tP l) gF [] (firstO l)
theorem lastO_spec {l : Row} (h : T0 l) : (lastO l).Perm (List.range l.length) ∧ Inv (wP l) (tP l) (lastO l) ∧ Term (wP l) (tP l) (lastO l) := by
  unfold lastO
  rw [dif_pos h]
  exact Classical.choose_spec (lastO_ex h)
theorem firstO_spec {l : Row} (h : T0 l) : (firstO l).Perm (List.range l.length) ∧ Inv (fun c => - sP l c) (tP l) (firstO l) ∧ Term (fun c => - sP l c) (tP l) (firstO l) := by
  unfold firstO
  rw [dif_pos h]
  exact Classical.choose_spec (firstO_ex h)
theorem lastO_len {l : Row} (h : T0 l) : (lastO l).length = l.length := by rw [(lastO_spec h).1.length_eq, List.length_range]
theorem firstO_len {l : Row} (h : T0 l) : (firstO l).length = l.length := by rw [(firstO_spec h).1.length_eq, List.length_range]
theorem lastR_len {l : Row} (h : T0 l) : (lastR l).length = l.length := by unfold lastR; rw [rowG_length, lastO_len h]
theorem firstR_len {l : Row} (h : T0 l) : (firstR l).length = l.length := by unfold firstR; rw [rowG_length, firstO_len h]
theorem last_uniq {l : Row} (h : T0 l) {w t : Nat → Int} {o : List Nat} (hr : rowG w t gP [] (List.range l.length) = l) (hp : o.Perm (List.range l.length)) (hI : Inv w t o) (hT : Term w t o) : o = lastO l ∧ rowG w t gP [] o = lastR l := by
  have hc : ∀ c ∈ o, w c = wP l c ∧ t c = tP l c := fun c hc => lab_P hr (by simpa using hp.mem_iff.mp hc)
  obtain ⟨p2, I2, T2⟩ := lastO_spec h
  have e := uniq _ _ _ hp p2 (hI.congr hc) I2 (hT.congr hc) T2
  refine ⟨e, ?_⟩
  unfold lastR
  rw [← e]
  exact rowG_congr [] o (by simpa using hc)
theorem first_uniq {l : Row} (h : T0 l) {s t : Nat → Int} {o : List Nat} (hr : rowG s t gF [] (List.range l.length) = l) (hp : o.Perm (List.range l.length)) (hI : Inv (fun c => - s c) t o) (hT : Term (fun c => - s c) t o) : o = firstO l ∧ rowG s t gF [] o = firstR l := by
  have hc : ∀ c ∈ o, s c = sP l c ∧ t c = tP l c := fun c hc => lab_F hr (by simpa using hp.mem_iff.mp hc)
  have hc' : ∀ c ∈ o, - s c = - sP l c ∧ t c = tP l c := fun c h => ⟨by rw [(hc c h).1], (hc c h).2⟩
  obtain ⟨p2, I2, T2⟩ := firstO_spec h
  have e := uniq _ _ _ hp p2 (hI.congr hc') I2 (hT.congr hc') T2
  refine ⟨e, ?_⟩
  unfold firstR
  rw [← e]
  exact rowG_congr [] o (by simpa using hc)
/-! ### who never passes whom: the sums of never -/
def barN (l : Row) (i : Nat) : Nat → Int
  | 0 => (gR l i).1 + (gR l i).2
  | k + 1 => if (gR l (i + 1 + k)).1 ≤ barN l i k then barN l i k + (gR l (i + 1 + k)).2 else barN l i k
/-- j passes i -/
def Pv (l : Row) (i j : Nat) : Bool := decide (barN l i (j - (i + 1)) < (gR l j).1)
theorem tolls_not (t : Nat → Int) (A : List Nat) (f : Nat → Bool) : tolls t A (fun _ => true) = tolls t A f + tolls t A (fun c => !f c) := by
  induction A with
  | nil => rfl
  | cons c A ih =>
    simp only [tolls, ih]
    by_cases h : f c = true
    · simp [h]; omega
    · have h : f c = false := by simpa using h
      simp [h]; omega
theorem barN_eq (l : Row) (i : Nat) : ∀ k, barN l i k = sP l i + tP l i + tolls (tP l) (List.range' (i + 1) k) (fun c => !Pv l i c)
  | 0 => by simp [barN, tolls, sP, tP]
  | k + 1 => by
    rw [List.range'_1_concat, tolls_append, barN, barN_eq l i k]
    have e : Pv l i (i + 1 + k) = decide (barN l i k < (gR l (i + 1 + k)).1) := by
      unfold Pv
      rw [show i + 1 + k - (i + 1) = k by omega]
    rw [barN_eq l i k] at e
    simp only [tolls, e]
    by_cases h : (gR l (i + 1 + k)).1 ≤ sP l i + tP l i + tolls (tP l) (List.range' (i + 1) k) (fun c => !Pv l i c)
    · have h2 : ¬ sP l i + tP l i + tolls (tP l) (List.range' (i + 1) k) (fun c => !Pv l i c) < (gR l (i + 1 + k)).1 := by omega
      rw [if_pos h, decide_eq_false h2]
      simp [tP]
      omega
    · have h2 : sP l i + tP l i + tolls (tP l) (List.range' (i + 1) k) (fun c => !Pv l i c) < (gR l (i + 1 + k)).1 := by omega
      simp [h, h2]
theorem tolls_mid (t : Nat → Int) {n i j : Nat} (hij : i < j) (hj : j < n) (f : Nat → Bool) : tolls t (List.range n) (fun c => btwf i j c && f c) = tolls t (List.range' (i + 1) (j - (i + 1))) f := by
  have e : List.range n = List.range' 0 (i + 1) ++ (List.range' (i + 1) (j - (i + 1)) ++ List.range' j (n - j)) := by
    have e1 : List.range' (i + 1) (j - (i + 1)) ++ List.range' j (n - j) = List.range' (i + 1) (n - (i + 1)) := by
      have := @List.range'_append_1 (i + 1) (j - (i + 1)) (n - j)
      rw [show i + 1 + (j - (i + 1)) = j by omega] at this
      rw [this]
      congr 1
      omega
    have e2 := @List.range'_append_1 0 (i + 1) (n - (i + 1))
    rw [Nat.zero_add] at e2
    rw [e1, e2, List.range_eq_range']
    congr 1
    omega
  have z1 : tolls t (List.range' 0 (i + 1)) (fun c => btwf i j c && f c) = 0 := tolls_zero fun c hc => by
    rw [List.mem_range'_1] at hc
    rw [btw_lo (by omega)]; rfl
  have z2 : tolls t (List.range' j (n - j)) (fun c => btwf i j c && f c) = 0 := tolls_zero fun c hc => by
    rw [List.mem_range'_1] at hc
    rw [btw_hi (by omega)]; rfl
  have z3 : tolls t (List.range' (i + 1) (j - (i + 1))) (fun c => btwf i j c && f c) = tolls t (List.range' (i + 1) (j - (i + 1))) f := tolls_congr fun c hc => by
    rw [List.mem_range'_1] at hc
    rw [btw_in (by omega) (by omega)]; rfl
  rw [e, tolls_append, tolls_append, z1, z2, z3]
  omega
theorem tolls_all (t : Nat → Int) (y : Nat) : tolls t (List.range y) (fun c => gP c y) = tolls t (List.range y) (fun _ => true) := tolls_congr fun c hc => by
  have : c < y := by simpa using hc
  simp [gP, this]
theorem tolls_range (t : Nat → Int) {i j : Nat} (hij : i < j) : tolls t (List.range j) (fun _ => true) = tolls t (List.range i) (fun _ => true) + t i + tolls t (List.range' (i + 1) (j - (i + 1))) (fun _ => true) := by
  have e : List.range j = List.range i ++ (i :: List.range' (i + 1) (j - (i + 1))) := by
    rw [← List.range'_succ, List.range_eq_range', List.range_eq_range', show List.range' i (j - (i + 1) + 1) = List.range' (0 + i) (j - (i + 1) + 1) by rw [Nat.zero_add], List.range'_append_1]
    congr 1
    omega
  rw [e, tolls_append]
  simp only [tolls]
  simp
  omega
theorem wP_diff (l : Row) {i j : Nat} (hij : i < j) : wP l j - wP l i = sP l j - sP l i - tP l i - tolls (tP l) (List.range' (i + 1) (j - (i + 1))) (fun _ => true) := by
  unfold wP
  rw [tolls_all, tolls_all, tolls_range (tP l) hij]
  omega
theorem ah_Pv {l : Row} (h : T0 l) {i : Nat} : ∀ (j : Nat), i < j → j < l.length → ah (lastO l) j i = Pv l i j := by
  intro j
  induction j using Nat.strongRecOn with
  | ind j ih =>
    intro hij hj
    obtain ⟨hp, hI, hT⟩ := lastO_spec h
    have key := sum_law (tP_nn h) hp hI hT hij hj
    rw [tolls_mid _ hij hj, wP_diff l hij] at key
    have e : tolls (tP l) (List.range' (i + 1) (j - (i + 1))) (fun c => ah (lastO l) c i) = tolls (tP l) (List.range' (i + 1) (j - (i + 1))) (fun c => Pv l i c) := tolls_congr fun c hc => by
      rw [List.mem_range'_1] at hc
      exact ih c (by omega) (by omega) (by omega)
    rw [e, tolls_not (tP l) _ (fun c => Pv l i c)] at key
    unfold Pv
    rw [barN_eq]
    rw [Bool.eq_iff_iff, key, decide_eq_true_eq]
    show _ ↔ _ < sP l j
    constructor <;> intro h <;> omega
end
end TL
set_option Elab.async false
set_option linter.all false
set_option maxRecDepth 100000
set_option maxHeartbeats 4000000
namespace TL
section
/-! ### lists of pairs, rising -/
def pairsU (n : Nat) (f : Nat → Nat → Bool) : List (Nat × Nat) := (List.range n).flatMap fun i => ((List.range (n - (i + 1))).filter fun j => f i (i + 1 + j)).map fun j => (i, i + 1 + j)
theorem mem_pairsU {n : Nat} {f : Nat → Nat → Bool} {p : Nat × Nat} : p ∈ pairsU n f ↔ p.1 < p.2 ∧ p.2 < n ∧ f p.1 p.2 = true := by
  unfold pairsU
  simp only [List.mem_flatMap, List.mem_range, List.mem_map, List.mem_filter]
  constructor
  · rintro ⟨i, hi, j, ⟨hj, hf⟩, rfl⟩
    exact ⟨by dsimp only; omega, by dsimp only; omega, hf⟩
  · rintro ⟨h1, h2, h3⟩
    refine ⟨p.1, by omega, p.2 - (p.1 + 1), ⟨by omega, ?_⟩, ?_⟩
    · rw [show p.1 + 1 + (p.2 - (p.1 + 1)) = p.2 by omega]; exact h3
    · rw [show p.1 + 1 + (p.2 - (p.1 + 1)) = p.2 by omega]
theorem flatMap_cong {α β : Type} {l : List α} {f g : α → List β} (h : ∀ a ∈ l, f a = g a) : l.flatMap f = l.flatMap g := by
  induction l with
  | nil => rfl
  | cons a l ih => rw [List.flatMap_cons, List.flatMap_cons, h a (by simp), ih fun b hb => h b (List.mem_cons_of_mem _ hb)]
theorem pairsU_congr {n : Nat} {f g : Nat → Nat → Bool} (h : ∀ i j, i < j → j < n → f i j = g i j) : pairsU n f = pairsU n g := by
  unfold pairsU
  have : ∀ i ∈ List.range n, ((List.range (n - (i + 1))).filter fun j => f i (i + 1 + j)).map (fun j => (i, i + 1 + j)) = ((List.range (n - (i + 1))).filter fun j => g i (i + 1 + j)).map fun j => (i, i + 1 + j) := fun i hi => by
    congr 1
    refine List.filter_congr fun j hj => ?_
    have h1 : i < n := by simpa using hi
    have h2 : j < n - (i + 1) := by simpa using hj
    rw [h i (i + 1 + j) (by omega) (by omega)]
  exact flatMap_cong this
/-- sorted lists of the same things are one -/
theorem sorted_uniq {α : Type} {R : α → α → Prop} (as : ∀ x y, R x y → R y x → x = y) : ∀ {l m : List α}, l.Perm m → l.Pairwise R → m.Pairwise R → l = m
  | [], m, h, _, _ => (List.nil_perm.mp h).symm
  | x :: l, [], h, _, _ => absurd h.length_eq (by simp)
  | x :: l, y :: m, h, hl, hm => by
    rw [List.pairwise_cons] at hl hm
    have e : x = y := by
      have h1 : x ∈ y :: m := h.mem_iff.mp (by simp)
      have h2 : y ∈ x :: l := h.mem_iff.mpr (by simp)
      rcases List.mem_cons.mp h1 with e | h1
      · exact e
      · rcases List.mem_cons.mp h2 with e | h2
        · exact e.symm
        · exact as _ _ (hl.1 y h2) (hm.1 x h1)
    subst e
    rw [sorted_uniq as h.cons_inv hl.2 hm.2]
/-- who passes whom till the last -/
def passL (l : Row) : List (Nat × Nat) := pairsU l.length (Pv l)
theorem passL_eq {l : Row} (h : T0 l) : (pairsU l.length fun i j => ah (lastO l) j i) = passL l := pairsU_congr fun i j hij hj => ah_Pv h j hij hj
end
end TL
set_option Elab.async false
set_option linter.all false
set_option maxRecDepth 100000
set_option maxHeartbeats 4000000
namespace TL
section
/-! ### stronger ones, dearer ones -/
theorem barN_same {l l' : Row} {i : Nat} (h0 : gR l' i = gR l i) : ∀ (k : Nat), (∀ j, i < j → j < i + 1 + k → gR l' j = gR l j) → barN l' i k = barN l i k
  | 0, _ => by simp [barN, h0]
  | k + 1, h => by
    have ih := barN_same h0 k fun j h1 h2 => h j h1 (by omega)
    simp only [barN, ih, h (i + 1 + k) (by omega) (by omega)]
theorem gR_t0 {l : Row} (h : T0 l) (j : Nat) : 0 ≤ (gR l j).2 := tP_nn h j
end
end TL
set_option Elab.async false
set_option linter.all false
set_option maxRecDepth 100000
set_option maxHeartbeats 4000000
namespace TL
open PySem PySem.Spec PyProof.Rows L2
/-! ### led on by deeds -/
def swapO (o : List Nat) (j : Nat) : List Nat := o.take j ++ [o.getD (j + 1) 0, o.getD j 0] ++ o.drop (j + 2)
inductive Led (l : Row) : Row → List Nat → List (Bool × Nat) → Prop
  | nil : Led l l (List.range l.length) []
  | pass {l' : Row} {o : List Nat} {ds : List (Bool × Nat)} {j : Nat} : Led l l' o ds → 0 < j → j < l'.length → lets l' j = true → Led l (passed l' j) (swapO o (j - 1)) (ds ++ [(true, j)])
  | fall {l' : Row} {o : List Nat} {ds : List (Bool × Nat)} {j : Nat} : Led l l' o ds → j + 1 < l'.length → falls l' j = true → Led l (fallen l' j) (swapO o j) (ds ++ [(false, j)])
theorem passed_len {l : Row} {j : Nat} (h0 : 0 < j) (hj : j < l.length) : (passed l j).length = l.length := by simp [passed]; omega
theorem fallen_len {l : Row} {j : Nat} (hj : j + 1 < l.length) : (fallen l j).length = l.length := by simp [fallen]; omega
theorem swapO_len {o : List Nat} {j : Nat} (hj : j + 1 < o.length) : (swapO o j).length = o.length := by simp [swapO]; omega
theorem Led.len {l l' : Row} {o : List Nat} {ds : List (Bool × Nat)} (h : Led l l' o ds) : l'.length = l.length ∧ o.length = l.length := by
  induction h with
  | nil => simp
  | pass _ h0 hj _ ih => exact ⟨by rw [passed_len h0 hj]; exact ih.1, by rw [swapO_len (by omega)]; exact ih.2⟩
  | fall _ hj _ ih => exact ⟨by rw [fallen_len hj]; exact ih.1, by rw [swapO_len (by omega)]; exact ih.2⟩
theorem gR_mem {l : Row} {j : Nat} (h : j < l.length) : gR l j ∈ l := by simp [gR, h]
theorem RowOk.passed {S T : Int} {l : Row} {j : Nat} (ok : RowOk S T l) (h0 : 0 < j) (hj : j < l.length) (hl : lets l j = true) : RowOk S T (passed l j) := by
  have m1 := gR_mem hj
  have m2 := gR_mem (l := l) (j := j - 1) (by omega)
  have s1 := ok.s _ m1
  have s2 := ok.s _ m2
  have t1 := ok.t _ m1
  have t2 := ok.t _ m2
  have hl' : (gR l (j - 1)).1 < (gR l j).1 - (gR l (j - 1)).2 := by
    unfold lets at hl
    simp at hl
    exact hl.2
  have key : ∀ p ∈ TL.passed l j, p ∈ l ∨ p = ((gR l j).1 - (gR l (j - 1)).2, (gR l j).2) := fun p hp => by
    unfold TL.passed at hp
    simp at hp
    rcases hp with hp | hp | hp | hp
    · exact .inl (List.mem_of_mem_take hp)
    · exact .inr hp
    · exact .inl (hp ▸ m2)
    · exact .inl (List.mem_of_mem_drop hp)
  constructor
  · intro p hp
    rcases key p hp with hp | rfl
    · exact ok.s p hp
    · dsimp only; omega
  · intro p hp
    rcases key p hp with hp | rfl
    · exact ok.t p hp
    · exact t1
theorem RowOk.fallen {S T : Int} {l : Row} {j : Nat} (ok : RowOk S T l) (hj : j + 1 < l.length) : RowOk (S + T) T (fallen l j) := by
  have m1 := gR_mem (l := l) (j := j) (by omega)
  have m2 := gR_mem hj
  have s1 := ok.s _ m1
  have s2 := ok.s _ m2
  have t1 := ok.t _ m1
  have t2 := ok.t _ m2
  have key : ∀ p ∈ TL.fallen l j, p ∈ l ∨ p = ((gR l j).1 + (gR l (j + 1)).2, (gR l j).2) := fun p hp => by
    unfold TL.fallen at hp
    simp at hp
    rcases hp with hp | hp | hp | hp
    · exact .inl (List.mem_of_mem_take hp)
    · exact .inl (hp ▸ m2)
    · exact .inr hp
    · exact .inl (List.mem_of_mem_drop hp)
  constructor
  · intro p hp
    rcases key p hp with hp | rfl
    · have := ok.s p hp; omega
    · dsimp only; omega
  · intro p hp
    rcases key p hp with hp | rfl
    · exact ok.t p hp
    · exact t1
theorem RowOk.mono {S S' T T' : Int} {l : Row} (ok : RowOk S T l) (h : S ≤ S') (h' : T ≤ T') : RowOk S' T' l := ⟨fun p hp => by have := ok.s p hp; omega, fun p hp => by have := ok.t p hp; omega⟩
theorem Led.ok {S T : Int} {l l' : Row} {o : List Nat} {ds : List (Bool × Nat)} (hT : 0 ≤ T) (ok : RowOk S T l) (h : Led l l' o ds) : RowOk (S + T * ds.length) T l' := by
  induction h with
  | nil => simpa using ok
  | pass h h0 hj hl ih =>
    refine (ih.passed h0 hj hl).mono ?_ (Int.le_refl _)
    simp [Int.mul_add]; omega
  | fall h hj hl ih =>
    refine (ih.fallen hj).mono ?_ (Int.le_refl _)
    simp [Int.mul_add]; omega
theorem lay_str {n : Nat} {x : Str} (h : PyData.canLay0 (.str x) = true) : Lay n (.str x) := ⟨h, by simp [PyData.depth]⟩
theorem shaped_str {x : Str} (h : PyData.canLay0 (.str x) = true) : SeqAt.shaped (.str x) = true := (lay_str (n := 0) h).shaped
end TL
set_option Elab.async false
set_option linter.all false
set_option maxRecDepth 100000
set_option maxHeartbeats 4000000
namespace TL
section
/-! ### rows of one class: orders over a first row -/
variable {w t : Nat → Int}
def gO (o : List Nat) (k : Nat) : Nat := o.getD k 0
theorem map_gO (o : List Nat) : (List.range o.length).map (gO o) = o := by
  apply List.ext_getElem?
  intro i
  by_cases h : i < o.length
  · simp [gO, h]
  · rw [List.getElem?_eq_none (by simp; omega), List.getElem?_eq_none (by omega)]
theorem swapO_mid (A B : List Nat) (a b : Nat) : swapO (A ++ a :: b :: B) A.length = A ++ b :: a :: B := by
  simp [swapO, List.drop_append, show A.length + 2 - A.length = 2 by omega, List.drop_of_length_le (show A.length ≤ A.length + 2 by omega)]
theorem swapO_map {o : List Nat} {k : Nat} (g : Nat → Nat) (hk : k + 1 < o.length) : (swapO o k).map g = swapO (o.map g) k := by
  have h1 : k < o.length := by omega
  simp [swapO, List.map_take, List.map_drop, h1, hk]
theorem swapO_perm {o : List Nat} {k : Nat} (hk : k + 1 < o.length) : (swapO o k).Perm o := by
  obtain ⟨A, a, b, B, rfl, e⟩ := split2 o (j := k + 1) (by omega) hk
  have e : k = A.length := by omega
  subst e
  rw [swapO_mid]
  exact List.Perm.append_left A (List.Perm.swap a b B)
theorem Led.perm {l l' : Row} {o : List Nat} {ds : List (Bool × Nat)} (h : Led l l' o ds) : o.Perm (List.range l.length) := by
  induction h with
  | nil => exact List.Perm.refl _
  | pass h h0 hj _ ih =>
    have := h.len
    exact (swapO_perm (by omega)).trans ih
  | fall h hj _ ih =>
    have := h.len
    exact (swapO_perm (by omega)).trans ih
/-- no falls -/
def Fst (w t : Nat → Int) (n : Nat) : Prop := ∀ a b, a < b → b < n → 0 ≤ w b - w a + t a + tolls t (List.range n) (btwf a b)
theorem claim (ht : ∀ c, 0 ≤ t c) {n : Nat} (hF : Fst w t n) {o : List Nat} (hp : o.Perm (List.range n)) (hI : Inv w t o) {A : List Nat} {a : Nat} : ∀ (m k : Nat) (X C : List Nat), k - a ≤ m → o = A ++ a :: (X ++ k :: C) → a < k → (∀ x ∈ X, ¬ (a < x ∧ x < k)) → 0 ≤ w k - w a + t a + tolls t A (btwf a k)
  | m, k, X, C, hm, e, hak, hX => by
    have hn : o.Nodup := hp.nodup_iff.mpr List.nodup_range
    have hkn : k < n := by
      have : k ∈ o := by rw [e]; simp
      simpa using hp.mem_iff.mp this
    by_cases hc : ∃ c ∈ C, a < c ∧ c < k
    · obtain ⟨C1, c, C2, eC, hca, hC1⟩ : ∃ C1 c C2, C = C1 ++ c :: C2 ∧ (a < c ∧ c < k) ∧ ∀ x ∈ C1, ¬ (a < x ∧ x < k) := by
        clear e
        induction C with
        | nil => obtain ⟨c, hc, _⟩ := hc; cases hc
        | cons d C ih =>
          by_cases hd : a < d ∧ d < k
          · exact ⟨[], d, C, rfl, hd, fun _ z => nomatch z⟩
          · obtain ⟨c, hcm, hc2⟩ := hc
            have hcC : c ∈ C := by
              rcases List.mem_cons.mp hcm with rfl | h
              · exact absurd hc2 hd
              · exact h
            obtain ⟨C1, c', C2, e1, e2, e3⟩ := ih ⟨c, hcC, hc2⟩
            refine ⟨d :: C1, c', C2, by rw [e1]; rfl, e2, fun x hx => ?_⟩
            rcases List.mem_cons.mp hx with rfl | hx
            · exact hd
            · exact e3 x hx
      have hcA : c ∉ A := by
        rw [e, eC, List.nodup_append] at hn
        exact fun z => hn.2.2 c z c (by simp) rfl
      have g1 := hI (A ++ a :: (X ++ k :: C1)) c C2 (by rw [e, eC]; simp) k (by simp) hca.2
      have z : tolls t (a :: (X ++ k :: C1)) (btwf c k) = 0 := tolls_zero fun x hx => by
        rcases List.mem_cons.mp hx with rfl | hx
        · exact btw_lo (by omega)
        · rcases List.mem_append.mp hx with hx | hx
          · have := hX x hx
            by_cases q : x < k
            · exact btw_lo (by omega)
            · exact btw_hi (by omega)
          · rcases List.mem_cons.mp hx with rfl | hx
            · exact btw_hi (Nat.le_refl _)
            · have := hC1 x hx
              by_cases q : x < k
              · exact btw_lo (by omega)
              · exact btw_hi (by omega)
      rw [tolls_append, z] at g1
      have sp := tolls_btw (t := t) A hca.1 hca.2 hcA
      cases m with
      | zero => omega
      | succ m =>
        have g2 := claim (A := A) ht hF hp hI m c (X ++ k :: C1) C2 (by omega) (by rw [e, eC]; simp) hca.1 (fun x hx => by
          rcases List.mem_append.mp hx with hx | hx
          · have := hX x hx; omega
          · rcases List.mem_cons.mp hx with rfl | hx
            · omega
            · have := hC1 x hx; omega)
        omega
    · have := hF a k hak hkn
      have e2 : tolls t A (btwf a k) = tolls t (List.range n) (btwf a k) := by
        rw [← tolls_permL hp, e, tolls_append]
        have z : tolls t (a :: (X ++ k :: C)) (btwf a k) = 0 := tolls_zero fun x hx => by
          rcases List.mem_cons.mp hx with rfl | hx
          · exact btw_lo (Nat.le_refl _)
          · rcases List.mem_append.mp hx with hx | hx
            · have := hX x hx
              by_cases q : x < k
              · exact btw_lo (by omega)
              · exact btw_hi (by omega)
            · rcases List.mem_cons.mp hx with rfl | hx
              · exact btw_hi (Nat.le_refl _)
              · by_cases q : x < k
                · exact btw_lo (Nat.le_of_not_lt fun q2 => hc ⟨x, hx, q2, q⟩)
                · exact btw_hi (by omega)
        rw [z]
        omega
      omega
theorem Inv.unswap {A B : List Nat} {a b : Nat} (hn : (A ++ a :: b :: B).Nodup) (h : Inv w t (A ++ a :: b :: B)) (hba : b < a) : Inv w t (A ++ b :: a :: B) := by
  obtain ⟨na, nb, nab⟩ := nodup_mid hn
  intro A1 y B1 e x hx hxy
  have atb : A = A1 → b = y → 0 < w x - w y + tolls t A1 (btwf y x) := by
    rintro rfl rfl
    have g1 := h (A ++ [a]) b B (by simp) x (by simp [hx]) hxy
    rw [tolls_append] at g1
    by_cases q : a < x
    · have g2 := h A a (b :: B) rfl x hx q
      have g3 := h (A ++ [a]) b B (by simp) a (by simp) hba
      rw [tolls_append] at g3
      have z : tolls t [a] (btwf b a) = 0 := by simp [tolls, btwf]
      have sp := tolls_btw (t := t) A hba q na
      omega
    · have z : tolls t [a] (btwf b x) = 0 := tolls_zero fun c hc => by
        have : c = a := by simpa using hc
        exact btw_hi (by omega)
      omega
  rcases List.append_eq_append_iff.mp e with ⟨a', e1, e2⟩ | ⟨c', e1, e2⟩
  · cases a' with
    | nil =>
      simp at e1 e2
      exact atb e1.symm e2.1
    | cons b' a' =>
      simp at e2
      obtain ⟨rfl, e2⟩ := e2
      cases a' with
      | nil =>
        simp at e2
        obtain ⟨rfl, rfl⟩ := e2
        subst e1
        have hx' : x ∈ A := by
          rcases List.mem_append.mp hx with h | h
          · exact h
          · have : x = b := by simpa using h
            omega
        have := h A a (b :: B) rfl x hx' hxy
        rw [tolls_append]
        have z : tolls t [b] (btwf a x) = 0 := tolls_zero fun c hc => by
          have : c = b := by simpa using hc
          exact btw_lo (by omega)
        omega
      | cons a1 A2 =>
        simp at e2
        obtain ⟨rfl, rfl⟩ := e2
        subst e1
        rw [tolls_swap]
        exact h (A ++ a :: b :: A2) y B1 (by simp) x (by
          simp at hx ⊢
          rcases hx with hx | hx | hx | hx <;> simp [hx]) hxy
  · cases c' with
    | nil =>
      simp at e1 e2
      exact atb e1 e2.1.symm
    | cons y' c' =>
      simp at e2
      obtain ⟨rfl, rfl⟩ := e2
      subst e1
      exact h A1 y (c' ++ a :: b :: B) (by simp) x hx hxy
/-- falls in a class over a first row -/
theorem unpass_step {n : Nat} {A B : List Nat} {a b : Nat} (ht : ∀ c, 0 ≤ t c) (hF : Fst w t n) (hp : (A ++ a :: b :: B).Perm (List.range n)) (hI : Inv w t (A ++ a :: b :: B)) (hl : falls (rowG w t gP [] (A ++ a :: b :: B)) A.length = true) :
    b < a ∧ Inv w t (A ++ b :: a :: B) ∧ fallen (rowG w t gP [] (A ++ a :: b :: B)) A.length = rowG w t gP [] (A ++ b :: a :: B) := by
  have hn := hp.nodup_iff.mpr List.nodup_range
  obtain ⟨na, nb, nab⟩ := nodup_mid hn
  have la : A.length = (rowG w t gP [] A).length := (rowG_length [] A).symm
  rw [rowG_two] at hl ⊢
  rw [la, falls_at] at hl
  rw [la, fallen_at]
  have hl : w b + tolls t (A ++ [a]) (fun c => gP c b) < w a + tolls t A (fun c => gP c a) := of_decide_eq_true hl
  rw [tolls_append] at hl
  rcases Nat.lt_or_gt_of_ne nab with h | h
  · exfalso
    have c := claim (A := A) ht hF hp hI (b - a) b [] B (Nat.le_refl _) (by simp) h (fun _ z => nomatch z)
    have e1 : tolls t [a] (fun c => gP c b) = t a := by simp [tolls, gP, h]
    have sp : tolls t A (fun c => gP c b) = tolls t A (fun c => gP c a) + tolls t A (btwf a b) := tolls_split (t := t) A a b h na
    omega
  · refine ⟨h, hI.unswap hn h, ?_⟩
    have e1 : tolls t [a] (fun c => gP c b) = 0 := by
      have : ¬ a < b := by omega
      simp [tolls, gP, this]
    have e2 : tolls t [b] (fun c => gP c a) = t b := by simp [tolls, gP, h]
    rw [rowG_two, rowG_tail]
    rw [tolls_append, tolls_append, e1, e2]
    have q1 : w b + (tolls t A (fun c => gP c b) + 0) = w b + tolls t A (fun c => gP c b) := by omega
    have q2 : w a + tolls t A (fun c => gP c a) + t b = w a + (tolls t A (fun c => gP c a) + t b) := by omega
    rw [q1, q2]
/-- deeds in a class -/
theorem led_tr (ht : ∀ c, 0 ≤ t c) {n : Nat} {o0 : List Nat} (h0 : o0.Perm (List.range n)) (I0 : Inv w t o0) {l l' : Row} {o : List Nat} {ds : List (Bool × Nat)} (hl : l = rowG w t gP [] o0) (h : Led l l' o ds) (hF : (∀ d ∈ ds, d.1 = true) ∨ Fst w t n) :
    (o.map (gO o0)).Perm (List.range n) ∧ Inv w t (o.map (gO o0)) ∧ l' = rowG w t gP [] (o.map (gO o0)) ∧ ((∀ d ∈ ds, d.1 = true) → ∀ x y, y < x → ah o0 x y = true → ah (o.map (gO o0)) x y = true) := by
  have hlo : o0.length = n := by rw [h0.length_eq, List.length_range]
  have hll : l.length = n := by rw [hl, rowG_length, hlo]
  induction h with
  | nil =>
    rw [hll, ← hlo, map_gO]
    exact ⟨h0 |>.trans (by rw [hlo]), I0, hl, fun _ _ _ _ h => h⟩
  | @pass l' o ds j h hj0 hj hlt ih =>
    obtain ⟨hp, hI, e, hm⟩ := ih (hF.imp (fun z d hd => z d (by simp [hd])) id)
    have hlen := h.len
    obtain ⟨A, a, b, B, eo, rfl⟩ := split2 (o.map (gO o0)) hj0 (by rw [List.length_map]; omega)
    rw [show A.length + 1 - 1 = A.length by omega]
    rw [swapO_map _ (by have := congrArg List.length eo; simp at this; omega), eo, swapO_mid]
    rw [eo] at hp hI e hm
    rw [e] at hlt
    obtain ⟨hab, hI2, hpa⟩ := pass_step ht (hp.nodup_iff.mpr List.nodup_range) hI hlt
    have hp2 : (A ++ b :: a :: B).Perm (List.range n) := (List.Perm.append_left A (List.Perm.swap a b B)).trans hp
    refine ⟨hp2, hI2, by rw [e, hpa], fun hd x y hyx hxy => ?_⟩
    have hxy := hm (fun d hd' => hd d (by simp [hd'])) x y hyx hxy
    have n1 := hp.nodup_iff.mpr List.nodup_range
    have n2 := hp2.nodup_iff.mpr List.nodup_range
    obtain ⟨na, nb, nab⟩ := nodup_mid n1
    have ia : (A ++ a :: b :: B).idxOf a = A.length := idx_mid na
    have ib : (A ++ a :: b :: B).idxOf b = A.length + 1 := by
      have := idx_mid (A := A ++ [a]) (x := b) (B := B) (by simp [nb]; exact fun e => nab e.symm)
      simpa using this
    have ja : (A ++ b :: a :: B).idxOf a = A.length + 1 := by
      have := idx_mid (A := A ++ [b]) (x := a) (B := B) (by simp [na]; exact nab)
      simpa using this
    have jb : (A ++ b :: a :: B).idxOf b = A.length := idx_mid nb
    have oth : ∀ z, z ≠ a → z ≠ b → (A ++ b :: a :: B).idxOf z = (A ++ a :: b :: B).idxOf z := fun z h1 h2 => by
      rw [List.idxOf_append, List.idxOf_append]
      split
      · rfl
      · rw [List.idxOf_cons, List.idxOf_cons, List.idxOf_cons, List.idxOf_cons]
        have q1 : (b == z) = false := by simp; exact fun e => h2 e.symm
        have q2 : (a == z) = false := by simp; exact fun e => h1 e.symm
        simp [q1, q2]
    have out : ∀ z, z ≠ a → z ≠ b → (A ++ a :: b :: B).idxOf z ≠ A.length ∧ (A ++ a :: b :: B).idxOf z ≠ A.length + 1 := fun z h1 h2 => by
      rw [List.idxOf_append]
      split
      · rename_i hz
        have := List.idxOf_lt_length_iff.mpr hz
        omega
      · rw [List.idxOf_cons, List.idxOf_cons]
        have q1 : (b == z) = false := by simp; exact fun e => h2 e.symm
        have q2 : (a == z) = false := by simp; exact fun e => h1 e.symm
        simp [q1, q2]
        omega
    unfold ah at hxy ⊢
    rw [decide_eq_true_eq] at hxy ⊢
    by_cases xa : x = a
    · subst xa
      by_cases yb : y = b
      · subst yb; omega
      · have := oth y (by omega) yb
        have := out y (by omega) yb
        omega
    · by_cases xb : x = b
      · subst xb
        by_cases ya : y = a
        · subst ya; omega
        · have := oth y ya (by omega)
          have := out y ya (by omega)
          omega
      · have h1 := oth x xa xb
        have h2 := out x xa xb
        by_cases ya : y = a
        · subst ya; omega
        · by_cases yb : y = b
          · subst yb; omega
          · have := oth y ya yb
            omega
  | @fall l' o ds j h hj hlt ih =>
    obtain ⟨hp, hI, e, hm⟩ := ih (hF.imp (fun z d hd => z d (by simp [hd])) id)
    have hlen := h.len
    have hFst : Fst w t n := by
      rcases hF with z | z
      · have := z (false, j) (by simp)
        simp at this
      · exact z
    obtain ⟨A, a, b, B, eo, e2⟩ := split2 (o.map (gO o0)) (j := j + 1) (by omega) (by rw [List.length_map]; omega)
    have e2 : j = A.length := by omega
    subst e2
    rw [swapO_map _ (by omega), eo, swapO_mid]
    rw [eo] at hp hI e hm
    rw [e] at hlt
    obtain ⟨hab, hI2, hpa⟩ := unpass_step ht hFst hp hI hlt
    refine ⟨(List.Perm.append_left A (List.Perm.swap a b B)).trans hp, hI2, by rw [e, hpa], fun hd => ?_⟩
    have := hd (false, A.length) (by simp)
    simp at this
end
end TL
set_option Elab.async false
set_option linter.all false
set_option maxRecDepth 100000
set_option maxHeartbeats 4000000
namespace TL
section
theorem someF_le {f : Row} (h : someF f = []) {j : Nat} (hj : j + 1 < f.length) : (gR f j).1 ≤ (gR f (j + 1)).1 := by
  apply Classical.byContradiction
  intro z
  have : j ∈ someF f := List.mem_filter.mpr ⟨by simp; omega, decide_eq_true (by omega)⟩
  rw [h] at this
  cases this
theorem someF_mono {f : Row} (h : someF f = []) {a : Nat} : ∀ (k : Nat), a + k < f.length → (gR f a).1 ≤ (gR f (a + k)).1
  | 0, _ => Int.le_refl _
  | k + 1, hk => Int.le_trans (someF_mono h k (by omega)) (someF_le h hk)
theorem fst_of {f : Row} (h : someF f = []) : Fst (wP f) (tP f) f.length := by
  intro a b hab hb
  rw [wP_diff f hab]
  have e : tolls (tP f) (List.range f.length) (btwf a b) = tolls (tP f) (List.range' (a + 1) (b - (a + 1))) (fun _ => true) := by
    rw [← tolls_mid (tP f) hab hb]
    exact tolls_congr fun c _ => by simp
  rw [e]
  have := someF_mono h (a := a) (b - a) (by omega)
  rw [show a + (b - a) = b by omega] at this
  show 0 ≤ (gR f b).1 - (gR f a).1 - _ - _ + _ + _
  omega
theorem Led.t0 {l l' : Row} {o : List Nat} {ds : List (Bool × Nat)} (h : Led l l' o ds) (h0 : T0 l) : T0 l' := by
  induction h with
  | nil => exact h0
  | pass h hj0 hj _ ih =>
    intro p hp
    unfold passed at hp
    simp at hp
    rcases hp with hp | hp | hp | hp
    · exact ih p (List.mem_of_mem_take hp)
    · subst hp; exact gR_t0 ih _
    · subst hp; exact gR_t0 ih _
    · exact ih p (List.mem_of_mem_drop hp)
  | fall h hj _ ih =>
    intro p hp
    unfold fallen at hp
    simp at hp
    rcases hp with hp | hp | hp | hp
    · exact ih p (List.mem_of_mem_take hp)
    · subst hp; exact gR_t0 ih _
    · subst hp; exact gR_t0 ih _
    · exact ih p (List.mem_of_mem_drop hp)
theorem led_last {l : Row} (h0 : T0 l) : ∃ ds, Led l (lastR l) (lastO l) ds ∧ (∀ d ∈ ds, d.1 = true) ∧ someP (lastR l) = [] := by
  have ht := tP_nn h0
  have run : ∀ (m : Nat) (o : List Nat) (ds : List (Bool × Nat)), Led l (rowG (wP l) (tP l) gP [] o) o ds → (∀ d ∈ ds, d.1 = true) → o.Perm (List.range l.length) → Inv (wP l) (tP l) o → l.length * l.length - inv o ≤ m → ∃ ds, Led l (lastR l) (lastO l) ds ∧ (∀ d ∈ ds, d.1 = true) ∧ someP (lastR l) = [] := by
    intro m
    induction m with
    | zero =>
      intro o ds h hd hp hI hm
      by_cases hS : someP (rowG (wP l) (tP l) gP [] o) = []
      · obtain ⟨e1, e2⟩ := last_uniq h0 (rowG_P l) hp hI (term_pass (hp.nodup_iff.mpr List.nodup_range) hS)
        rw [e1] at h hS
        exact ⟨ds, h, hd, hS⟩
      · exfalso
        obtain ⟨j, r, hj⟩ := List.exists_cons_of_ne_nil hS
        obtain ⟨hj1, hj2⟩ := List.mem_filter.mp (show j ∈ someP (rowG (wP l) (tP l) gP [] o) by rw [hj]; simp)
        have hlo : o.length = l.length := by rw [hp.length_eq, List.length_range]
        have hj3 : j < o.length := by simpa [rowG_length] using hj1
        have hj0 : 0 < j := by
          unfold lets at hj2
          simp at hj2
          exact hj2.1
        obtain ⟨A, a, b, B, rfl, rfl⟩ := split2 o hj0 hj3
        obtain ⟨hab, _, _⟩ := pass_step ht (hp.nodup_iff.mpr List.nodup_range) hI hj2
        have hiv := inv_swap A B hab
        have hle := inv_le (A ++ b :: a :: B)
        rw [show (A ++ b :: a :: B).length = l.length by rw [← hlo]; simp] at hle
        omega
    | succ m ih =>
      intro o ds h hd hp hI hm
      by_cases hS : someP (rowG (wP l) (tP l) gP [] o) = []
      · obtain ⟨e1, e2⟩ := last_uniq h0 (rowG_P l) hp hI (term_pass (hp.nodup_iff.mpr List.nodup_range) hS)
        rw [e1] at h hS
        exact ⟨ds, h, hd, hS⟩
      · obtain ⟨j, r, hj⟩ := List.exists_cons_of_ne_nil hS
        obtain ⟨hj1, hj2⟩ := List.mem_filter.mp (show j ∈ someP (rowG (wP l) (tP l) gP [] o) by rw [hj]; simp)
        have hlo : o.length = l.length := by rw [hp.length_eq, List.length_range]
        have hj3 : j < o.length := by simpa [rowG_length] using hj1
        have hj0 : 0 < j := by
          unfold lets at hj2
          simp at hj2
          exact hj2.1
        have h' := h.pass hj0 (by rw [rowG_length]; exact hj3) hj2
        obtain ⟨A, a, b, B, rfl, rfl⟩ := split2 o hj0 hj3
        obtain ⟨hab, hI2, hpa⟩ := pass_step ht (hp.nodup_iff.mpr List.nodup_range) hI hj2
        have hiv := inv_swap A B hab
        rw [hpa, show A.length + 1 - 1 = A.length by omega, swapO_mid] at h'
        exact ih _ _ h' (fun d hd' => by
          rcases List.mem_append.mp hd' with h | h
          · exact hd d h
          · have : d = (true, A.length + 1) := by simpa using h
            rw [this]) ((List.Perm.append_left A (List.Perm.swap a b B)).trans hp) hI2 (by omega)
  exact run _ (List.range l.length) [] (by rw [rowG_P]; exact .nil) (fun _ z => nomatch z) (List.Perm.refl _) (Inv.range _) (Nat.le_refl _)
/-- l stands in the class of the first row f, its beasts in the order o -/
structure Rea (f l : Row) (o : List Nat) : Prop where
  t0 : T0 f
  no : someF f = []
  perm : o.Perm (List.range f.length)
  inv : Inv (wP f) (tP f) o
  row : l = rowG (wP f) (tP f) gP [] o
theorem Rea.len {f l : Row} {o : List Nat} (h : Rea f l o) : l.length = f.length ∧ o.length = f.length := by
  have : o.length = f.length := by rw [h.perm.length_eq, List.length_range]
  exact ⟨by rw [h.row, rowG_length, this], this⟩
theorem fallen_back (LA LB : Row) (p q : Int × Int) (h : q.1 < p.1) : lets (fallen (LA ++ p :: q :: LB) LA.length) (LA.length + 1) = true ∧ passed (fallen (LA ++ p :: q :: LB) LA.length) (LA.length + 1) = LA ++ p :: q :: LB := by
  rw [fallen_at, lets_at, passed_at]
  refine ⟨decide_eq_true (by dsimp only; omega), ?_⟩
  have : p.1 + q.2 - q.2 = p.1 := by omega
  simp [this]
theorem rea_first {l : Row} (h0 : T0 l) : ∃ o0, Rea (firstR l) l o0 ∧ o0.map (gO (firstO l)) = List.range l.length ∧ ∃ ds, Led l (firstR l) (firstO l) ds := by
  have ht := tP_nn h0
  obtain ⟨fp, fI, fT⟩ := firstO_spec h0
  have hfl : (firstR l).length = l.length := firstR_len h0
  have run : ∀ (m : Nat) (q : List Nat) (ds : List (Bool × Nat)), Led l (rowG (sP l) (tP l) gF [] q) q ds → q.Perm (List.range l.length) → Inv (fun c => - sP l c) (tP l) q → l.length * l.length - inv q ≤ m → (∃ o', Rea (firstR l) (rowG (sP l) (tP l) gF [] q) o' ∧ o'.map (gO (firstO l)) = q) ∧ ∃ ds, Led l (firstR l) (firstO l) ds := by
    intro m
    induction m with
    | zero =>
      intro q ds h hp hI hm
      by_cases hS : someF (rowG (sP l) (tP l) gF [] q) = []
      · obtain ⟨e1, e2⟩ := first_uniq h0 (rowG_F l) hp hI (term_fall (hp.nodup_iff.mpr List.nodup_range) hS)
        refine ⟨⟨List.range l.length, ⟨?_, by rw [← e2]; exact hS, by rw [hfl], Inv.range _, ?_⟩, ?_⟩, ds, by rw [← e2, ← e1]; exact h⟩
        · rw [← e2]; exact h.t0 h0
        · rw [← hfl, rowG_P, e2]
        · rw [e1, ← firstO_len h0, map_gO]
      · exfalso
        obtain ⟨j, r, hj⟩ := List.exists_cons_of_ne_nil hS
        obtain ⟨hj1, hj2⟩ := List.mem_filter.mp (show j ∈ someF (rowG (sP l) (tP l) gF [] q) by rw [hj]; simp)
        have hlo : q.length = l.length := by rw [hp.length_eq, List.length_range]
        have hj3 : j < q.length - 1 := by simpa [rowG_length] using hj1
        obtain ⟨A, a, b, B, rfl, e⟩ := split2 q (j := j + 1) (by omega) (by omega)
        have e : j = A.length := by omega
        subst e
        obtain ⟨hab, _, _⟩ := fall_step ht (hp.nodup_iff.mpr List.nodup_range) hI hj2
        have hiv := inv_swap A B hab
        have hle := inv_le (A ++ b :: a :: B)
        rw [show (A ++ b :: a :: B).length = l.length by rw [← hlo]; simp] at hle
        omega
    | succ m ih =>
      intro q ds h hp hI hm
      by_cases hS : someF (rowG (sP l) (tP l) gF [] q) = []
      · obtain ⟨e1, e2⟩ := first_uniq h0 (rowG_F l) hp hI (term_fall (hp.nodup_iff.mpr List.nodup_range) hS)
        refine ⟨⟨List.range l.length, ⟨?_, by rw [← e2]; exact hS, by rw [hfl], Inv.range _, ?_⟩, ?_⟩, ds, by rw [← e2, ← e1]; exact h⟩
        · rw [← e2]; exact h.t0 h0
        · rw [← hfl, rowG_P, e2]
        · rw [e1, ← firstO_len h0, map_gO]
      · obtain ⟨j, r, hj⟩ := List.exists_cons_of_ne_nil hS
        obtain ⟨hj1, hj2⟩ := List.mem_filter.mp (show j ∈ someF (rowG (sP l) (tP l) gF [] q) by rw [hj]; simp)
        have hlo : q.length = l.length := by rw [hp.length_eq, List.length_range]
        have hj3 : j < q.length - 1 := by simpa [rowG_length] using hj1
        have h' := h.fall (by rw [rowG_length]; omega) hj2
        obtain ⟨A, a, b, B, rfl, e⟩ := split2 q (j := j + 1) (by omega) (by omega)
        have e : j = A.length := by omega
        subst e
        obtain ⟨hab, hI2, hpa⟩ := fall_step ht (hp.nodup_iff.mpr List.nodup_range) hI hj2
        have hiv := inv_swap A B hab
        have hp2 : (A ++ b :: a :: B).Perm (List.range l.length) := (List.Perm.append_left A (List.Perm.swap a b B)).trans hp
        rw [hpa, swapO_mid] at h'
        obtain ⟨⟨o', R, em⟩, hds⟩ := ih _ _ h' hp2 hI2 (by omega)
        refine ⟨?_, hds⟩
        have la : A.length = (rowG (sP l) (tP l) gF [] A).length := (rowG_length [] A).symm
        have hb := rowG_two (w := sP l) (t := tP l) gF A B a b
        obtain ⟨g1, g2⟩ := fallen_back (rowG (sP l) (tP l) gF [] A) (rowG (sP l) (tP l) gF (A ++ [a] ++ [b]) B) (sP l a + tolls (tP l) A (fun c => gF c a), tP l a) (sP l b + tolls (tP l) (A ++ [a]) (fun c => gF c b), tP l b) (by
          rw [hb, la, falls_at] at hj2
          exact of_decide_eq_true hj2)
        rw [← hb, ← la, hpa] at g1 g2
        obtain ⟨Rl, Ro⟩ := R.len
        have hlo' : o'.length = A.length + (B.length + 1 + 1) := by
          have := congrArg List.length em
          simpa using this
        obtain ⟨A', a', b', B', rfl, e'⟩ := split2 o' (j := A.length + 1) (by omega) (by omega)
        have e' : A.length = A'.length := by omega
        rw [R.row, e'] at g1 g2
        obtain ⟨hab', hI', hpa'⟩ := pass_step (tP_nn R.t0) (R.perm.nodup_iff.mpr List.nodup_range) R.inv g1
        refine ⟨A' ++ b' :: a' :: B', ⟨R.t0, R.no, (List.Perm.append_left A' (List.Perm.swap a' b' B')).trans R.perm, hI', ?_⟩, ?_⟩
        · rw [← hpa', g2]
        · have := congrArg (fun z => swapO z A.length) em
          rw [swapO_mid, ← swapO_map _ (by simp; omega), e', swapO_mid] at this
          exact this
  obtain ⟨⟨o', R, em⟩, hds⟩ := run _ (List.range l.length) [] (by rw [rowG_F]; exact .nil) (List.Perm.refl _) (Inv.range _) (Nat.le_refl _)
  rw [rowG_F] at R
  exact ⟨o', R, em, hds⟩
/-- sorted orders -/
theorem sorted_range {n : Nat} {o : List Nat} (hp : o.Perm (List.range n)) (h : ∀ A a b B, o = A ++ a :: b :: B → a < b) : o = List.range n := by
  refine sorted_uniq (R := fun x y => x < y) (fun x y h1 h2 => by omega) hp ?_ List.pairwise_lt_range
  have key : ∀ (o : List Nat), (∀ A a b B, o = A ++ a :: b :: B → a < b) → o.Pairwise (· < ·) := by
    intro o
    induction o with
    | nil => intro _; exact List.Pairwise.nil
    | cons x r ih =>
      intro h
      have hr := ih fun A a b B e => h (x :: A) a b B (by rw [e]; rfl)
      rw [List.pairwise_cons]
      refine ⟨fun y hy => ?_, hr⟩
      cases r with
      | nil => cases hy
      | cons z r =>
        have hz := h [] x z r rfl
        rcases List.mem_cons.mp hy with rfl | hy
        · exact hz
        · rw [List.pairwise_cons] at hr
          have := hr.1 y hy
          omega
  exact key o h
theorem Rea.first {f l : Row} {o : List Nat} (h : Rea f l o) (h0 : T0 l) : firstR l = f ∧ (firstO l).map (gO o) = List.range f.length := by
  obtain ⟨_, R', _, ds, hL⟩ := rea_first h0
  obtain ⟨hp, hI, e, _⟩ := led_tr (tP_nn h.t0) h.perm h.inv h.row hL (.inr (fst_of h.no))
  have hn := hp.nodup_iff.mpr List.nodup_range
  have hs : (firstO l).map (gO o) = List.range f.length := by
    refine sorted_range hp fun A a b B eq => ?_
    apply Classical.byContradiction
    intro hab
    rw [eq] at hp hI e hn
    obtain ⟨na, nb, nab⟩ := nodup_mid hn
    have hba : b < a := by omega
    have hf : falls (firstR l) A.length = true := by
      have la : A.length = (rowG (wP f) (tP f) gP [] A).length := (rowG_length [] A).symm
      rw [e, rowG_two, la, falls_at]
      refine decide_eq_true ?_
      have g := hI (A ++ [a]) b B (by simp) a (by simp) hba
      have e1 : tolls (tP f) [a] (fun c => gP c b) = 0 := by
        have : ¬ a < b := by omega
        simp [tolls, gP, this]
      have e2 : tolls (tP f) [a] (btwf b a) = 0 := by simp [tolls, btwf]
      have sp : tolls (tP f) A (fun c => gP c a) = tolls (tP f) A (fun c => gP c b) + tolls (tP f) A (btwf b a) := tolls_split A b a hba nb
      rw [tolls_append] at g ⊢
      dsimp only
      omega
    have hm : A.length ∈ someF (firstR l) := by
      refine List.mem_filter.mpr ⟨?_, hf⟩
      have : (firstR l).length = A.length + (B.length + 1 + 1) := by
        rw [e, rowG_length]
        simp
      simp
      omega
    rw [R'.no] at hm
    cases hm
  exact ⟨by rw [e, hs, rowG_P], hs⟩
theorem Rea.last {f l : Row} {o : List Nat} (h : Rea f l o) (h0 : T0 l) : lastR l = lastR f ∧ (lastO l).map (gO o) = lastO f ∧ ∀ x y, y < x → ah o x y = true → ah (lastO f) x y = true := by
  obtain ⟨ds, hL, hd, hS⟩ := led_last h0
  obtain ⟨hp, hI, e, hm⟩ := led_tr (tP_nn h.t0) h.perm h.inv h.row hL (.inl hd)
  have hn := hp.nodup_iff.mpr List.nodup_range
  obtain ⟨e1, e2⟩ := last_uniq h.t0 (rowG_P f) hp hI (term_pass hn (by rw [← e]; exact hS))
  refine ⟨by rw [e, e2], e1, ?_⟩
  rw [← e1]
  exact hm hd
end
end TL
set_option Elab.async false
set_option linter.all false
set_option maxRecDepth 100000
set_option maxHeartbeats 4000000
namespace TL
section
/-! ### deeds within a row -/
end
end TL
set_option Elab.async false
set_option linter.all false
set_option maxRecDepth 100000
set_option maxHeartbeats 4000000
namespace TL
section
theorem get_gO {o : List Nat} {k : Nat} (hk : k < o.length) : o[k]? = some (gO o k) := by simp [gO, hk]
theorem get_idx {o : List Nat} {x : Nat} (h : x ∈ o) : o[o.idxOf x]? = some x := by
  have hl := List.idxOf_lt_length_iff.mpr h
  rw [List.getElem?_eq_getElem hl, List.getElem_idxOf hl]
noncomputable def fallL (l : Row) : List (Nat × Nat) := pairsU l.length fun i j => ah (firstO l) j i
end
end TL
set_option Elab.async false
set_option linter.all false
set_option maxRecDepth 100000
set_option maxHeartbeats 4000000
namespace TL
section
theorem T0.ok {l : Row} (h : T0 l) : ∃ S T : Int, RowOk S T l := by
  induction l with
  | nil => exact ⟨0, 0, ⟨(fun _ z => nomatch z), (fun _ z => nomatch z)⟩⟩
  | cons p l ih =>
    obtain ⟨S, T, ok⟩ := ih fun q hq => h q (List.mem_cons_of_mem _ hq)
    have hp := h p (by simp)
    refine ⟨(S.natAbs : Int) + p.1.natAbs, (T.natAbs : Int) + p.2.natAbs, ⟨fun q hq => ?_, fun q hq => ?_⟩⟩
    · rcases List.mem_cons.mp hq with rfl | hq
      · omega
      · have := ok.s q hq; omega
    · rcases List.mem_cons.mp hq with rfl | hq
      · omega
      · have := ok.t q hq; omega
/-- the least strength with which j passes i -/
def leastR (l : Row) (i j : Nat) : Int := barN l i (j - (i + 1)) + 1
theorem least_same {l l' : Row} {i j : Nat} (hij : i < j) (h : ∀ k, k < j → gR l' k = gR l k) : leastR l' i j = leastR l i j := by
  unfold leastR
  rw [barN_same (h i hij) _ fun k h1 h2 => h k (by omega)]
theorem gR_take {l : Row} {j k : Nat} (h : k < j) : gR (l.take j) k = gR l k := by
  simp [gR, List.getD_eq_getElem?_getD, List.getElem?_take, h]
theorem sum_filter (t : Nat → Int) (A : List Nat) (f : Nat → Bool) : ((A.filter f).map t).sum = tolls t A f := by
  induction A with
  | nil => rfl
  | cons c A ih =>
    by_cases h : f c = true
    · rw [List.filter_cons_of_pos h, List.map_cons, List.sum_cons, ih]
      simp [tolls, h]
    · rw [List.filter_cons_of_neg h, ih]
      simp [tolls, h]
/-- by whom never passes -/
theorem least_sum {l : Row} {i j : Nat} (hij : i < j) : (gR l i).1 + (gR l i).2 + (((List.range' (i + 1) (j - (i + 1))).filter fun k => !Pv (l.take j) i k).map fun k => (gR l k).2).sum + 1 = leastR l i j := by
  rw [← least_same (l := l) (l' := l.take j) hij fun k hk => gR_take hk]
  unfold leastR
  rw [barN_eq, sum_filter]
  have e : tolls (fun k => (gR l k).2) (List.range' (i + 1) (j - (i + 1))) (fun k => !Pv (l.take j) i k) = tolls (tP (l.take j)) (List.range' (i + 1) (j - (i + 1))) (fun k => !Pv (l.take j) i k) := tolls_t fun c hc => by
    rw [List.mem_range'_1] at hc
    show _ = (gR (l.take j) c).2
    rw [gR_take (by omega)]
  rw [e]
  show _ = (gR (l.take j) i).1 + (gR (l.take j) i).2 + _ + 1
  rw [gR_take hij]
end
end TL
set_option Elab.async false
set_option linter.all false
set_option maxRecDepth 100000
set_option maxHeartbeats 4000000
namespace TL
section
/-! ### pieces -/
/-! ### passings counted -/
theorem Led.trans {l l' l'' : Row} {o o' : List Nat} {ds ds' : List (Bool × Nat)} (h : Led l l' o ds) (h' : Led l' l'' o' ds') : Led l l'' (o'.map (gO o)) (ds ++ ds') := by
  have ho : o.length = l'.length := by rw [h.len.2, h.len.1]
  induction h' with
  | nil =>
    rw [← ho, map_gO, List.append_nil]
    exact h
  | @pass m o' ds' j h' hj0 hj hl ih =>
    have hlen := h'.len
    have := ih.pass hj0 hj hl
    rw [swapO_map _ (by omega), ← List.append_assoc]
    exact this
  | @fall m o' ds' j h' hj hl ih =>
    have hlen := h'.len
    have := ih.fall hj hl
    rw [swapO_map _ (by omega), ← List.append_assoc]
    exact this
end
end TL
set_option Elab.async false
set_option linter.all false
set_option maxRecDepth 100000
set_option maxHeartbeats 4000000
namespace TL
open PySem PySem.Spec PyProof.Rows L2
/-! ### two-for and dict comprehensions without draws -/
theorem in_map {β : Type} {g : GM} {c : CM} {me : EM} {τw : Ev} (φ : β → D) (st : β → Ev) (p : β → Bool) (f : β → D) : ∀ (ys : List β), (∀ a ∈ ys, ∀ n R, R (st a) n → g (φ a) τw n R) → (∀ a ∈ ys, ∀ n R, R (p a) n → c (st a) n R) →
    (∀ a ∈ ys, p a = true → ∀ n R, R (f a) n → me (st a) n R) → ∀ (acc : List D) (n : Nat) (Q : List D → Nat → Prop), acc.length + ys.length ≤ sizeLine → Q (acc ++ (ys.filter p).map f) n → in2D g c me τw (ys.map φ) acc n Q
  | [], _, _, _, acc, n, Q, _, q => by simpa [in2D] using q
  | a :: r, hg, hc, hm, acc, n, Q, hl, q => by
    have hl' : acc.length + (r.length + 1) ≤ sizeLine := hl
    refine hg a (by simp) n _ (hc a (by simp) n _ ?_)
    have ih := in_map φ st p f r (fun b hb => hg b (List.mem_cons_of_mem _ hb)) (fun b hb => hc b (List.mem_cons_of_mem _ hb)) (fun b hb => hm b (List.mem_cons_of_mem _ hb))
    by_cases hp : p a = true
    · rw [if_pos hp]
      refine hm a (by simp) hp n _ ⟨by omega, ih (acc ++ [f a]) n Q (by rw [List.length_append]; simp only [List.length_cons, List.length_nil]; omega) ?_⟩
      rw [List.filter_cons_of_pos hp] at q
      simpa using q
    · rw [if_neg hp]
      refine ih acc n Q (by omega) ?_
      rw [List.filter_cons_of_neg hp] at q
      exact q
theorem lc2_map {α β : Type} {g g1 : GM} {c c1 : CM} {mi : IM} {me : EM} {vs1 : List Nat} {τw : Ev} (φ : α → D) (st : α → Ev) (ψ : α → β → D) (ys : α → List β) (st1 : α → β → Ev) (p : α → β → Bool) (f : α → β → D) (m : Nat) : ∀ (xs : List α),
    (∀ a ∈ xs, ∀ n R, R (st a) n → g (φ a) τw n R) → (∀ a ∈ xs, ∀ n R, R true n → c (st a) n R) → (∀ a ∈ xs, (ys a).length ≤ m ∧ ∀ n R, R ((ys a).map (ψ a)) n → mi (st a) n R) →
    (∀ a ∈ xs, ∀ b ∈ ys a, ∀ n R, R (st1 a b) n → g1 (ψ a b) (wipeE (st a) vs1) n R) → (∀ a ∈ xs, ∀ b ∈ ys a, ∀ n R, R (p a b) n → c1 (st1 a b) n R) → (∀ a ∈ xs, ∀ b ∈ ys a, p a b = true → ∀ n R, R (f a b) n → me (st1 a b) n R) →
    ∀ (acc : List D) (n : Nat) (Q : D → Nat → Prop), acc.length + xs.length * m ≤ sizeLine → Q (.list (acc ++ xs.flatMap fun a => ((ys a).filter (p a)).map (f a))) n → lc2D g c mi g1 c1 me vs1 τw (xs.map φ) acc n Q
  | [], _, _, _, _, _, _, acc, n, Q, _, q => by simpa [lc2D] using q
  | a :: r, hg, hc, hi, hg1, hc1, hm, acc, n, Q, hl, q => by
    have hl' : acc.length + (r.length + 1) * m ≤ sizeLine := hl
    rw [Nat.add_mul, Nat.one_mul] at hl'
    obtain ⟨h1, h2⟩ := hi a (by simp)
    refine hg a (by simp) n _ (hc a (by simp) n _ ?_)
    rw [if_pos rfl]
    refine h2 n _ (in_map (ψ a) (st1 a) (p a) (f a) (ys a) (hg1 a (by simp)) (hc1 a (by simp)) (hm a (by simp)) acc n _ (by omega) ?_)
    have hf : (((ys a).filter (p a)).map (f a)).length ≤ m := by
      rw [List.length_map]
      exact Nat.le_trans (List.length_filter_le _ _) h1
    refine lc2_map φ st ψ ys st1 p f m r (fun b hb => hg b (List.mem_cons_of_mem _ hb)) (fun b hb => hc b (List.mem_cons_of_mem _ hb)) (fun b hb => hi b (List.mem_cons_of_mem _ hb)) (fun b hb => hg1 b (List.mem_cons_of_mem _ hb)) (fun b hb => hc1 b (List.mem_cons_of_mem _ hb)) (fun b hb => hm b (List.mem_cons_of_mem _ hb)) _ n Q (by rw [List.length_append]; omega) ?_
    rw [List.flatMap_cons] at q
    simpa using q
theorem dc_map {α : Type} {g : GM} {c : CM} {mk mv : EM} {τw : Ev} (φ : α → D) (st : α → Ev) (kf : α → Key) (vf : α → D) : ∀ (xs : List α), (∀ a ∈ xs, ∀ n R, R (st a) n → g (φ a) τw n R) → (∀ a ∈ xs, ∀ n R, R true n → c (st a) n R) →
    (∀ a ∈ xs, ∀ n R, R (keyD (kf a)) n → mk (st a) n R) → (∀ a ∈ xs, ∀ n R, R (vf a) n → mv (st a) n R) → ∀ (acc : List (Key × D)) (n : Nat) (Q : List (Key × D) → Nat → Prop), acc.length + xs.length ≤ sizeLine → Q (xs.foldl (fun acc a => putD acc (kf a) (vf a)) acc) n → dcD g c mk mv τw (xs.map φ) acc n Q
  | [], _, _, _, _, acc, n, Q, _, q => q
  | a :: r, hg, hc, hk, hv, acc, n, Q, hl, q => by
    have hl' : acc.length + (r.length + 1) ≤ sizeLine := hl
    refine hg a (by simp) n _ (hc a (by simp) n _ ?_)
    rw [if_pos rfl]
    refine hk a (by simp) n _ (hv a (by simp) n _ ⟨kf a, rfl, by omega, ?_⟩)
    refine dc_map φ st kf vf r (fun b hb => hg b (List.mem_cons_of_mem _ hb)) (fun b hb => hc b (List.mem_cons_of_mem _ hb)) (fun b hb => hk b (List.mem_cons_of_mem _ hb)) (fun b hb => hv b (List.mem_cons_of_mem _ hb)) _ n Q ?_ q
    have : (putD acc (kf a) (vf a)).length ≤ acc.length + 1 := by
      unfold putD
      split
      · rw [List.length_map]; omega
      · rw [List.length_append]; simp
    omega
section
variable {κ : Type} [DecidableEq κ]
theorem valD_put (kvs : List (κ × D)) (k j : κ) (d : D) : valD (putD kvs k d) j = if j = k then some d else valD kvs j := by
  unfold putD
  split
  · rename_i h
    induction kvs with
    | nil => simp at h
    | cons q r ih =>
      by_cases e : q.1 = k
      · by_cases ej : j = k
        · subst ej
          simp [valD, e]
        · have : ¬ k = j := fun z => ej z.symm
          rw [if_neg ej]
          by_cases hr : (r.any fun kv => decide (kv.1 = k)) = true
          · have := ih hr
            rw [if_neg ej] at this
            simp only [valD, List.map_cons, List.find?_cons] at this ⊢
            simp [e, ‹¬ k = j›]
            simpa using this
          · have hid : (r.map fun kv => if kv.1 = k then (kv.1, d) else kv) = r := by
              refine (List.map_congr_left fun a ha => ?_).trans (List.map_id r)
              have : ¬ a.1 = k := fun z => hr (List.any_eq_true.mpr ⟨a, ha, decide_eq_true z⟩)
              simp [this]
            simp [valD, List.find?_cons, e, ‹¬ k = j›, hid]
      · have hr : (r.any fun kv => decide (kv.1 = k)) = true := by simpa [List.any_cons, e] using h
        have := ih hr
        by_cases ej : q.1 = j
        · have : ¬ j = k := fun z => e (ej.trans z)
          simp [valD, List.find?_cons, e, ej, this]
        · simp only [valD, List.map_cons, List.find?_cons] at this ⊢
          simp [e, ej]
          simpa using this
  · rename_i h
    by_cases ej : j = k
    · subst ej
      have hn : kvs.find? (fun kv => decide (kv.1 = j)) = none := by
        rw [List.find?_eq_none]
        intro a ha z
        exact h (List.any_eq_true.mpr ⟨a, ha, z⟩)
      simp [valD, List.find?_append, hn]
    · have : ¬ k = j := fun z => ej z.symm
      simp [valD, List.find?_append, ej, this]
end
section
variable {κ : Type} [DecidableEq κ] {α : Type}
theorem valD_keep (kf : α → κ) (vf : α → D) (k : κ) : ∀ (xs : List α) (acc : List (κ × D)), (∀ a ∈ xs, kf a ≠ k) → valD (xs.foldl (fun acc a => putD acc (kf a) (vf a)) acc) k = valD acc k
  | [], _, _ => rfl
  | a :: r, acc, h => by
    have := valD_keep kf vf k r (putD acc (kf a) (vf a)) fun b hb => h b (List.mem_cons_of_mem _ hb)
    rw [List.foldl_cons, this, valD_put, if_neg (fun z => h a (by simp) z.symm)]
theorem valD_fold (kf : α → κ) (vf : α → D) : ∀ (xs : List α) (acc : List (κ × D)), xs.Pairwise (fun a b => kf a ≠ kf b) → ∀ a ∈ xs, valD (xs.foldl (fun acc a => putD acc (kf a) (vf a)) acc) (kf a) = some (vf a)
  | [], _, _, a, h => by cases h
  | b :: r, acc, hp, a, h => by
    rw [List.pairwise_cons] at hp
    rw [List.foldl_cons]
    rcases List.mem_cons.mp h with rfl | h
    · rw [valD_keep kf vf (kf a) r _ fun c hc z => hp.1 c hc z.symm, valD_put, if_pos rfl]
    · exact valD_fold kf vf r _ hp.2 a h
end
/-- each number of an order, its place -/
def spots (o : List Nat) : List (Key × D) := o.zipIdx.foldl (fun acc (p : Nat × Nat) => putD acc (.inl (p.1 : Int)) (.int (p.2 : Nat))) []
theorem spots_at {o : List Nat} (hn : o.Nodup) {i : Nat} (hi : i < o.length) : valD (spots o) (.inl ((o[i] : Nat) : Int)) = some (.int (i : Nat)) := by
  have hm : (o[i], i) ∈ o.zipIdx := by
    rw [List.mem_iff_getElem]
    exact ⟨i, by simpa using hi, by simp⟩
  refine valD_fold (κ := Key) (fun p : Nat × Nat => (.inl (p.1 : Int) : Key)) (fun p => .int (p.2 : Nat)) o.zipIdx [] ?_ (o[i], i) hm
  rw [List.pairwise_iff_getElem]
  intro a b ha hb hab e
  simp at ha hb e
  have hne := (List.pairwise_iff_getElem.mp hn) a b ha hb hab
  exact hne (by omega)
def prD (p : Nat × Nat) : D := .tuple [.int (p.1 : Nat), .int (p.2 : Nat)]
end TL
set_option Elab.async false
set_option linter.all false
set_option maxRecDepth 100000
set_option maxHeartbeats 4000000
namespace TL
open PySem PySem.Spec PyProof.Rows L2
/-! ### turned_pairs -/
@[simp] theorem sSetDc_ap {i : Nat} {mi : IM} {g : GM} {c : CM} {mk mv : EM} {vs : List Nat} {E : En} {τ : Ev} {n : Nat} : sSetDc i mi g c mk mv vs E τ n ↔ mi τ n fun items n1 => dcD g c mk mv (wipeE τ vs) items [] n1 fun kvs n2 => E.nx (τ.set i (some (.dk kvs))) n2 := Iff.rfl
@[simp] theorem mDgetK_ap {i : Nat} {mb : EM} {τ : Ev} {n : Nat} {Q : D → Nat → Prop} : mDgetK i mb τ n Q ↔ ∃ kvs, τ[i]? = some (some (.dk kvs)) ∧ mb τ n fun y n1 => ∃ k d, y = keyD k ∧ valD kvs k = some d ∧ Q d n1 := Iff.rfl
@[simp] theorem mLc2_ap {mi : IM} {g : GM} {c : CM} {mi1 : IM} {g1 : GM} {c1 : CM} {me : EM} {vs vs1 : List Nat} {τ : Ev} {n : Nat} {Q : D → Nat → Prop} : mLc2 mi g c mi1 g1 c1 me vs vs1 τ n Q ↔ mi τ n fun items n1 => lc2D g c mi1 g1 c1 me vs1 (wipeE τ vs) items [] n1 Q := Iff.rfl
def posO (o : List Nat) (k : Nat) : Nat := o.idxOf k
def turnedL (o : List Nat) : List (Nat × Nat) := (List.range o.length).flatMap fun i => ((List.range (o.length - (i + 1))).filter fun j => decide (posO o (i + 1 + j) < posO o i)).map fun j => (i, i + 1 + j)
theorem spots_pos {o : List Nat} (hp : o.Perm (List.range o.length)) {k : Nat} (hk : k < o.length) : valD (spots o) (.inl (k : Int)) = some (.int (posO o k : Nat)) := by
  have hm : k ∈ o := hp.mem_iff.mpr (by simpa using hk)
  have hi : o.idxOf k < o.length := List.idxOf_lt_length_iff.mpr hm
  have := spots_at (hp.nodup_iff.mpr List.nodup_range) hi
  rwa [List.getElem_idxOf hi] at this
def Fturned_pairs : FM := bodyM 6 fun _ => b_turned_pairs
theorem turned_pairs_ok {o : List Nat} {n : Nat} {P : D → Nat → Prop} {PX : XE → Nat → Prop} (hp : o.Perm (List.range o.length)) (hl : o.length ≤ 300) (h : P (.list ((turnedL o).map prD)) n) : Fturned_pairs [.d (.tuple (o.map fun j => PyData.int (j : Nat)))] n P PX := by
  show bodyM 6 (fun _ => b_turned_pairs) _ _ _ _
  have z20 : 2 ^ 20 ≤ sizeLine := by decide
  simp [b_turned_pairs, wipeE]
  have e : enumD 0 (o.map fun j => PyData.int (j : Nat)) = o.zipIdx.map fun p => rawP (.int (p.2 : Nat)) (.int (p.1 : Nat)) := by
    apply List.ext_getElem?
    intro i
    rw [enumD_get]
    simp [List.getElem?_map]
    cases o[i]? <;> simp
  rw [e]
  refine dc_map (fun p : Nat × Nat => rawP (.int (p.2 : Nat)) (.int (p.1 : Nat))) (fun p => [some (.d (.tuple (o.map fun j => PyData.int (j : Nat)))), none, some (.d (.int (p.2 : Nat))), some (.d (.int (p.1 : Nat))), none, none]) (fun p => .inl (p.1 : Int)) (fun p => .int (p.2 : Nat)) o.zipIdx (fun a ha n R r => by simpa using r) (fun a ha n R r => by simpa using r) (fun a ha n R r => by simpa [keyD] using r) (fun a ha n R r => by simpa using r) [] n _ (by simp; omega) ?_
  refine ⟨by omega, ?_⟩
  refine lc2_map (fun j : Nat => PyData.int (0 + (j : Nat))) (fun i => [some (.d (.tuple (o.map fun j => PyData.int (j : Nat)))), some (.dk (spots o)), none, none, some (.d (.int (i : Nat))), none]) (fun i j => .int (((i : Nat) : Int) + 1 + (j : Nat))) (fun i => List.range (o.length - (i + 1)))
    (fun i j => [some (.d (.tuple (o.map fun j => PyData.int (j : Nat)))), some (.dk (spots o)), none, none, some (.d (.int (i : Nat))), some (.d (.int (((i : Nat) : Int) + 1 + (j : Nat))))]) (fun i j => decide (posO o (i + 1 + j) < posO o i)) (fun i j => prD (i, i + 1 + j)) 300 (List.range o.length)
    (fun a ha n R r => by simpa [spots] using r) (fun a ha n R r => by simpa using r) (fun a ha => ⟨by simp; omega, fun n R r => ?_⟩) (fun a ha b hb n R r => by simpa [wipeE] using r) (fun a ha b hb n R r => ?_) (fun a ha b hb _ n R r => ?_) [] n _ ?_ ?_
  · have ha' : a < o.length := by simpa using ha
    simp
    refine ⟨⟨by omega, by omega, by omega⟩, ?_⟩
    have e2 : ((o.length : Int) - ((a : Int) + 1)).toNat = o.length - (a + 1) := by omega
    rw [e2]
    exact r
  · have ha' : a < o.length := by simpa using ha
    have hb' : b < o.length - (a + 1) := by simpa using hb
    have s1 := spots_pos hp (k := a + 1 + b) (by omega)
    have s2 := spots_pos hp (k := a) ha'
    have ek : (((a + 1 + b : Nat)) : Int) = (a : Int) + 1 + (b : Int) := by omega
    rw [ek] at s1
    refine ⟨_, rfl, _, rfl, .inl ((a : Int) + 1 + (b : Int)), _, rfl, s1, ⟨_, rfl, _, rfl, .inl (a : Int), _, rfl, s2, ?_⟩⟩
    refine ⟨_, _, rfl, rfl, _, rfl, ?_⟩
    have e3 : decide (((posO o (a + 1 + b) : Nat) : Int) < ((posO o a : Nat) : Int)) = decide (posO o (a + 1 + b) < posO o a) := by
      by_cases z : posO o (a + 1 + b) < posO o a <;> simp [z]
    rw [e3]
    exact r
  · have e4 : (((a + 1 + b : Nat)) : Int) = (a : Int) + 1 + (b : Int) := by omega
    simp
    refine ⟨by omega, ?_⟩
    simp only [prD, e4] at r
    exact r
  · have : o.length * 300 ≤ 300 * 300 := Nat.mul_le_mul hl (Nat.le_refl _)
    simp
    omega
  · rw [List.nil_append]
    have : ((List.range o.length).flatMap fun a => ((List.range (o.length - (a + 1))).filter fun j => decide (posO o (a + 1 + j) < posO o a)).map fun j => prD (a, a + 1 + j)) = (turnedL o).map prD := by
      unfold turnedL
      rw [List.map_flatMap]
      simp [Function.comp_def]
    rw [this]
    exact h
end TL
set_option Elab.async false
set_option linter.all false
set_option maxRecDepth 100000
set_option maxHeartbeats 4000000
namespace TL
open PySem PySem.Spec PyProof.Rows L2
/-! ### who may -/
def Flets_pass : FM := bodyM 2 fun _ => b_lets_pass
theorem lets_pass_ok {a b : Int × Int} {n : Nat} {P : D → Nat → Prop} {PX : XE → Nat → Prop} (h : P (.bool (decide (a.1 < b.1 - a.2))) n) : Flets_pass [.d (pairD a), .d (pairD b)] n P PX := by
  show bodyM 2 (fun _ => b_lets_pass) _ _ _ _
  simpa [b_lets_pass] using h
def Flets_fall : FM := bodyM 2 fun _ => b_lets_fall
theorem lets_fall_ok {a b : Int × Int} {n : Nat} {P : D → Nat → Prop} {PX : XE → Nat → Prop} (h : P (.bool (decide (b.1 < a.1))) n) : Flets_fall [.d (pairD a), .d (pairD b)] n P PX := by
  show bodyM 2 (fun _ => b_lets_fall) _ _ _ _
  simpa [b_lets_fall] using h
theorem someP_eq (l : Row) : (someP l).map natD = ((List.range (l.length - 1)).filter fun j => lets l (j + 1)).map fun j => PyData.int (1 + (j : Nat)) := by
  unfold someP
  cases e : l.length with
  | zero => rfl
  | succ m =>
    have l0 : lets l 0 = false := by simp [lets]
    rw [List.range_succ_eq_map, List.filter_cons_of_neg (by simp [l0]), List.filter_map, List.map_map]
    refine List.map_congr_left fun j _ => ?_
    simp [natD]
    omega
def Fmay_pass : FM := bodyM 2 fun _ => b_may_pass Flets_pass
theorem may_pass_ok {l : Row} {n : Nat} {P : D → Nat → Prop} {PX : XE → Nat → Prop} (hl : l.length ≤ 1000) (h : P (.list ((someP l).map natD)) n) : Fmay_pass [.d (rowD l)] n P PX := by
  show bodyM 2 (fun _ => b_may_pass Flets_pass) _ _ _ _
  have z20 := sz20
  simp [b_may_pass]
  refine ⟨by omega, ?_⟩
  rw [rangeD_map]
  refine lc_map (fun j : Nat => PyData.int (1 + (j : Nat))) (fun j => [some (.d (rowD l)), some (.d (.int (1 + (j : Nat))))]) (fun j => lets l (j + 1)) (fun j => PyData.int (1 + (j : Nat))) (List.range (l.length - 1)) (fun a ha n R r => by simpa [wipeE] using r) (fun a ha n R r => ?_) (fun a ha _ n R r => by simpa using r) [] n _ (by simp; omega) (by simpa [someP_eq] using h)
  have ha' : a < l.length - 1 := by simpa using ha
  have e1 : (1 + (a : Int)).toNat = a + 1 := by omega
  have e2 : (1 + (a : Int) - 1).toNat = a := by omega
  simp (disch := omega) [lk0, ix_row, e1, e2]
  refine lets_pass_ok ?_
  unfold lets at r
  simp at r
  by_cases e : (gR l a).1 < (gR l (a + 1)).1 - (gR l a).2
  · rw [decide_eq_true e] at r ⊢
    exact .inr ⟨rfl, r⟩
  · rw [decide_eq_false e] at r ⊢
    exact .inl ⟨rfl, r⟩
def Fmay_fall : FM := bodyM 2 fun _ => b_may_fall Flets_fall
theorem may_fall_ok {l : Row} {n : Nat} {P : D → Nat → Prop} {PX : XE → Nat → Prop} (h1 : 1 ≤ l.length) (hl : l.length ≤ 1000) (h : P (.list ((someF l).map natD)) n) : Fmay_fall [.d (rowD l)] n P PX := by
  show bodyM 2 (fun _ => b_may_fall Flets_fall) _ _ _ _
  have z20 := sz20
  simp [b_may_fall]
  refine ⟨⟨by omega, by omega⟩, ?_⟩
  rw [rangeD_nat]
  refine lc_map natD (fun j => [some (.d (rowD l)), some (.d (natD j))]) (falls l) natD (List.range (l.length - 1)) (fun a ha n R r => by simpa [wipeE] using r) (fun a ha n R r => ?_) (fun a ha _ n R r => by simpa using r) [] n _ (by simp; omega) (by simpa [someF] using h)
  have ha' : a < l.length - 1 := by simpa using ha
  simp (disch := omega) [lk0, ix_row, natD, show ((a : Int) + 1).toNat = a + 1 by omega]
  refine lets_fall_ok ?_
  unfold falls at r
  by_cases e : (gR l (a + 1)).1 < (gR l a).1
  · rw [decide_eq_true e] at r ⊢
    exact .inr ⟨rfl, r⟩
  · rw [decide_eq_false e] at r ⊢
    exact .inl ⟨rfl, r⟩
def Fis_last : FM := bodyM 1 fun _ => b_is_last Fmay_pass
theorem is_last_ok {l : Row} {n : Nat} {P : D → Nat → Prop} {PX : XE → Nat → Prop} (hl : l.length ≤ 1000) (h : P (.bool (someP l).isEmpty) n) : Fis_last [.d (rowD l)] n P PX := by
  show bodyM 1 (fun _ => b_is_last Fmay_pass) _ _ _ _
  simp [b_is_last]
  refine may_pass_ok hl ?_
  rw [show (someP l).isEmpty = decide (((someP l).length : Int) = 0) by cases someP l <;> simp <;> omega] at h
  simpa using h
def Fis_first : FM := bodyM 1 fun _ => b_is_first Fmay_fall
theorem is_first_ok {l : Row} {n : Nat} {P : D → Nat → Prop} {PX : XE → Nat → Prop} (h1 : 1 ≤ l.length) (hl : l.length ≤ 1000) (h : P (.bool (someF l).isEmpty) n) : Fis_first [.d (rowD l)] n P PX := by
  show bodyM 1 (fun _ => b_is_first Fmay_fall) _ _ _ _
  simp [b_is_first]
  refine may_fall_ok h1 hl ?_
  rw [show (someF l).isEmpty = decide (((someF l).length : Int) = 0) by cases someF l <;> simp <;> omega] at h
  simpa using h
def withR (l : Row) (j : Nat) (m : Int) : Row := l.take j ++ [((gR l j).1 + m, (gR l j).2)] ++ l.drop (j + 1)
def Fwith : FM := bodyM 4 fun _ => b_law_with
theorem with_ok {l : Row} {j : Int} {m : Int} {n : Nat} {P : D → Nat → Prop} {PX : XE → Nat → Prop} (h0 : 0 ≤ j) (hj : j < l.length) (hl : l.length ≤ 1000) (h : P (rowD (withR l j.toNat m)) n) : Fwith [.d (rowD l), .d (.int j), .d (.int m)] n P PX := by
  show bodyM 4 (fun _ => b_law_with) _ _ _ _
  have z20 := sz20
  have e2 : (j + 1).toNat = j.toNat + 1 := by omega
  simp (disch := omega) [b_law_with, lk0, ix_row, sl_to, sl_from, e2, row1]
  refine ⟨by omega, by omega, by omega, by omega, ?_⟩
  simpa [withR] using h
end TL
set_option Elab.async false
set_option linter.all false
set_option maxRecDepth 100000
set_option maxHeartbeats 4000000
namespace TL
open PySem PySem.Spec PyProof.Rows L2
/-! ### last: by setting in, each one from behind -/
theorem oIns_ap' {xs : List D} {i : Int} {d : D} {P : D → List D → Prop} : oIns xs [.int i, d] P ↔ xs.length < sizeLine ∧ (0 ≤ i ∧ i < 2 ^ 63) ∧ P .none (xs.take i.toNat ++ [d] ++ xs.drop i.toNat) := by
  constructor
  · rintro ⟨i', d', e, h⟩
    cases e
    exact h
  · exact fun h => ⟨i, d, rfl, h⟩
theorem pair_eq' (a b : Int) : PyData.tuple [.int a, .int b] = pairD (a, b) := rfl
theorem ins_map' {α : Type} (f : α → D) (A B : List α) (x : α) : (List.map f (A ++ B)).take A.length ++ f x :: (List.map f (A ++ B)).drop A.length = (A ++ x :: B).map f := by
  simp [List.map_append]
theorem tolls_perm {t : Nat → Int} {A B : List Nat} (h : A.Perm B) (f : Nat → Bool) : tolls t A f = tolls t B f := by
  induction h with
  | nil => rfl
  | cons x _ ih => simp only [tolls, ih]
  | swap x y l => simp only [tolls]; omega
  | trans _ _ h1 h2 => rw [h1, h2]
def Flast : FM := bodyM 7 fun _ => b_last Flets_pass
theorem last_ok {l : Row} {w t : Nat → Int} {n : Nat} {P : D → Nat → Prop} {PX : XE → Nat → Prop} (hl : l.length ≤ 1000) (ht : ∀ c, 0 ≤ t c) (hr : rowG w t gP [] (List.range l.length) = l)
    (h : ∀ o : List Nat, o.Perm (List.range l.length) → Inv w t o → Term w t o → P (.tuple [rowD (rowG w t gP [] o), .tuple (o.map natD)]) n) : Flast [.d (rowD l)] n P PX := by
  show bodyM 7 (fun _ => b_last Flets_pass) _ _ _ _
  have z20 := sz20
  simp [b_last]
  refine (dItems_T (xs := l.map pairD)).mpr ?_
  refine for_inv (fun i τ n' => ∃ (q : List Nat) (y3 y4 y5 y6 : Option Sl), τ = [some (.d (rowD l)), some (.ow ((rowG w t gP [] q).map pairD)), some (.ow (q.map natD)), y3, y4, y5, y6] ∧ i ≤ l.length ∧ q.Perm (List.range i) ∧ Inv w t q ∧ Term w t q ∧ n' = n) _ 0 _ _
    ⟨[], none, none, none, none, rfl, by omega, by simp, fun A y B e => by simp at e, fun A a b B e => by simp at e, rfl⟩ ?_ ?_
  · rintro m x hx τ n1 N ⟨q, y3, y4, y5, y6, rfl, hil, hq, hI, hT, rfl⟩ hN
    simp only [Nat.zero_add] at hil hq hN
    have hm : m < l.length := by
      have := (List.getElem?_eq_some_iff.mp hx).1
      rw [enumD_len] at this
      simpa using this
    have hx' : x = rawP (natD m) (pairD (gR l m)) := by
      rw [enumD_get, List.getElem?_map] at hx
      simp [hm] at hx
      rw [← hx]
      simp [natD, gR, hm]
    subst hx'
    have hlt : ∀ y ∈ q, y < m := fun y hy => by simpa using hq.mem_iff.mp hy
    have hqn : q.Nodup := hq.nodup_iff.mpr List.nodup_range
    have hgm : gR l m = (w m + tolls t q (fun c => gP c m), t m) := by
      rw [← hr, gR_range hm, tolls_perm hq]
    have hql : q.length = m := by rw [hq.length_eq, List.length_range]
    rw [hgm]
    simp [natD, pairD, -eqv_int]
    refine ⟨fun k τ n' => ∃ (A B : List Nat), q = A ++ B ∧ τ = [some (.d (rowD l)), some (.ow ((rowG w t gP [] q).map pairD)), some (.ow (q.map natD)), some (.d (natD m)), some (.d (.int (w m + tolls t A (fun c => gP c m)))), some (.d (.int (t m))), some (.d (.int (A.length : Nat)))] ∧ k = A.length ∧ Inv w t (A ++ m :: B) ∧ n' = n1,
      ⟨q.length, q, [], by simp, by simp [natD, rowG_length], rfl, hI.back hlt, rfl⟩, ?_⟩
    rintro k τ n' ⟨A, B, rfl, rfl, rfl, hIp, rfl⟩
    have hlen : A.length + B.length = m := by rw [← hql]; simp
    have hins : ∀ y ∈ B, gP m y = false := fun y hy => by
      have := hlt y (by simp [hy])
      have : ¬ m < y := by omega
      simp [gP, this]
    have exitN : (∀ A' a, A = A' ++ [a] → w m - w a + tolls t A' (btwf a m) ≤ 0) → ∀ (R1 R2 : List D) (y3 y4 y5 y6 : Option Sl), R1 = (rowG w t gP [] (A ++ m :: B)).map pairD → R2 = (A ++ m :: B).map natD → N [some (.d (rowD l)), some (.ow R1), some (.ow R2), y3, y4, y5, y6] n' := by
      rintro hx R1 R2 y3 y4 y5 y6 rfl rfl
      refine hN _ _ ⟨A ++ m :: B, _, _, _, _, rfl, by omega, ?_, hIp, hT.back hlt hx, rfl⟩
      rw [List.range_succ]
      exact List.perm_middle.trans ((hq.cons m).trans (List.perm_append_comm (l₁ := [m])))
    have eq1 : ((rowG w t gP [] (A ++ B)).map pairD).take A.length ++ [pairD (w m + tolls t A (fun c => gP c m), t m)] ++ ((rowG w t gP [] (A ++ B)).map pairD).drop A.length = (rowG w t gP [] (A ++ m :: B)).map pairD := by
      rw [rowG_ins hins]
      simp [List.map_take, List.map_drop]
    have eq2 : ((A ++ B).map natD).take A.length ++ [natD m] ++ ((A ++ B).map natD).drop A.length = (A ++ m :: B).map natD := by
      have := ins_map' natD A B m
      simpa using this
    have hn63 : (A.length : Int) < 2 ^ 63 := by omega
    have hrl : (rowG w t gP [] (A ++ B)).length = m := by rw [rowG_length]; simpa using hlen
    rcases List.eq_nil_or_concat A with rfl | ⟨A', a, rfl⟩
    · simp [rowG_length, oIns_ap']
      rw [pair_eq']
      simp at hlen
      exact ⟨by omega, by omega, exitN (fun A' a e => by simp at e) _ _ _ _ _ _ (by simpa using eq1) (by simpa using eq2)⟩
    · simp only [List.concat_eq_append] at *
      have e0 : A' ++ [a] ++ B = A' ++ a :: B := by simp
      have e1 : A' ++ [a] ++ m :: B = A' ++ a :: m :: B := by simp
      have ham : a < m := hlt a (by simp)
      have lA : (A' ++ [a]).length = A'.length + 1 := by simp
      have ndp : (A' ++ a :: m :: B).Nodup := by
        rw [← e1, List.perm_middle.nodup_iff]
        exact List.nodup_cons.mpr ⟨fun z => Nat.lt_irrefl _ (hlt m z), hqn⟩
      have naA : a ∉ A' := (nodup_mid ndp).1
      have hix : atI ((rowG w t gP [] (A' ++ [a] ++ B)).map pairD) (A'.length : Int) = some (pairD (w a + tolls t A' (fun c => gP c a), t a)) := by
        have e : (A'.length : Int) = ((rowG w t gP [] A').length : Int) := by rw [rowG_length]
        rw [e, e0, rowG_append, List.map_append]
        exact atI_mid
      have hgt0 : (0 : Int) < (A'.length : Int) + 1 := by omega
      rw [lA] at hlen hn63 eq1 eq2
      simp [hgt0, hix, rowG_length, -Bool.exists_bool, -List.append_assoc]
      rw [pair_eq']
      refine ⟨by omega, lets_pass_ok ⟨_, rfl, ?_⟩⟩
      by_cases hf : (w a + tolls t A' (fun c => gP c a)) < w m + tolls t (A' ++ [a]) (fun c => gP c m) - t a
      · have hfm : lets (rowG w t gP [] (A' ++ a :: m :: B)) (A'.length + 1) = true := by
          rw [lets_mid]
          exact decide_eq_true hf
        obtain ⟨_, hI2, _⟩ := pass_step ht ndp (by rw [← e1]; exact hIp) hfm
        rw [if_pos (decide_eq_true hf)]
        refine ⟨A'.length, by omega, A', a :: B, by simp, ⟨?_, rfl⟩, rfl, hI2, rfl⟩
        rw [tolls_append]
        have : gP a m = true := by simp [gP, ham]
        simp [tolls, this]
        omega
      · rw [if_neg (by simpa using hf)]
        have et : ((A'.length : Int) + 1).toNat = A'.length + 1 := by omega
        have eq2' : (A'.map natD ++ [natD a] ++ B.map natD).take (A'.length + 1) ++ [natD m] ++ (A'.map natD ++ [natD a] ++ B.map natD).drop (A'.length + 1) = (A' ++ [a] ++ m :: B).map natD := by
          rw [← eq2]
          simp
        refine ⟨by omega, oIns_ap'.mpr ⟨by simp [rowG_length]; omega, ⟨by omega, by omega⟩, oIns_ap'.mpr ⟨by simp; omega, ⟨by omega, by omega⟩, exitN (fun A2 a2 e => ?_) _ _ _ _ _ _ (by rw [et]; exact eq1) (by rw [et]; exact eq2')⟩⟩⟩
        have := List.append_inj' e rfl
        simp at this
        obtain ⟨rfl, rfl⟩ := this
        have q := pass_iff (w := w) (t := t) ham naA
        have : ¬ 0 < w m - w a + tolls t A' (btwf a m) := fun z => hf (q.mpr z)
        omega
  · rintro τ n1 ⟨q, y3, y4, y5, y6, rfl, hil, hq, hI, hT, rfl⟩
    rw [enumD_len] at hq hil
    simp at hq hil
    simp
    exact ⟨by omega, h q hq hI hT⟩
end TL
set_option Elab.async false
set_option linter.all false
set_option maxRecDepth 100000
set_option maxHeartbeats 4000000
namespace TL
open PySem PySem.Spec PyProof.Rows L2
@[simp] theorem iR3_ap {m m' m'' : EM} {τ : Ev} {n : Nat} {R : List D → Nat → Prop} : iR3 m m' m'' τ n R ↔ m τ n fun d n1 => m' τ n1 fun d' n2 => m'' τ n2 fun d'' n3 => ∃ i j, d = .int i ∧ d' = .int j ∧ d'' = .int (-1) ∧ (-(2 ^ 62) ≤ i ∧ i < 2 ^ 62 ∧ -(2 ^ 62) ≤ j ∧ j < 2 ^ 62) ∧ R (downD i (i - j).toNat) n3 := Iff.rfl
@[simp] theorem oIns_ap {xs : List D} {i : Int} {d : D} {P : D → List D → Prop} : oIns xs [.int i, d] P ↔ xs.length < sizeLine ∧ (0 ≤ i ∧ i < 2 ^ 63) ∧ P .none (xs.take i.toNat ++ [d] ++ xs.drop i.toNat) := by
  constructor
  · rintro ⟨i', d', e, h⟩
    cases e
    exact h
  · exact fun h => ⟨i, d, rfl, h⟩
theorem pair_eq (a b : Int) : PyData.tuple [.int a, .int b] = pairD (a, b) := rfl
theorem ins_map {α : Type} (f : α → D) (A B : List α) (x : α) : (List.map f (A ++ B)).take A.length ++ f x :: (List.map f (A ++ B)).drop A.length = (A ++ x :: B).map f := by
  simp [List.map_append]
/-! ### first: by setting in, the hindmost ahead of the others -/
def Ffirst : FM := bodyM 7 fun _ => b_first Flets_fall
theorem first_ok {l : Row} {s t : Nat → Int} {n : Nat} {P : D → Nat → Prop} {PX : XE → Nat → Prop} (h1 : 1 ≤ l.length) (hl : l.length ≤ 1000) (ht : ∀ c, 0 ≤ t c) (hr : rowG s t gF [] (List.range l.length) = l)
    (h : ∀ o : List Nat, o.Perm (List.range l.length) → Inv (fun c => - s c) t o → Term (fun c => - s c) t o → P (.tuple [rowD (rowG s t gF [] o), .tuple (o.map natD)]) n) : Ffirst [.d (rowD l)] n P PX := by
  show bodyM 7 (fun _ => b_first Flets_fall) _ _ _ _
  have z20 := sz20
  simp [b_first]
  refine ⟨⟨by omega, by omega⟩, ?_⟩
  refine for_inv (fun i τ n' => ∃ (q : List Nat) (y3 y4 y5 y6 : Option Sl), τ = [some (.d (rowD l)), some (.ow ((rowG s t gF [] q).map pairD)), some (.ow (q.map natD)), y3, y4, y5, y6] ∧ i ≤ l.length ∧ q.Perm (List.range' (l.length - i) i) ∧ Inv (fun c => - s c) t q ∧ Term (fun c => - s c) t q ∧ n' = n) _ 0 _ _
    ⟨[], none, none, none, none, rfl, by omega, by simp, fun A y B e => by simp at e, fun A a b B e => by simp at e, rfl⟩ ?_ ?_
  · rintro i x hx τ n1 N ⟨q, y3, y4, y5, y6, rfl, hil, hq, hI, hT, rfl⟩ hN
    simp only [Nat.zero_add] at hil hq hN
    have hi : i < l.length := by
      have := (List.getElem?_eq_some_iff.mp hx).1
      simp [downD] at this
      omega
    obtain ⟨p, hp⟩ : ∃ p : Nat, p + i + 1 = l.length := ⟨l.length - i - 1, by omega⟩
    have hx' : x = natD p := by
      unfold downD at hx
      rw [List.getElem?_map, List.getElem?_range (by omega)] at hx
      simp at hx
      rw [← hx]
      simp [natD]
      omega
    subst hx'
    have hgt : ∀ y ∈ q, p < y := fun y hy => by
      have := hq.mem_iff.mp hy
      rw [List.mem_range'_1] at this
      omega
    have hqn : q.Nodup := hq.nodup_iff.mpr List.nodup_range'
    have hgp : gR l p = (s p, t p) := by
      rw [← hr, gR_range (by omega), tolls_none]
      · simp
      · intro c hc
        have : c < p := by simpa using hc
        have : ¬ p < c := by omega
        simp [gF, this]
    have hql : q.length = i := by rw [hq.length_eq, List.length_range']
    have tz : tolls t [] (fun c => gF c p) = 0 := rfl
    simp (disch := omega) [lk0, natD, ix_row, hgp]
    refine ⟨by omega, ?_⟩
    refine ⟨fun k τ n' => ∃ (A B : List Nat), q = A ++ B ∧ τ = [some (.d (rowD l)), some (.ow ((rowG s t gF [] q).map pairD)), some (.ow (q.map natD)), some (.d (natD p)), some (.d (.int (s p + tolls t A (fun c => gF c p)))), some (.d (.int (t p))), some (.d (.int (A.length : Nat)))] ∧ k = B.length ∧ Inv (fun c => - s c) t (A ++ p :: B) ∧ n' = n1,
      ⟨q.length, [], q, rfl, by simp [natD, tz], rfl, hI.front hgt, rfl⟩, ?_⟩
    rintro k τ n' ⟨A, B, rfl, rfl, rfl, hIp, rfl⟩
    have hlen : A.length + B.length = i := by rw [← hql]; simp
    have hins : ∀ y ∈ B, gF p y = false := fun y hy => by
      have := hgt y (by simp [hy])
      have : ¬ y < p := by omega
      simp [gF, this]
    have exitN : (∀ b B', B = b :: B' → - s b - - s p + tolls t A (btwf p b) ≤ 0) → ∀ (R1 R2 : List D) (y3 y4 y5 y6 : Option Sl), R1 = (rowG s t gF [] (A ++ p :: B)).map pairD → R2 = (A ++ p :: B).map natD → N [some (.d (rowD l)), some (.ow R1), some (.ow R2), y3, y4, y5, y6] n' := by
      rintro hx R1 R2 y3 y4 y5 y6 rfl rfl
      refine hN _ _ ⟨A ++ p :: B, _, _, _, _, rfl, by omega, ?_, hIp, hT.front hgt hx, rfl⟩
      have e1 : l.length - i = p + 1 := by omega
      rw [e1] at hq
      rw [show l.length - (i + 1) = p by omega, List.range'_succ]
      exact List.perm_middle.trans (hq.cons p)
    have eq1 : ((rowG s t gF [] (A ++ B)).map pairD).take A.length ++ [pairD (s p + tolls t A (fun c => gF c p), t p)] ++ ((rowG s t gF [] (A ++ B)).map pairD).drop A.length = (rowG s t gF [] (A ++ p :: B)).map pairD := by
      rw [rowG_ins hins]
      simp [List.map_take, List.map_drop]
    have eq2 : ((A ++ B).map natD).take A.length ++ [natD p] ++ ((A ++ B).map natD).drop A.length = (A ++ p :: B).map natD := by
      have := ins_map natD A B p
      simpa using this
    have hn63 : (A.length : Int) < 2 ^ 63 := by omega
    have hrl : (rowG s t gF [] (A ++ B)).length = i := by rw [rowG_length]; simpa using hlen
    cases B with
    | nil =>
      simp only [List.length_nil] at hlen
      simp [rowG_length]
      rw [pair_eq]
      exact ⟨by omega, by omega, by omega, by omega, by omega, exitN (fun b B' e => by cases e) _ _ _ _ _ _ (by simpa using eq1) (by simpa using eq2)⟩
    | cons b B' =>
      simp only [List.length_cons] at hlen
      have hix : atI ((rowG s t gF [] (A ++ b :: B')).map pairD) (A.length : Int) = some (pairD (s b + tolls t A (fun c => gF c b), t b)) := by
        have e : (A.length : Int) = ((rowG s t gF [] A).length : Int) := by rw [rowG_length]
        rw [e, rowG_append, List.map_append]
        exact atI_mid
      have hlt : (A.length : Int) < (A.length : Int) + ((B'.length : Int) + 1) := by omega
      simp [hix, hlt, rowG_length, -Bool.exists_bool]
      rw [pair_eq]
      refine ⟨by omega, lets_fall_ok ?_⟩
      refine ⟨_, rfl, ?_⟩
      have hpb : p < b := hgt b (by simp)
      have nbA : b ∉ A := (nodup_mid (A := A) (B := B') (a := p) (b := b) (by
        have := hqn
        rw [List.perm_middle.nodup_iff]
        exact List.nodup_cons.mpr ⟨fun z => Nat.lt_irrefl _ (hgt p z), this⟩)).2.1
      have ndp : (A ++ p :: b :: B').Nodup := by
        rw [List.perm_middle.nodup_iff]
        exact List.nodup_cons.mpr ⟨fun z => Nat.lt_irrefl _ (hgt p z), hqn⟩
      have zb : tolls t [p] (fun c => gF c b) = 0 := by
        have : ¬ b < p := by omega
        simp [tolls, gF, this]
      by_cases hf : s b + tolls t A (fun c => gF c b) < s p + tolls t A (fun c => gF c p)
      · have hfm : falls (rowG s t gF [] (A ++ p :: b :: B')) A.length = true := by
          rw [falls_mid, tolls_append, zb]
          exact decide_eq_true (by omega)
        obtain ⟨_, hI2, _⟩ := fall_step ht ndp hIp hfm
        simp [hf, hix]
        refine ⟨B'.length, by omega, A ++ [b], B', by simp, ⟨?_, by simp⟩, rfl, by simpa using hI2⟩
        rw [tolls_append]
        have : gF b p = true := by simp [gF, hpb]
        simp [tolls, this]
        omega
      · simp [hf]
        refine ⟨by omega, by omega, by omega, by omega, by omega, exitN (fun b2 B2 e => ?_) _ _ _ _ _ _ (by simpa using eq1) (by simpa using eq2)⟩
        simp at e
        obtain ⟨rfl, rfl⟩ := e
        have q := fall_iff (s := s) (t := t) hpb nbA
        rw [tolls_append, zb] at q
        have : ¬ 0 < - s b - - s p + tolls t A (btwf p b) := fun z => by
          have := q.mpr z
          omega
        omega
  · rintro τ n1 ⟨q, y3, y4, y5, y6, rfl, hil, hq, hI, hT, rfl⟩
    simp [downD] at hq hil
    simp
    refine ⟨by omega, h q ?_ hI hT⟩
    rw [List.range_eq_range']
    exact hq
end TL
set_option Elab.async false
set_option linter.all false
set_option maxRecDepth 100000
set_option maxHeartbeats 4000000
namespace TL
open PySem PySem.Spec PyProof.Rows L2
/-! ### repr of a row -/
theorem lay_pair (p : Int × Int) : Lay 1 (pairD p) := lay_tup (n := 0) fun x hx => by
  simp at hx
  rcases hx with rfl | rfl <;> exact lay_int
theorem lay_row (l : Row) : Lay 2 (rowD l) := lay_tup (n := 1) fun x hx => by
  obtain ⟨p, _, rfl⟩ := List.mem_map.mp hx
  exact lay_pair p
theorem eqv_self {n : Nat} {d : D} (h : Lay n d) : PyData.eqv d d = true := PySem.SeqAt.eqv_refl d h.1
/-! ### the text of a row is a text -/
theorem ok_of (s : String) : PyData.strOk (Str.ofString s) = true := by
  unfold PyData.strOk
  rw [Str.ofString_eq_toList]
  simp
  intro c _
  have := c.valid
  simp only [UInt32.isValidChar, Nat.isValidChar] at this
  show c.val.toNat < 1114112
  omega
theorem ok_app {x y : Str} (hx : PyData.strOk x = true) (hy : PyData.strOk y = true) : PyData.strOk (x ++ y) = true := by
  unfold PyData.strOk at hx hy ⊢
  show (x.cps ++ y.cps).all _ = true
  rw [Array.all_append, hx, hy]
  rfl
theorem ok_join : ∀ ts : List Str, (∀ t ∈ ts, PyData.strOk t = true) → PyData.strOk (Str.join ", " ts) = true
  | [], _ => ok_of ""
  | [x], h => h x (by simp)
  | x :: y :: r, h => ok_app (ok_app (h x (by simp)) (ok_of ", ")) (ok_join (y :: r) fun t ht => h t (List.mem_cons_of_mem _ ht))
theorem ok_tuple (ts : List Str) (h : ∀ t ∈ ts, PyData.strOk t = true) : PyData.strOk (tupleText ts) = true := ok_app (ok_app (ok_of "(") (ok_join ts h)) (by split <;> exact ok_of _)
end TL
set_option Elab.async false
set_option linter.all false
set_option maxRecDepth 100000
set_option maxHeartbeats 4000000
namespace TL
open PySem PySem.Spec PyProof.Rows L2
/-! ### the ends, told once -/
theorem Ended.eq {l l1 : Row} {o : List Nat} (h0 : T0 l) (b : Ended l l1 o) : o = lastO l ∧ l1 = lastR l := by
  obtain ⟨w, t, ht, hr, hp, hI, e⟩ := b.ex
  obtain ⟨e1, e2⟩ := last_uniq h0 hr hp hI (term_pass (hp.nodup_iff.mpr List.nodup_range) (by rw [← e]; exact b.no))
  exact ⟨e1, by rw [e, e2]⟩
theorem Begun.eq {l l1 : Row} {o : List Nat} (h0 : T0 l) (b : Begun l l1 o) : o = firstO l ∧ l1 = firstR l := by
  obtain ⟨w, t, ht, hr, hp, hI, e⟩ := b.ex
  obtain ⟨e1, e2⟩ := first_uniq h0 hr hp hI (term_fall (hp.nodup_iff.mpr List.nodup_range) (by rw [← e]; exact b.no))
  exact ⟨e1, by rw [e, e2]⟩
noncomputable def lastD (l : Row) : D := .tuple [rowD (lastR l), .tuple ((lastO l).map natD)]
noncomputable def firstD (l : Row) : D := .tuple [rowD (firstR l), .tuple ((firstO l).map natD)]
def prL (ps : List (Nat × Nat)) : D := .list (ps.map prD)
theorem last_ok2 {l : Row} {n : Nat} {P : D → Nat → Prop} {PX : XE → Nat → Prop} (h0 : T0 l) (hl : l.length ≤ 1000) (h : P (lastD l) n) : Flast [.d (rowD l)] n P PX := by
  refine last_ok hl (tP_nn h0) (rowG_P l) fun o hp hI hT => ?_
  obtain ⟨e1, e2⟩ := last_uniq h0 (rowG_P l) hp hI hT
  rw [e2, e1]
  exact h
theorem first_ok2 {l : Row} {n : Nat} {P : D → Nat → Prop} {PX : XE → Nat → Prop} (h0 : T0 l) (h1 : 1 ≤ l.length) (hl : l.length ≤ 1000) (h : P (firstD l) n) : Ffirst [.d (rowD l)] n P PX := by
  refine first_ok h1 hl (tP_nn h0) (rowG_F l) fun o hp hI hT => ?_
  obtain ⟨e1, e2⟩ := first_uniq h0 (rowG_F l) hp hI hT
  rw [e2, e1]
  exact h
theorem turnedL_eq (o : List Nat) : turnedL o = pairsU o.length fun i j => ah o j i := rfl
def Fpassings : FM := bodyM 1 fun _ => b_passings Fturned_pairs Flast
theorem passings_ok {l : Row} {n : Nat} {P : D → Nat → Prop} {PX : XE → Nat → Prop} (h0 : T0 l) (hl : l.length ≤ 300) (h : P (prL (passL l)) n) : Fpassings [.d (rowD l)] n P PX := by
  show bodyM 1 (fun _ => b_passings Fturned_pairs Flast) _ _ _ _
  simp [b_passings]
  refine last_ok2 h0 (by omega) ?_
  simp [lastD]
  have hlen := lastO_len h0
  refine turned_pairs_ok (o := lastO l) (by rw [hlen]; exact (lastO_spec h0).1) (by omega) ?_
  rw [turnedL_eq, hlen, passL_eq h0]
  exact h
def Ffallings : FM := bodyM 1 fun _ => b_fallings Fturned_pairs Ffirst
theorem fallings_ok {l : Row} {n : Nat} {P : D → Nat → Prop} {PX : XE → Nat → Prop} (h0 : T0 l) (h1 : 1 ≤ l.length) (hl : l.length ≤ 300) (h : P (prL (fallL l)) n) : Ffallings [.d (rowD l)] n P PX := by
  show bodyM 1 (fun _ => b_fallings Fturned_pairs Ffirst) _ _ _ _
  simp [b_fallings]
  refine first_ok2 h0 h1 (by omega) ?_
  simp [firstD]
  have hlen := firstO_len h0
  refine turned_pairs_ok (o := firstO l) (by rw [hlen]; exact (firstO_spec h0).1) (by omega) ?_
  rw [turnedL_eq, hlen]
  exact h
end TL
set_option Elab.async false
set_option linter.all false
set_option maxRecDepth 100000
set_option maxHeartbeats 4000000
namespace TL
open PySem PySem.Spec PyProof.Rows L2
/-! ### lists of pairs -/
theorem eqv_prD (p q : Nat × Nat) : PyData.eqv (prD p) (prD q) = decide (p = q) := by
  have e : decide (p = q) = (decide (p.1 = q.1) && decide (p.2 = q.2)) := by
    rw [Bool.eq_iff_iff]
    simp [Prod.ext_iff]
  rw [e]
  simp [prD, PyData.eqv, PyData.eqvAll]
  rw [Bool.eq_iff_iff]
  simp
  omega
theorem lay_prD (p : Nat × Nat) : Lay 1 (prD p) := lay_tup (n := 0) fun x hx => by
  simp at hx
  rcases hx with rfl | rfl <;> exact lay_int
theorem lay_prL (ps : List (Nat × Nat)) : Lay 2 (prL ps) := lay_list (n := 1) fun x hx => by
  obtain ⟨p, _, rfl⟩ := List.mem_map.mp hx
  exact lay_prD p
theorem any_prD (p : Nat × Nat) (ps : List (Nat × Nat)) : ((ps.map prD).any fun z => PyData.eqv z (prD p)) = decide (p ∈ ps) := by
  induction ps with
  | nil => rfl
  | cons q r ih =>
    rw [List.map_cons, List.any_cons, ih, eqv_prD, Bool.eq_iff_iff]
    simp
    constructor
    · rintro (h | h)
      · exact .inl h.symm
      · exact .inr h
    · rintro (h | h)
      · exact .inl h.symm
      · exact .inr h
@[simp] theorem mem_prL {neg : Bool} {p : Nat × Nat} {ps : List (Nat × Nat)} {P : D → Prop} : dMem neg (prD p) (prL ps) P ↔ P (.bool (if neg then !decide (p ∈ ps) else decide (p ∈ ps))) := by
  constructor
  · rintro ⟨ds, e, _, h⟩
    cases e
    rw [any_prD] at h
    exact h
  · intro h
    refine ⟨ps.map prD, rfl, ⟨(lay_prD p).shaped, (lay_prL ps).shaped⟩, ?_⟩
    rw [any_prD]
    exact h
@[simp] theorem items_prL {ps : List (Nat × Nat)} {P : List D → Prop} : dItems (prL ps) P ↔ P (ps.map prD) := by simp [prL]
@[simp] theorem len_prL {ps : List (Nat × Nat)} {P : D → Prop} : dLen (prL ps) P ↔ P (.int ps.length) := by simp [prL]
@[simp] theorem gT_prD {g : GMs} {p : Nat × Nat} {τ : Ev} {n : Nat} {R : Ev → Nat → Prop} : gT 2 g (prD p) τ n R ↔ g [.int (p.1 : Nat), .int (p.2 : Nat)] τ n R := by simp [prD]
@[simp] theorem ix_prD0 {p : Nat × Nat} {P : D → Prop} : dIx (prD p) (.int 0) P ↔ P (.int (p.1 : Nat)) := by simp [prD]
@[simp] theorem ix_prD1 {p : Nat × Nat} {P : D → Prop} : dIx (prD p) (.int 1) P ↔ P (.int (p.2 : Nat)) := by simp [prD]
@[simp] theorem atI_2 {α : Type} {x y z : α} {xs : List α} : atI (x :: y :: z :: xs) 2 = some z := by rw [atI_nat _ (by decide)]; rfl
@[simp] theorem atI_3 {α : Type} {x y z u : α} {xs : List α} : atI (x :: y :: z :: u :: xs) 3 = some u := by rw [atI_nat _ (by decide)]; rfl
@[simp] theorem eqv_prL_nil {ps : List (Nat × Nat)} : PyData.eqv (prL ps) (.list []) = ps.isEmpty := by simp [prL]
@[simp] theorem shaped_prL {ps : List (Nat × Nat)} : SeqAt.shaped (prL ps) = true := (lay_prL ps).shaped
@[simp] theorem shaped_prD {p : Nat × Nat} : SeqAt.shaped (prD p) = true := (lay_prD p).shaped
/-! ### comprehensions that draw -/
end TL
set_option Elab.async false
set_option linter.all false
set_option maxRecDepth 100000
set_option maxHeartbeats 4000000
namespace TL
open PySem PySem.Spec PyProof.Rows L2
theorem big_cap : 10 ^ 12 < cap := by decide +kernel
theorem lay_nats (o : List Nat) : Lay 1 (.tuple (o.map natD)) := lay_tup (n := 0) fun x hx => by
  obtain ⟨j, _, rfl⟩ := List.mem_map.mp hx
  exact lay_int
@[simp] theorem shaped_rowD {l : Row} : SeqAt.shaped (rowD l) = true := (lay_row l).shaped
@[simp] theorem eqv_rowD {l : Row} : PyData.eqv (rowD l) (rowD l) = true := eqv_self (lay_row l)
@[simp] theorem shaped_nats' {o : List Nat} : SeqAt.shaped (.tuple (o.map natD)) = true := (lay_nats o).shaped
@[simp] theorem eqv_nats' {o : List Nat} : PyData.eqv (.tuple (o.map natD)) (.tuple (o.map natD)) = true := eqv_self (lay_nats o)
theorem lay_ints (ns : List Int) : Lay 1 (.list (ns.map .int)) := lay_list (n := 0) fun x hx => by
  obtain ⟨j, _, rfl⟩ := List.mem_map.mp hx
  exact lay_int
@[simp] theorem shaped_ints {ns : List Int} : SeqAt.shaped (.list (ns.map .int)) = true := (lay_ints ns).shaped
@[simp] theorem eqv_ints {ns : List Int} : PyData.eqv (.list (ns.map .int)) (.list (ns.map .int)) = true := eqv_self (lay_ints ns)
@[simp] theorem items_rowD {l : Row} {P : List D → Prop} : dItems (rowD l) P ↔ P (l.map pairD) := by simp [rowD]
end TL
set_option Elab.async false
set_option linter.all false
set_option maxRecDepth 100000
set_option maxHeartbeats 4000000
namespace TL
open PySem PySem.Spec PyProof.Rows L2
/-! ### never -/
theorem nvF_bar (l : Row) (i : Nat) : ∀ k, (nvF l i k).1 = barN l i k
  | 0 => rfl
  | k + 1 => by
    have e : nvG l (i + 1 + k) = gR l (i + 1 + k) := rfl
    simp only [nvF, barN, nvF_bar l i k, e]
    split
    · rfl
    · exact nvF_bar l i k
def nvL (l : Row) (i : Nat) (k : Nat) : List Nat := (List.range' (i + 1) k).filter fun j => !Pv l i j
theorem nvF_list (l : Row) (i : Nat) : ∀ k, (nvF l i k).2 = nvL l i k
  | 0 => rfl
  | k + 1 => by
    have e : nvG l (i + 1 + k) = gR l (i + 1 + k) := rfl
    have ep : Pv l i (i + 1 + k) = decide (barN l i k < (gR l (i + 1 + k)).1) := by
      unfold Pv
      rw [show i + 1 + k - (i + 1) = k by omega]
    unfold nvL
    rw [List.range'_1_concat, List.filter_append, nvF, nvF_bar, e, nvF_list l i k]
    by_cases h : (gR l (i + 1 + k)).1 ≤ barN l i k
    · rw [if_pos h, List.filter_cons_of_pos (by rw [ep]; simp; exact h)]
      rfl
    · rw [if_neg h, List.filter_cons_of_neg (by rw [ep]; simp; omega), List.filter_nil, List.append_nil]
      exact nvF_list l i k
/-- those behind one that never pass it -/
def nvRow (l : Row) (i : Nat) : List Nat := nvL l i (l.length - (i + 1))
theorem mem_nvRow {l : Row} {i j : Nat} : j ∈ nvRow l i ↔ i < j ∧ j < l.length ∧ Pv l i j = false := by
  unfold nvRow nvL
  rw [List.mem_filter, List.mem_range'_1]
  constructor
  · rintro ⟨h1, h2⟩
    exact ⟨by omega, by omega, by simpa using h2⟩
  · rintro ⟨h1, h2, h3⟩
    exact ⟨by omega, by simp [h3]⟩
theorem nvT_eq (l : Row) : nvT l = (List.range l.length).map (nvRow l) := List.map_congr_left fun i _ => nvF_list l i _
def natsL (xs : List Nat) : D := .list (xs.map natD)
def neverD (l : Row) : D := .list ((List.range l.length).map fun i => natsL (nvRow l i))
theorem nvTD_eq (l : Row) : nvTD l = neverD l := by
  unfold nvTD neverD
  rw [nvT_eq, List.map_map]
  rfl
theorem never_ok {l : Row} {n : Nat} {P : D → Nat → Prop} {PX : XE → Nat → Prop} (hl : l.length ≤ 1000) (h : P (neverD l) n) : fNever [.d (rowD l)] n P PX := ⟨l, rfl, hl, by rw [nvTD_eq]; exact h⟩
theorem ix_never {l : Row} {i : Nat} {P : D → Prop} (hi : i < l.length) : dIx (neverD l) (.int (i : Nat)) P ↔ P (natsL (nvRow l i)) := by
  unfold neverD
  rw [dIx_L, atI_nat _ (by omega)]
  simp [hi]
theorem lay_natsL (xs : List Nat) : Lay 1 (natsL xs) := lay_list (n := 0) fun x hx => by
  obtain ⟨j, _, rfl⟩ := List.mem_map.mp hx
  exact lay_int
theorem any_natD (j : Nat) (xs : List Nat) : ((xs.map natD).any fun z => PyData.eqv z (.int (j : Nat))) = decide (j ∈ xs) := by
  induction xs with
  | nil => rfl
  | cons x r ih =>
    rw [List.map_cons, List.any_cons, ih]
    have e : PyData.eqv (natD x) (.int (j : Nat)) = decide (j = x) := by
      unfold natD
      rw [eqv_int, Bool.eq_iff_iff]
      simp
      omega
    rw [e, Bool.eq_iff_iff]
    simp
@[simp] theorem mem_natsL {neg : Bool} {j : Nat} {xs : List Nat} {P : D → Prop} : dMem neg (.int (j : Nat)) (natsL xs) P ↔ P (.bool (if neg then !decide (j ∈ xs) else decide (j ∈ xs))) := by
  constructor
  · rintro ⟨ds, e, _, h⟩
    cases e
    rw [any_natD] at h
    exact h
  · intro h
    refine ⟨xs.map natD, rfl, ⟨rfl, (lay_natsL xs).shaped⟩, ?_⟩
    rw [any_natD]
    exact h
def Fever : FM := bodyM 3 fun _ => b_ever fNever
theorem ever_ok {l : Row} {i j : Nat} {n : Nat} {P : D → Nat → Prop} {PX : XE → Nat → Prop} (hl : l.length ≤ 1000) (hij : i < j) (hj : j < l.length) (h : P (.bool (Pv l i j)) n) : Fever [.d (rowD l), .d (.int (i : Nat)), .d (.int (j : Nat))] n P PX := by
  show bodyM 3 (fun _ => b_ever fNever) _ _ _ _
  simp [b_ever]
  refine never_ok hl ?_
  rw [ix_never (by omega)]
  have e : (!decide (j ∈ nvRow l i)) = Pv l i j := by
    rw [Bool.eq_iff_iff]
    simp [mem_nvRow, hij, hj]
  simp
  rw [← e] at h
  simpa using h
end TL
set_option Elab.async false
set_option linter.all false
set_option maxRecDepth 100000
set_option maxHeartbeats 4000000
namespace TL
open PySem PySem.Spec PyProof.Rows L2
/-! ### rows joined -/
@[simp] theorem tuple_row {l : Row} {P : D → Prop} : dTuple (rowD l) P ↔ P (rowD l) := by simp [rowD]
@[simp] theorem slOf_prL {ps : List (Nat × Nat)} : slOf .nw (prL ps) = .ow (ps.map prD) := rfl
end TL
set_option Elab.async false
set_option linter.all false
set_option maxRecDepth 100000
set_option maxHeartbeats 4000000
namespace TL
open PySem PySem.Spec PyProof.Rows L2
/-! ### things of any kind -/
def okS (x : Str) : Prop := PyData.strOk x = true ∧ PyData.strOk (reprText x) = true ∧ x.cps.size ≤ 20 ∧ x.length ≤ 20
def Atm (B : Nat) : D → Prop
  | .int i => i.natAbs < B
  | .bool _ => True
  | .none => True
  | .str x => okS x
  | _ => False
def Tm (B : Nat) : Nat → D → Prop
  | 0, d => Atm B d
  | k + 1, d => Atm B d ∨ ∃ xs, (d = .list xs ∨ d = .tuple xs) ∧ ∀ x ∈ xs, Tm B k x
mutual
def sz : D → Nat
  | .list xs => szA xs + 1
  | .tuple xs => szA xs + 1
  | .none => 1
  | .bool _ => 1
  | .int _ => 1
  | .str _ => 1
  | .dict _ => 1
def szA : List D → Nat
  | [] => 0
  | x :: xs => sz x + szA xs
end
theorem atm_tm {B k : Nat} {d : D} (h : Atm B d) : Tm B k d := by
  cases k with
  | zero => exact h
  | succ k => exact .inl h
theorem atm_up {B B' : Nat} {d : D} (h : Atm B d) (hB : B ≤ B') : Atm B' d := by
  cases d <;> first | exact h | exact Nat.lt_of_lt_of_le h hB
theorem tm_up : ∀ {k k' B B' : Nat} {d : D}, Tm B k d → k ≤ k' → B ≤ B' → Tm B' k' d
  | 0, k', B, B', d, h, _, hB => atm_tm (atm_up h hB)
  | k + 1, 0, _, _, _, _, hk, _ => by omega
  | k + 1, k' + 1, B, B', d, h, hk, hB => by
    rcases h with h | ⟨xs, e, h⟩
    · exact .inl (atm_up h hB)
    · exact .inr ⟨xs, e, fun x hx => tm_up (h x hx) (by omega) hB⟩
theorem tm_list {B k : Nat} {xs : List D} (h : ∀ x ∈ xs, Tm B k x) : Tm B (k + 1) (.list xs) := .inr ⟨xs, .inl rfl, h⟩
theorem tm_tup {B k : Nat} {xs : List D} (h : ∀ x ∈ xs, Tm B k x) : Tm B (k + 1) (.tuple xs) := .inr ⟨xs, .inr rfl, h⟩
theorem tm_mem {B k : Nat} {xs : List D} (h : Tm B (k + 1) (.list xs) ∨ Tm B (k + 1) (.tuple xs)) : ∀ x ∈ xs, Tm B k x := by
  rcases h with (h | ⟨ys, e | e, h⟩) | (h | ⟨ys, e | e, h⟩)
  · exact h.elim
  · cases e; exact h
  · cases e
  · exact h.elim
  · cases e
  · cases e; exact h
theorem sz_pos : ∀ d : D, 1 ≤ sz d
  | .list xs => by simp [sz]
  | .tuple xs => by simp [sz]
  | .none => by simp [sz]
  | .bool _ => by simp [sz]
  | .int _ => by simp [sz]
  | .str _ => by simp [sz]
  | .dict _ => by simp [sz]
theorem szA_app (xs ys : List D) : szA (xs ++ ys) = szA xs + szA ys := by
  induction xs with
  | nil => simp [szA]
  | cons x r ih => simp [szA, ih]; omega
theorem szA_mem : ∀ {xs : List D} {x : D}, x ∈ xs → sz x ≤ szA xs
  | y :: r, x, h => by
    rcases List.mem_cons.mp h with rfl | h
    · simp [szA]
    · have := szA_mem h
      simp [szA]; omega
theorem szA_len (xs : List D) : xs.length ≤ szA xs := by
  induction xs with
  | nil => simp
  | cons x r ih =>
    have := sz_pos x
    simp [szA]; omega
/-! ### their texts -/
theorem ok_from : ∀ (ts : List Str) (k : Nat) (acc : Str), PyData.strOk acc = true → (∀ t ∈ ts, PyData.strOk t = true) → PyData.strOk (textFrom k acc ts) = true
  | [], _, _, h, _ => h
  | t :: r, k, acc, h, ht => by
    unfold textFrom
    exact ok_from r _ _ (ok_app (ok_app h (by split <;> exact ok_of _)) (ht t (by simp))) fun u hu => ht u (List.mem_cons_of_mem _ hu)
theorem ok_listT (ts : List Str) (h : ∀ t ∈ ts, PyData.strOk t = true) : PyData.strOk (listText ts) = true := ok_app (ok_from ts 0 "[" (ok_of "[") h) (ok_of "]")
structure TmF (k : Nat) (d : D) : Prop where
  lay : d.canLay0 = true
  dep : d.depth ≤ k
  sho : d.showable = true
  inz : d.intsShort 40 = true
  wei : d.weight + 1 ≤ 130 * sz d
  txt : PyData.strOk d.shown = true
structure TmFs (k : Nat) (ds : List D) : Prop where
  lay : PyData.canLayAll0 ds = true
  dep : PyData.depthAll ds ≤ k
  sho : PyData.showableAll ds = true
  inz : PyData.intsShortAll 40 ds = true
  wei : PyData.weightAll ds ≤ 130 * szA ds
  txt : ∀ t ∈ PyData.shownAll ds, PyData.strOk t = true
theorem tmFs {k : Nat} : ∀ {ds : List D}, (∀ d ∈ ds, TmF k d) → TmFs k ds
  | [], _ => ⟨rfl, by simp [PyData.depthAll], rfl, rfl, by simp [PyData.weightAll, szA], fun t h => by simp [PyData.shownAll] at h⟩
  | d :: r, h => by
    obtain ⟨a1, a2, a3, a4, a5, a6⟩ := h d (by simp)
    obtain ⟨b1, b2, b3, b4, b5, b6⟩ := tmFs (ds := r) fun x hx => h x (List.mem_cons_of_mem _ hx)
    refine ⟨by simp [PyData.canLayAll0, a1, b1], by simp only [PyData.depthAll]; omega, by simp [PyData.showableAll, a3, b3], by simp [PyData.intsShortAll, a4, b4], by simp only [PyData.weightAll, szA]; omega, fun t ht => ?_⟩
    simp only [PyData.shownAll] at ht
    rcases List.mem_cons.mp ht with rfl | ht
    · exact a6
    · exact b6 t ht
theorem tmF : ∀ {k B : Nat} {d : D}, B ≤ 10 ^ 35 → Tm B k d → TmF k d
  | k, B, .int i, hB, h => by
    have hi : i.natAbs < B := by
      cases k with
      | zero => exact h
      | succ k => rcases h with h | ⟨xs, e | e, _⟩ <;> first | exact h | cases e
    have h2 : i.natAbs < 2 ^ 120 := Nat.lt_of_lt_of_le (Nat.lt_of_lt_of_le hi hB) (by decide)
    have hl : i.natAbs.log2 < 120 := by
      by_cases z : i.natAbs = 0
      · rw [z]; decide
      · exact (Nat.log2_lt z).mpr h2
    refine ⟨by simp [PyData.canLay0], by simp [PyData.depth], by simp [PyData.showable]; omega, ?_, ?_, ok_of _⟩
    · have e := int_text_length_le10 (k := 35) (by decide) (Nat.lt_of_lt_of_le hi hB)
      simp only [PyData.intsShort, decide_eq_true_eq]
      show (Str.ofString (toString i)).length ≤ 40
      rw [PySem.ofString_length]; omega
    · simp only [PyData.weight, sz]
      split <;> omega
  | _, _, .bool b, _, _ => ⟨by simp [PyData.canLay0], by simp [PyData.depth], rfl, rfl, by simp [PyData.weight, sz], by cases b <;> exact ok_of _⟩
  | _, _, .none, _, _ => ⟨by simp [PyData.canLay0], by simp [PyData.depth], rfl, rfl, by simp [PyData.weight, sz], ok_of _⟩
  | k, B, .str x, _, h => by
    have hs : okS x := by
      cases k with
      | zero => exact h
      | succ k => rcases h with h | ⟨xs, e | e, _⟩ <;> first | exact h | cases e
    obtain ⟨s1, s2, s3, s4⟩ := hs
    exact ⟨by simpa [PyData.canLay0] using s1, by simp [PyData.depth], rfl, rfl, by simp only [PyData.weight, sz]; omega, by simpa [PyData.shown] using s2⟩
  | 0, _, .list _, _, h => h.elim
  | 0, _, .tuple _, _, h => h.elim
  | k + 1, B, .list xs, hB, h => by
    obtain ⟨b1, b2, b3, b4, b5, b6⟩ := tmFs (k := k) fun x hx => tmF hB (tm_mem (.inl h) x hx)
    exact ⟨by simpa [PyData.canLay0] using b1, by simp only [PyData.depth]; omega, by simpa [PyData.showable] using b3, by simpa [PyData.intsShort] using b4, by simp only [PyData.weight, sz]; omega, by simp only [PyData.shown]; exact ok_listT _ b6⟩
  | k + 1, B, .tuple xs, hB, h => by
    obtain ⟨b1, b2, b3, b4, b5, b6⟩ := tmFs (k := k) fun x hx => tmF hB (tm_mem (.inr h) x hx)
    exact ⟨by simpa [PyData.canLay0] using b1, by simp only [PyData.depth]; omega, by simpa [PyData.showable] using b3, by simpa [PyData.intsShort] using b4, by simp only [PyData.weight, sz]; omega, by simp only [PyData.shown]; exact ok_tuple _ b6⟩
  | 0, _, .dict _, _, h => h.elim
  | k + 1, _, .dict _, _, h => by rcases h with h | ⟨xs, e | e, _⟩ <;> first | exact h.elim | cases e
termination_by k _ d => k
theorem tm_shown {k B : Nat} {d : D} (hB : B ≤ 10 ^ 35) (hs : sz d ≤ 3000) (h : Tm B k d) : d.shown.length ≤ sizeLine := by
  have f := tmF hB h
  have ls := PyData.leavesShort_of_canLay0 40 d f.lay f.inz
  have le := PyData.shown_le 40 (by decide) d ls
  have w := f.wei
  have z : sizeLine = 2 ^ 24 := rfl
  omega
theorem tm_shaped {k B : Nat} {d : D} (hB : B ≤ 10 ^ 35) (h : Tm B k d) : SeqAt.shaped (.str d.shown) = true := shaped_str (by simpa [PyData.canLay0] using (tmF hB h).txt)
theorem tm_okT {k B : Nat} {d : D} (h : Tm B k d) : okT d = true := by
  cases d with
  | dict _ =>
    cases k with
    | zero => exact h.elim
    | succ k => rcases h with h | ⟨xs, e | e, _⟩ <;> first | exact h.elim | cases e
  | _ => rfl
/-- what a thing is -/
theorem tm_cases {k B : Nat} {d : D} (h : Tm B k d) : (Atm B d ∧ (isIn (tyD d) "list" = false ∧ isIn (tyD d) "tuple" = false)) ∨ ∃ k' xs, k = k' + 1 ∧ (d = .list xs ∨ d = .tuple xs) ∧ ∀ x ∈ xs, Tm B k' x := by
  cases k with
  | zero =>
    refine .inl ⟨h, ?_⟩
    cases d <;> first | exact ⟨rfl, rfl⟩ | exact h.elim
  | succ k =>
    rcases h with h | ⟨xs, e, h⟩
    · refine .inl ⟨h, ?_⟩
      cases d <;> first | exact ⟨rfl, rfl⟩ | exact h.elim
    · exact .inr ⟨k, xs, rfl, e, h⟩
theorem tm_row {S T : Int} {l : Row} (ok : RowOk S T l) (hS : S < 10 ^ 14) (hT : T < 10 ^ 14) : Tm (10 ^ 14) 2 (rowD l) ∧ sz (rowD l) = 3 * l.length + 1 := by
  refine ⟨tm_tup (k := 1) fun x hx => ?_, ?_⟩
  · obtain ⟨p, hp, rfl⟩ := List.mem_map.mp hx
    have := ok.s p hp
    have := ok.t p hp
    refine tm_tup (k := 0) fun x hx => ?_
    simp at hx
    rcases hx with rfl | rfl
    · show _ < _; omega
    · show _ < _; omega
  · have : ∀ l : Row, szA (l.map pairD) = 3 * l.length := fun l => by
      induction l with
      | nil => rfl
      | cons p r ih => simp [szA, ih, pairD, sz]; omega
    simp [rowD, sz, this]
end TL
set_option Elab.async false
set_option linter.all false
set_option maxRecDepth 100000
set_option maxHeartbeats 4000000
namespace TL
open PySem PySem.Spec PyProof.Rows L2
end TL
set_option Elab.async false
set_option linter.all false
set_option maxRecDepth 100000
set_option maxHeartbeats 4000000
namespace TL
open PySem PySem.Spec PyProof.Rows L2
def isNum : D → Bool
  | .int _ => true
  | _ => false
@[simp] theorem isNum_i (i : Int) : isNum (.int i) = true := rfl
@[simp] theorem isNum_n : isNum .none = false := rfl
@[simp] theorem isNum_b (i : Bool) : isNum (.bool i) = false := rfl
@[simp] theorem isNum_s (i : Str) : isNum (.str i) = false := rfl
@[simp] theorem isNum_l (i : List D) : isNum (.list i) = false := rfl
@[simp] theorem isNum_t (i : List D) : isNum (.tuple i) = false := rfl
@[simp] theorem isNum_d (i : List (D × D)) : isNum (.dict i) = false := rfl
def Fis_number : FM := bodyM 1 fun _ => b_is_number
theorem is_number_ok {d : D} {n : Nat} {P : D → Nat → Prop} {PX : XE → Nat → Prop} (nd : ∀ kvs, d ≠ .dict kvs) (h : P (.bool (isNum d)) n) : Fis_number [.d d] n P PX := by
  show bodyM 1 (fun _ => b_is_number) _ _ _ _
  cases d with
  | dict _ => exact (nd _ rfl).elim
  | _ => simp [b_is_number, isIn, tyD] at h ⊢ <;> exact h
/-- all([f(part) for part in xs]) -/
theorem all_ok {g : GM} {me : EM} {τw : Ev} {xs : List D} (f : D → Bool) (st : D → Ev) {n : Nat} {Q : D → Nat → Prop} (hl : xs.length ≤ sizeLine) (hg : ∀ a ∈ xs, ∀ n R, R (st a) n → g a τw n R) (hm : ∀ a ∈ xs, ∀ n (R : D → Nat → Prop), R (.bool (f a)) n → me (st a) n R)
    (h : Q (.bool (xs.all f)) n) : lcD g cYes me τw xs [] n fun d n' => dAll d fun x => Q x n' := by
  have := lc_map (g := g) (c := cYes) (me := me) (τw := τw) (fun d : D => d) st (fun _ => true) (fun a => .bool (f a)) xs hg (fun a _ n R r => by simpa using r) (fun a ha _ n R r => hm a ha n R r) [] n (fun d n' => dAll d fun x => Q x n') (by simpa using hl) (by
    rw [List.filter_eq_self.mpr (fun _ _ => rfl), List.nil_append]
    refine ⟨xs.map f, by rw [List.map_map]; rfl, ?_⟩
    rw [List.all_map]
    exact h)
  simpa using this
theorem tm_nodict {B k : Nat} {d : D} (h : Tm B k d) : ∀ kvs, d ≠ .dict kvs := fun kvs e => by
  subst e
  have := tm_cases h
  rcases this with ⟨a, _⟩ | ⟨k', ys, rfl, e, h2⟩
  · exact a.elim
  · rcases e with e | e <;> cases e
theorem tm_tupP {B k : Nat} {xs : List D} (h : Tm B k (.tuple xs)) : ∃ k', k = k' + 1 ∧ ∀ x ∈ xs, Tm B k' x := by
  rcases tm_cases h with ⟨a, _⟩ | ⟨k', ys, rfl, e, h2⟩
  · exact a.elim
  · rcases e with e | e <;> cases e
    exact ⟨k', rfl, h2⟩
theorem allNum_ints : ∀ {xs : List D}, xs.all isNum = true → ∃ ns : List Int, xs = ns.map .int
  | [], _ => ⟨[], rfl⟩
  | x :: r, h => by
    simp at h
    obtain ⟨ns, rfl⟩ := allNum_ints (xs := r) (by simpa using h.2)
    cases x with
    | int i => exact ⟨i :: ns, rfl⟩
    | _ => simp at h
theorem ints_allNum (ns : List Int) : (ns.map PyData.int).all isNum = true := by
  simp
theorem eqv_intLs : ∀ (a b : List Int), PyData.eqvAll (a.map .int) (b.map .int) = decide (a = b)
  | [], [] => by simp [PyData.eqvAll]
  | [], _ :: _ => by simp [PyData.eqvAll]
  | _ :: _, [] => by simp [PyData.eqvAll]
  | i :: a, j :: b => by
    simp [PyData.eqvAll, eqv_intLs a b]
theorem eqv_intL (a b : List Int) : PyData.eqv (.list (a.map .int)) (.list (b.map .int)) = decide (a = b) := by
  rw [PyData.eqv, eqv_intLs]
end TL
set_option Elab.async false
set_option linter.all false
set_option maxRecDepth 100000
set_option maxHeartbeats 4000000
namespace TL
section
end
end TL
set_option Elab.async false
set_option linter.all false
set_option maxRecDepth 100000
set_option maxHeartbeats 4000000
namespace TL
open PySem PySem.Spec PyProof.Rows L2
/-! ### least strength, who stops whom -/
theorem sumA_pair {p : Int × Int} {P : D → Prop} (h : P (.int (p.1 + p.2))) : dSumA (pairD p) P := .inr ⟨[p.1, p.2], rfl, by
  have : [p.1, p.2].sum = p.1 + p.2 := by simp
  rw [this]
  exact h⟩
theorem sumA_ints {ns : List Int} {P : D → Prop} (h : P (.int ns.sum)) : dSumA (.list (ns.map .int)) P := .inl ⟨ns, rfl, h⟩
noncomputable def stopD (O : List Nat) (m : Nat) : D := if O.idxOf m = 0 then .none else natD (gO O (O.idxOf m - 1))
def Fleast_strength : FM := bodyM 5 fun _ => b_least_strength fNever
theorem least_strength_ok {l : Row} {i j : Nat} {n : Nat} {P : D → Nat → Prop} {PX : XE → Nat → Prop} (hl : l.length ≤ 1000) (hij : i < j) (hj : j ≤ l.length) (h : P (.int (leastR l i j)) n) : Fleast_strength [.d (rowD l), .d (.int (i : Nat)), .d (.int (j : Nat))] n P PX := by
  show bodyM 5 (fun _ => b_least_strength fNever) _ _ _ _
  have z20 := sz20
  have hlt : (l.take j).length = j := by simp; omega
  simp (disch := omega) [b_least_strength, lk0, sl_to]
  refine never_ok (by omega) ?_
  rw [ix_never (by omega)]
  simp (disch := omega) [lk0, ix_row, natsL, wipeE]
  refine sumA_pair ?_
  refine lc_map natD (fun k => [some (.d (rowD l)), some (.d (.int (i : Nat))), some (.d (.int (j : Nat))), some (.d (.list ((nvRow (l.take j) i).map natD))), some (.d (natD k))]) (fun _ => true) (fun k => .int (gR l k).2) (nvRow (l.take j) i) (fun a ha n R r => by simpa using r) (fun a ha n R r => by simpa using r) (fun a ha _ n R r => ?_) [] n _ ?_ ?_
  · rw [mem_nvRow] at ha
    have e : natD a = .int (a : Nat) := rfl
    simp (disch := omega) [e, lk0, ix_row]
    exact r
  · have : (nvRow (l.take j) i).length ≤ j := by
      unfold nvRow nvL
      refine Nat.le_trans (List.length_filter_le _ _) ?_
      rw [List.length_range']
      omega
    simp
    omega
  · rw [List.filter_eq_self.mpr (fun _ _ => rfl), List.nil_append]
    have e : (nvRow (l.take j) i).map (fun k => PyData.int (gR l k).2) = ((nvRow (l.take j) i).map fun k => (gR l k).2).map .int := by rw [List.map_map]; rfl
    rw [e]
    refine sumA_ints ?_
    have := least_sum (l := l) hij
    simp
    unfold nvRow nvL
    rw [hlt]
    rw [this]
    exact h
def Fstopped_by : FM := bodyM 4 fun _ => b_stopped_by Flast
theorem stopped_ok {l : Row} {m n : Nat} {P : D → Nat → Prop} {PX : XE → Nat → Prop} (h0 : T0 l) (hm : m < l.length) (hl : l.length ≤ 500) (h : P (stopD (lastO (l.take (m + 1))) m) n) : Fstopped_by [.d (rowD l), .d (.int m)] n P PX := by
  show bodyM 4 (fun _ => b_stopped_by Flast) _ _ _ _
  have z20 := sz20
  have e1 : ((m : Int) + 1) = ((m + 1 : Nat) : Int) := by omega
  have tl : T0 (l.take (m + 1)) := fun p hp => h0 p (List.mem_of_mem_take hp)
  have hlen : (l.take (m + 1)).length = m + 1 := by rw [List.length_take]; omega
  have sp := (lastO_spec tl).1
  have hO := lastO_len tl
  have hmem : m ∈ lastO (l.take (m + 1)) := sp.mem_iff.mpr (by rw [List.mem_range]; omega)
  simp [b_stopped_by]
  rw [sl_to (by omega)]
  rw [show ((m : Int) + 1).toNat = m + 1 by omega]
  refine last_ok2 tl (by omega) ?_
  simp [lastD]
  unfold stopD at h
  generalize lastO (l.take (m + 1)) = O at *
  have hi := (List.getElem?_eq_some_iff.mp (get_idx hmem)).1
  refine ⟨O.idxOf m, natD m, ⟨m, get_idx hmem, rfl⟩, by simp [natD], fun k z' hk y hy e => ?_, ?_⟩
  · subst e
    have hne : y ≠ m := fun e => by
      subst e
      obtain ⟨hl, he⟩ := List.getElem?_eq_some_iff.mp hy
      have h2 := List.not_of_lt_findIdx (p := (· == y)) (xs := O) (i := k) hk
      simp [he] at h2
    simp [natD]
    omega
  · by_cases z : O.idxOf m = 0
    · rw [if_pos z] at h
      exact .inl ⟨z, h⟩
    · rw [if_neg z] at h
      refine .inr ⟨by omega, _, ?_, h⟩
      have e2 : ((O.idxOf m : Nat) : Int) - 1 = ((O.idxOf m - 1 : Nat) : Int) := by omega
      rw [e2, atI_nat _ (by omega), Int.toNat_natCast, List.getElem?_map, get_gO (show O.idxOf m - 1 < O.length by omega)]
      rfl
end TL
set_option Elab.async false
set_option linter.all false
set_option maxRecDepth 100000
set_option maxHeartbeats 4000000
namespace TL
open PySem PySem.Spec PyProof.Rows L2
/-! ### turned rows -/
def turnA : Int → Row → Row
  | _, [] => []
  | a, p :: l => (a - p.1, p.2) :: turnA (a + p.2) l
def weiA : Int → Row → List Int
  | _, [] => []
  | a, p :: l => (p.1 - a) :: weiA (a + p.2) l
def tsum : Row → Int
  | [] => 0
  | p :: l => p.2 + tsum l
abbrev turn (l : Row) : Row := turnA 0 l
theorem weiA_app : ∀ (a : Int) (X Y : Row), weiA a (X ++ Y) = weiA a X ++ weiA (a + tsum X) Y
  | a, [], Y => by simp [weiA, tsum]
  | a, p :: X, Y => by
    simp only [List.cons_append, weiA, tsum, weiA_app (a + p.2) X Y]
    rw [show a + (p.2 + tsum X) = a + p.2 + tsum X by omega]
theorem turnA_len : ∀ (a : Int) (l : Row), (turnA a l).length = l.length
  | _, [] => rfl
  | a, p :: l => by simp [turnA, turnA_len (a + p.2) l]
theorem weiA_len : ∀ (a : Int) (l : Row), (weiA a l).length = l.length
  | _, [] => rfl
  | a, p :: l => by simp [weiA, weiA_len (a + p.2) l]
theorem tsum_app : ∀ (X Y : Row), tsum (X ++ Y) = tsum X + tsum Y
  | [], Y => by simp [tsum]
  | p :: X, Y => by simp only [List.cons_append, tsum, tsum_app X Y]; omega
/-! ### deeds of the turned row -/
end TL
set_option Elab.async false
set_option linter.all false
set_option maxRecDepth 100000
set_option maxHeartbeats 4000000
namespace TL
open PySem PySem.Spec PyProof.Rows L2
/-! ### deeds, one by one -/
def stepR (l : Row) (d : Bool × Nat) : Row := if d.1 = true then passed l d.2 else fallen l d.2
def okD (l : Row) (d : Bool × Nat) : Prop := if d.1 = true then 0 < d.2 ∧ d.2 < l.length ∧ lets l d.2 = true else d.2 + 1 < l.length ∧ falls l d.2 = true
def atD (d : Bool × Nat) : Nat := if d.1 = true then d.2 - 1 else d.2
def goR (l : Row) (ds : List (Bool × Nat)) : Row := ds.foldl stepR l
def goO (o : List Nat) (ds : List (Bool × Nat)) : List Nat := ds.foldl (fun o d => swapO o (atD d)) o
theorem goR_snoc (l : Row) (ds : List (Bool × Nat)) (d : Bool × Nat) : goR l (ds ++ [d]) = stepR (goR l ds) d := by simp [goR]
theorem goO_snoc (o : List Nat) (ds : List (Bool × Nat)) (d : Bool × Nat) : goO o (ds ++ [d]) = swapO (goO o ds) (atD d) := by simp [goO]
def okDs (l : Row) (ds : List (Bool × Nat)) : Prop := ∀ (i : Nat) (h : i < ds.length), okD (goR l (ds.take i)) ds[i]
theorem okDs_snoc {l : Row} {ds : List (Bool × Nat)} {d : Bool × Nat} (h : okDs l ds) (h2 : okD (goR l ds) d) : okDs l (ds ++ [d]) := fun i hi => by
  rw [List.length_append] at hi
  by_cases e : i < ds.length
  · rw [List.getElem_append_left e, List.take_append_of_le_length (by omega)]
    exact h i e
  · have : i = ds.length := by simp at hi; omega
    subst this
    rw [List.getElem_append_right (by omega), List.take_append_of_le_length (by omega), List.take_length]
    simpa using h2
theorem Led.go {l l' : Row} {o : List Nat} {ds : List (Bool × Nat)} (h : Led l l' o ds) : l' = goR l ds ∧ o = goO (List.range l.length) ds ∧ okDs l ds := by
  induction h with
  | nil => exact ⟨rfl, rfl, fun i hi => absurd hi (Nat.not_lt_zero _)⟩
  | pass h h0 hj hl ih =>
    obtain ⟨e1, e2, e3⟩ := ih
    refine ⟨?_, ?_, okDs_snoc e3 ?_⟩
    · rw [goR_snoc, ← e1]; rfl
    · rw [goO_snoc, ← e2]; rfl
    · rw [← e1]; exact ⟨h0, hj, hl⟩
  | fall h hj hl ih =>
    obtain ⟨e1, e2, e3⟩ := ih
    refine ⟨?_, ?_, okDs_snoc e3 ?_⟩
    · rw [goR_snoc, ← e1]; rfl
    · rw [goO_snoc, ← e2]; rfl
    · rw [← e1]; exact ⟨hj, hl⟩
end TL
set_option Elab.async false
set_option linter.all false
set_option maxRecDepth 100000
set_option maxHeartbeats 4000000
namespace TL
open PySem PySem.Spec PyProof.Rows L2
/-! ### weighed, turned; deeds of the package -/
@[simp] theorem items_rowW {l : Row} {P : List D → Prop} : dItems (rowD l) P ↔ P (l.map pairD) := by simp [rowD]
theorem zipD_map {α β : Type} (f : α → D) (g : β → D) : ∀ (xs : List α) (ys : List β), zipD (xs.map f) (ys.map g) = (List.zip xs ys).map fun z => rawP (f z.1) (g z.2)
  | [], ys => by simp [zipD]
  | x :: xs, [] => by simp [zipD]
  | x :: xs, y :: ys => by simp [zipD, zipD_map f g xs ys]
theorem turn_zip : ∀ (a : Int) (l : Row), (List.zip (weiA a l) l).map (fun z => (-z.1, z.2.2)) = turnA a l
  | _, [] => rfl
  | a, p :: l => by
    simp only [weiA, turnA, List.zip_cons_cons, List.map_cons, turn_zip (a + p.2) l]
    rw [show -(p.1 - a) = a - p.1 by omega]
def Fweighed : FM := bodyM 5 fun _ => b_weighed
theorem weighed_ok {l : Row} {n : Nat} {P : D → Nat → Prop} {PX : XE → Nat → Prop} (hl : l.length ≤ 1000) (h : P (.list ((weiA 0 l).map .int)) n) : Fweighed [.d (rowD l)] n P PX := by
  show bodyM 5 (fun _ => b_weighed) _ _ _ _
  have z20 := sz20
  simp [b_weighed]
  refine for_inv (fun i τ n' => ∃ (y3 y4 : Option Sl), τ = [some (.d (rowD l)), some (.ow ((weiA 0 (l.take i)).map .int)), some (.d (.int (tsum (l.take i)))), y3, y4] ∧ n' = n) _ 0 _ _ ⟨none, none, rfl, rfl⟩ ?_ ?_
  · rintro i x hx τ n1 N ⟨y3, y4, rfl, rfl⟩ hN
    rw [List.getElem?_map] at hx
    obtain ⟨p, hp, rfl⟩ := Option.map_eq_some_iff.mp hx
    have hi : i < l.length := (List.getElem?_eq_some_iff.mp hp).1
    have e1 : l.take (i + 1) = l.take i ++ [p] := by
      rw [List.take_succ_eq_append_getElem hi, (List.getElem?_eq_some_iff.mp hp).2]
    simp only [Nat.zero_add] at hN ⊢
    rw [e1, weiA_app, tsum_app] at hN
    have lw := weiA_len 0 (l.take i)
    rw [List.length_take] at lw
    simp [weiA, tsum] at hN
    simp
    refine ⟨by rw [lw]; omega, hN _ _ (some (.d (.int p.1))) (some (.d (.int p.2))) rfl rfl⟩
  · rintro τ n1 ⟨y3, y4, rfl, rfl⟩
    simpa using h
def Fturned : FM := bodyM 4 fun _ => b_turned Fweighed
theorem turned_ok {l : Row} {n : Nat} {P : D → Nat → Prop} {PX : XE → Nat → Prop} (hl : l.length ≤ 1000) (h : P (rowD (turn l)) n) : Fturned [.d (rowD l)] n P PX := by
  show bodyM 4 (fun _ => b_turned Fweighed) _ _ _ _
  have z20 := sz20
  simp [b_turned, wipeE]
  refine weighed_ok hl ?_
  simp [rowD, weiA_len]
  rw [zipD_map]
  refine lc_map (fun z : Int × Int × Int => rawP (.int z.1) (pairD z.2)) (fun z => [some (.d (rowD l)), some (.d (.int z.1)), some (.d (.int z.2.1)), some (.d (.int z.2.2))]) (fun _ => true) (fun z => pairD (-z.1, z.2.2)) (List.zip (weiA 0 l) l) (fun z _ n R r => by simpa [rowD] using r) (fun z _ n R r => by simpa using r) (fun z _ _ n R r => ?_) [] n _ (by simp [weiA_len]; omega) ?_
  · simp
    exact ⟨by omega, by simpa [pairD] using r⟩
  · rw [List.filter_eq_self.mpr (fun _ _ => rfl), List.nil_append]
    have h' : P (rowD (turnA 0 l)) n := h
    rw [← turn_zip] at h'
    simpa [rowD, Function.comp_def] using h'
end TL
set_option Elab.async false
set_option linter.all false
set_option maxRecDepth 100000
set_option maxHeartbeats 4000000
/-! is_row, is_order, shows_never of what the program itself tells (lines of R01, R05, R11) -/
namespace TL
open PySem PySem.Spec PyProof.Rows L2
def isBeast : D → Bool
  | .tuple [a, .int b] => isNum a && decide (0 ≤ b)
  | _ => false
def isRow : D → Bool
  | .tuple xs => decide (0 < xs.length) && xs.all isBeast
  | _ => false
theorem beast_eq (xs : List D) : isBeast (.tuple xs) = (decide (xs.length = 2) && (xs.all isNum && match xs with | [_, .int b] => decide (0 ≤ b) | _ => false)) := by
  match xs with
  | [] => rfl
  | [a] => rfl
  | a :: b :: c :: r => simp [isBeast]
  | [a, b] => cases b <;> simp [isBeast]
def Fis_beast : FM := bodyM 2 fun _ => b_is_beast Fis_number
theorem is_beast_ok {B k : Nat} {d : D} {n : Nat} {P : D → Nat → Prop} {PX : XE → Nat → Prop} (ht : Tm B k d) (hs : sz d ≤ 3000) (h : P (.bool (isBeast d)) n) : Fis_beast [.d d] n P PX := by
  show bodyM 2 (fun _ => b_is_beast Fis_number) _ _ _ _
  have z20 := sz20
  cases d with
  | tuple xs =>
    have hl := szA_len xs
    obtain ⟨k', rfl, hx⟩ := tm_tupP ht
    simp [sz] at hs
    rw [beast_eq] at h
    simp [b_is_beast, isIn, tyD, wipeE]
    by_cases h2 : xs.length = 2
    · have h2' : (xs.length : Int) = 2 := by omega
      simp [h2] at h
      simp [h2']
      refine all_ok isNum (fun x => [some (.d (.tuple xs)), some (.d x)]) (Q := fun d n1 => d = PyData.bool false ∧ P (PyData.bool false) n1 ∨ d = PyData.bool true ∧ ∃ d, atI xs 1 = some d ∧ dGe d (PyData.int 0) fun d => P d n1) (by omega) (fun a _ n R r => by simpa using r) (fun a ha n R r => ?_) ?_
      · simp
        exact is_number_ok (tm_nodict (hx a ha)) r
      · match xs, h2 with
        | [a, b], _ =>
          cases ea : isNum a
          · simp [ea] at h
            simp [ea]
            exact h
          · cases b <;> simp [ea] at h ⊢ <;> exact h
    · have h2' : ¬ (xs.length : Int) = 2 := by omega
      simp only [h2, decide_false, Bool.false_and] at h
      exact .inl ⟨h2', h⟩
  | dict _ => exact (tm_nodict ht _ rfl).elim
  | _ => simp [b_is_beast, isIn, tyD]; exact h
def Fis_row : FM := bodyM 2 fun _ => b_is_row Fis_beast
theorem is_row_ok {B k : Nat} {d : D} {n : Nat} {P : D → Nat → Prop} {PX : XE → Nat → Prop} (ht : Tm B k d) (hs : sz d ≤ 3000) (h : P (.bool (isRow d)) n) : Fis_row [.d d] n P PX := by
  show bodyM 2 (fun _ => b_is_row Fis_beast) _ _ _ _
  have z20 := sz20
  cases d with
  | tuple xs =>
    have hl := szA_len xs
    obtain ⟨k', rfl, hx⟩ := tm_tupP ht
    simp [sz] at hs
    simp [b_is_row, isIn, tyD, wipeE]
    by_cases h0 : 0 < xs.length
    · have h0' : xs ≠ [] := List.length_pos_iff.mp h0
      simp [isRow, h0] at h
      refine .inr ⟨h0, ?_⟩
      refine all_ok isBeast (fun x => [some (.d (.tuple xs)), some (.d x)]) (Q := P) (by omega) (fun a _ n R r => by simpa using r) (fun a ha n R r => ?_) h
      simp
      exact is_beast_ok (hx a ha) (by have := szA_mem ha; omega) r
    · have h0' : xs = [] := by
        cases xs with
        | nil => rfl
        | cons _ _ => simp at h0
      subst h0'
      exact .inl ⟨rfl, h⟩
  | dict _ => exact (tm_nodict ht _ rfl).elim
  | _ => simp [b_is_row, isIn, tyD]; exact h
def rgI (m : Nat) : List Int := (List.range m).map fun j : Nat => (j : Int)
theorem rgI_D (m : Nat) : rangeD 0 m = (rgI m).map .int := by
  unfold rangeD rgI
  rw [List.map_map]
  apply List.map_congr_left
  intro a _
  simp
theorem rgI_sorted (m : Nat) : (rgI m).Pairwise (· ≤ ·) := by
  unfold rgI
  rw [List.pairwise_map]
  exact List.pairwise_lt_range.imp fun {a b} h => by omega
def IsOrd (m : Nat) (d : D) : Prop := ∃ ns : List Int, d = .tuple (ns.map .int) ∧ ns.Perm (rgI m)
open Classical in
noncomputable def isOrd (m : Nat) (d : D) : Bool := decide (IsOrd m d)
theorem map_int_inj : ∀ {a b : List Int}, a.map PyData.int = b.map .int → a = b
  | [], [], _ => rfl
  | [], _ :: _, h => by simp at h
  | _ :: _, [], h => by simp at h
  | i :: a, j :: b, h => by
    simp at h
    rw [h.1, map_int_inj h.2]
theorem isOrd_ints (m : Nat) (ns : List Int) (b : Bool) (h : b = true ↔ ns.Perm (rgI m)) : isOrd m (.tuple (ns.map .int)) = b := by
  rw [Bool.eq_iff_iff, h]
  simp only [isOrd, decide_eq_true_eq]
  constructor
  · rintro ⟨ms, e, p⟩
    injection e with e
    rw [map_int_inj e]
    exact p
  · exact fun p => ⟨ns, rfl, p⟩
theorem isOrd_not {m : Nat} {d : D} (h : ∀ ns : List Int, d ≠ .tuple (ns.map .int)) : isOrd m d = false := by
  simp only [isOrd, decide_eq_false_iff_not]
  rintro ⟨ns, e, _⟩
  exact h ns e
theorem isOrd_notN {m : Nat} {xs : List D} (h : xs.all isNum = false) : isOrd m (.tuple xs) = false := isOrd_not fun ns e => by
  injection e with e
  rw [e, ints_allNum] at h
  cases h
def Fis_order : FM := bodyM 3 fun _ => b_is_order Fis_number
theorem is_order_ok {B k : Nat} {l : Row} {d : D} {n : Nat} {P : D → Nat → Prop} {PX : XE → Nat → Prop} (ht : Tm B k d) (hs : sz d ≤ 3000) (hl : l.length ≤ 1000) (h : P (.bool (isOrd l.length d)) n) : Fis_order [.d (rowD l), .d d] n P PX := by
  show bodyM 3 (fun _ => b_is_order Fis_number) _ _ _ _
  have z20 := sz20
  cases d with
  | tuple xs =>
    have hl' := szA_len xs
    obtain ⟨k', rfl, hx⟩ := tm_tupP ht
    simp [sz] at hs
    simp (maxSteps := 2000000) [b_is_order, isIn, tyD, wipeE]
    refine all_ok isNum (fun x => [some (.d (rowD l)), some (.d (.tuple xs)), some (.d x)]) (by omega) (fun a _ n R r => by simpa using r) (fun a ha n R r => ?_) ?_
    · simp
      exact is_number_ok (tm_nodict (hx a ha)) r
    · cases e : xs.all isNum
      · rw [isOrd_notN e] at h
        simp
        exact h
      · obtain ⟨ns, rfl⟩ := allNum_ints e
        simp
        refine .inr (.inr ⟨ns, rfl, fun ns' p1 p2 => ⟨by omega, ?_⟩⟩)
        rw [rgI_D]
        refine ⟨⟨shaped_ints, shaped_ints⟩, ?_⟩
        rw [eqv_intL, ← isOrd_ints l.length ns (decide (ns' = rgI l.length)) ?_]
        · exact h
        · rw [decide_eq_true_eq]
          constructor
          · intro e
            rw [← e]
            exact p1.symm
          · intro p
            exact sorted_uniq (R := (· ≤ ·)) (fun x y h1 h2 => by omega) (p1.trans p) p2 (rgI_sorted _)
  | dict _ => exact (tm_nodict ht _ rfl).elim
  | _ =>
    rw [isOrd_not (fun ns e => by cases e)] at h
    simp [b_is_order, isIn, tyD]
    exact h
def Fshows_never : FM := bodyM 4 fun _ => b_shows_never fNever Fis_number
theorem nv_len (l : Row) (i : Nat) : (nvRow l i).length ≤ l.length := by
  unfold nvRow nvL
  refine Nat.le_trans (List.length_filter_le _ _) ?_
  rw [List.length_range']
  omega
theorem shows_ok {l : Row} {n : Nat} {P : D → Nat → Prop} {PX : XE → Nat → Prop} (hl : l.length ≤ 300) (h : P (.bool true) n) : Fshows_never [.d (rowD l), .d (neverD l)] n P PX := by
  show bodyM 4 (fun _ => b_shows_never fNever Fis_number) _ _ _ _
  have z20 := sz20
  have hnD : neverD l = .list ((List.range l.length).map fun i => natsL (nvRow l i)) := rfl
  have lay : Lay 2 (neverD l) := lay_list (n := 1) fun x hx => by
    obtain ⟨i, _, rfl⟩ := List.mem_map.mp hx
    exact lay_natsL _
  have ok1 : okT (neverD l) = true := rfl
  have is1 : isIn (tyD (neverD l)) "list" = true := by simp [hnD, isIn, tyD]
  simp [b_shows_never, wipeE]
  refine ⟨ok1, .inr ⟨is1, ?_⟩⟩
  rw [hnD, dItems_L]
  refine lc_map (fun i => natsL (nvRow l i)) (fun i => [some (.d (rowD l)), some (.d (neverD l)), none, some (.d (natsL (nvRow l i)))]) (fun _ => true) (fun _ => .bool true) (List.range l.length) (fun i _ n R r => by simpa [hnD] using r) (fun i _ n R r => by simpa using r) (fun i _ _ n R r => ?_) [] n _ (by simp; omega) ?_
  · simp [natsL, okT, isIn, tyD]
    exact r
  rw [List.filter_eq_self.mpr (fun _ _ => rfl), List.nil_append]
  refine ⟨List.replicate l.length true, by simp [List.map_const'], .inr ⟨by simp, ?_⟩⟩
  try unfold mLc2
  simp (maxSteps := 2000000) [wipeE]
  refine lc2_map (fun i => natsL (nvRow l i)) (fun i => [some (.d (rowD l)), some (.d (neverD l)), some (.d (natsL (nvRow l i))), none]) (fun i (j : Nat) => natD j) (fun i => nvRow l i) (fun i j => [some (.d (rowD l)), some (.d (neverD l)), some (.d (natsL (nvRow l i))), some (.d (natD j))]) (fun _ _ => true) (fun _ _ => .bool true) 300 (List.range l.length)
    (fun i _ n R r => by simp; exact r) (fun i _ n R r => by simpa using r) (fun i _ => ⟨by have := nv_len l i; omega, fun n R r => by simpa [natsL] using r⟩) (fun i _ j _ n R r => by simpa [wipeE] using r) (fun i _ j _ n R r => by simpa using r) (fun i _ j _ _ n R r => ?_) [] n _ ?_ ?_
  · show mCal 1 Fis_number (kCons (mVar 3) kNil) _ _ _
    have e : natD j = .int (j : Nat) := rfl
    simp [e]
    exact is_number_ok (fun _ => PyData.noConfusion) (by simpa using r)
  · simp
    have : l.length * 300 ≤ 300 * 300 := Nat.mul_le_mul_right _ hl
    omega
  have e : ((List.range l.length).flatMap fun a => ((nvRow l a).filter fun _ => true).map fun _ => PyData.bool true) = ((List.range l.length).flatMap fun a => (nvRow l a).map fun _ => true).map .bool := by
    rw [List.map_flatMap]
    refine congrArg (fun f => (List.range l.length).flatMap f) (funext fun a => ?_)
    rw [List.filter_eq_self.mpr (fun _ _ => rfl), List.map_map]
    rfl
  rw [List.nil_append, e]
  refine ⟨_, rfl, .inr ⟨?_, ?_⟩⟩
  · have : ((List.range l.length).flatMap fun a => (nvRow l a).map fun _ => true).all id = true := by
      rw [List.all_eq_true]
      intro b hb
      obtain ⟨a, _, hb⟩ := List.mem_flatMap.mp hb
      obtain ⟨j, _, rfl⟩ := List.mem_map.mp hb
      rfl
    simp [this]
  rw [← hnD]
  refine never_ok (by omega) ⟨⟨lay.shaped (by decide), lay.shaped (by decide)⟩, ?_⟩
  rw [PySem.SeqAt.eqv_refl _ lay.1]
  exact h
end TL
set_option Elab.async false
set_option linter.all false
set_option maxRecDepth 100000
set_option maxHeartbeats 4000000
/-! all that is told of a row -/
namespace TL
open PySem PySem.Spec PyProof.Rows L2
noncomputable def tailL (l : Row) (m : Nat) (i : Nat) : List D := [.int (leastR l i m), .bool (Pv l i m)]
noncomputable def asksL (l : Row) (m : Nat) : List D := [.list ((someP l).map natD), .list ((someF l).map natD), lastD l, firstD l, prL (passL l)] ++ [prL (fallL l), .list ((weiA 0 l).map .int), rowD (turn l), neverD l] ++ [stopD (lastO (l.take (m + 1))) m] ++
  [.bool (someP l).isEmpty, .bool (someF l).isEmpty, .bool true, .bool true] ++ [.bool true]
noncomputable def asksD (l : Row) (m : Nat) : D := .list (asksL l m ++ (List.range m).flatMap (tailL l m))
noncomputable def Fasks : FM := bodyM 4 fun _ => b_law_asks Fmay_pass Fmay_fall Flast Ffirst Fpassings Fstopped_by Fshows_never Ffallings Fweighed Fturned fNever Fis_last Fis_first Fis_row Fis_order Fleast_strength Fever
theorem forH_range {g : GM} {b : HM} {f : Nat → List D} {N : List D → Ev → Nat → Prop} {P : D → Nat → Prop} {I : Ev → Prop} {n : Nat} : ∀ (k lo : Nat) (ds : List D) (τ : Ev), I τ → (∀ i ds τ (N' : List D → Ev → Nat → Prop), lo ≤ i → i < lo + k → I τ → ds.length ≤ 1000 → (∀ τ', I τ' → N' (ds ++ f i) τ' n) → g (.int (i : Nat)) τ n fun τ1 n1 => b ds τ1 n1 N' P) → (∀ i, (f i).length ≤ 2) → ds.length + 2 * k ≤ 1000 → (∀ τ', I τ' → N (ds ++ (List.range' lo k).flatMap f) τ' n) → forH ((List.range' lo k).map fun i => .int (i : Nat)) g b ds τ n N P
  | 0, lo, ds, τ, hI, hb, hf, hl, h => by
    have := h τ hI
    simpa [forH] using this
  | k + 1, lo, ds, τ, hI, hb, hf, hl, h => by
    rw [List.range'_succ, List.map_cons]
    show g (.int (lo : Nat)) τ n fun τ1 n1 => b ds τ1 n1 (fun ds2 τ2 n2 => forH ((List.range' (lo + 1) k).map fun i => .int (i : Nat)) g b ds2 τ2 n2 N P) P
    refine hb lo ds τ _ (by omega) (by omega) hI (by omega) fun τ' hI' => ?_
    refine forH_range k (lo + 1) (ds ++ f lo) τ' hI' (fun i ds τ N' h1 h2 => hb i ds τ N' (by omega) (by omega)) hf (by have := hf lo; rw [List.length_append]; omega) fun τ2 h2 => ?_
    have := h τ2 h2
    rw [List.range'_succ, List.flatMap_cons, ← List.append_assoc] at this
    exact this
theorem isRow_row {l : Row} (h0 : T0 l) (h1 : 1 ≤ l.length) : isRow (rowD l) = true := by
  show (decide (0 < (l.map pairD).length) && (l.map pairD).all isBeast) = true
  rw [List.length_map, Bool.and_eq_true, decide_eq_true_eq, List.all_eq_true]
  refine ⟨by omega, fun x hx => ?_⟩
  obtain ⟨p, hp, rfl⟩ := List.mem_map.mp hx
  have := h0 p hp
  simp [pairD, isBeast]
  exact this
theorem isOrd_last {l : Row} (h0 : T0 l) : isOrd l.length (.tuple ((lastO l).map natD)) = true := by
  have e : (lastO l).map natD = ((lastO l).map fun j : Nat => (j : Int)).map .int := by rw [List.map_map]; rfl
  rw [e]
  refine isOrd_ints _ _ true ⟨fun _ => ?_, fun _ => rfl⟩
  exact (lastO_spec h0).1.map _
theorem tm_order {l : Row} (h0 : T0 l) (hl : l.length ≤ 1000) : Tm (10 ^ 14) 1 (.tuple ((lastO l).map natD)) ∧ sz (.tuple ((lastO l).map natD)) = l.length + 1 := by
  refine ⟨tm_tup fun x hx => ?_, ?_⟩
  · obtain ⟨j, hj, rfl⟩ := List.mem_map.mp hx
    have : j < l.length := by
      have := (lastO_spec h0).1.mem_iff.mp hj
      simpa using this
    show ((j : Nat) : Int).natAbs < 10 ^ 14
    omega
  · have : ∀ o : List Nat, szA (o.map natD) = o.length := fun o => by
      induction o with
      | nil => rfl
      | cons a r ih =>
        show sz (natD a) + szA (r.map natD) = r.length + 1
        rw [ih]
        show 1 + r.length = r.length + 1
        omega
    simp only [sz]
    rw [this, lastO_len h0]
    try omega
theorem asks_ok {l : Row} {m n : Nat} {P : D → Nat → Prop} {PX : XE → Nat → Prop} (h0 : T0 l) (h1 : 1 ≤ l.length) (hl : l.length ≤ 24) (hm : m < l.length) (ht : Tm (10 ^ 14) 2 (rowD l)) (hs : sz (rowD l) ≤ 100) (h : P (asksD l m) n) : Fasks [.d (rowD l), .d (.int (m : Nat))] n P PX := by
  show bodyM 4 (fun _ => b_law_asks _ _ _ _ _ _ _ _ _ _ _ _ _ _ _ _ _) _ _ _ _
  have z20 := sz20
  have no : ∀ x y : D, NoOw [some (.d x), some (.d y), none, none] := fun x y j s e => by
    match j, e with
    | 0, e => simp at e; subst e; rfl
    | 1, e => simp at e; subst e; rfl
    | 2, e => simp at e
    | 3, e => simp at e
    | j + 4, e => simp at e
  unfold bodyM b_law_asks
  rw [show startE 4 [Sl.d (rowD l), Sl.d (.int (m : Nat))] = [some (.d (rowD l)), some (.d (.int (m : Nat))), none, none] from rfl]
  simp [kPerm, perm, sHet, mHL, aCons, aNil, mNL, hCatS, hCat, hApp, hFor, hRet]
  have nst : notL (stopD (lastO (l.take (m + 1))) m) = true := by
    unfold stopD
    split <;> rfl
  refine ⟨no _ _, may_pass_ok (by omega) (may_fall_ok h1 (by omega) (last_ok2 h0 (by omega) ⟨rfl, first_ok2 h0 h1 (by omega) ⟨rfl, passings_ok h0 (by omega) ⟨by omega, ?_⟩⟩⟩))⟩
  refine fallings_ok h0 h1 (by omega) (weighed_ok (by omega) (turned_ok (by omega) ⟨rfl, never_ok (by omega) ⟨by omega, by omega, ?_⟩⟩))
  refine stopped_ok h0 hm (by omega) ⟨nst, by omega, is_last_ok (by omega) ⟨rfl, is_first_ok h1 (by omega) ⟨rfl, is_row_ok ht (by omega) ⟨rfl, last_ok2 h0 (by omega) ?_⟩⟩⟩⟩
  show dIx (.tuple [rowD (lastR l), .tuple ((lastO l).map natD)]) (.int 1) _
  have to := tm_order h0 (by omega)
  simp
  refine is_order_ok (to.1) (by rw [to.2]; omega) (by omega) ⟨rfl, by omega, by omega, never_ok (by omega) (shows_ok (by omega) ⟨rfl, by omega, by omega, ?_⟩)⟩
  rw [isRow_row h0 h1, isOrd_last h0, show rangeD 0 m = (List.range' 0 m).map fun i => PyData.int (i : Nat) by
    unfold rangeD
    rw [List.range_eq_range']
    exact List.map_congr_left fun i _ => by simp]
  refine forH_range (I := fun τ => ∃ x, τ = [some (.d (rowD l)), some (.d (.int (m : Nat))), none, x]) (f := tailL l m) m 0 _ _ ⟨none, rfl⟩ ?_ (fun i => Nat.le_refl _) (by simp; omega) ?_
  · rintro i ds τ N' i0 i1 ⟨x, rfl⟩ hd hN
    have hi : i < m := by omega
    simp [kPerm, perm, mHL, aCons, aNil, mNL, hCatS, hCat, hNil]
    exact least_strength_ok (by omega) hi (by omega) ⟨rfl, ever_ok (by omega) hi hm ⟨rfl, by omega, by omega, hN _ ⟨_, rfl⟩⟩⟩
  · rintro τ ⟨x, rfl⟩
    have := h
    unfold asksD asksL at this
    rw [← List.range_eq_range']
    exact this
end TL
set_option Elab.async false
set_option linter.all false
set_option maxRecDepth 100000
set_option maxHeartbeats 4000000
/-! it can be told as a text -/
namespace TL
open PySem PySem.Spec PyProof.Rows L2
theorem tl_le {t : Nat → Int} {T : Int} (ht : ∀ c, 0 ≤ t c ∧ t c ≤ T) (h0 : 0 ≤ T) (f : Nat → Bool) : ∀ A : List Nat, 0 ≤ tolls t A f ∧ tolls t A f ≤ A.length * T
  | [] => ⟨Int.le_refl _, by simp [tolls]⟩
  | c :: A => by
    obtain ⟨a, b⟩ := tl_le ht h0 f A
    obtain ⟨c1, c2⟩ := ht c
    have e : (((c :: A).length : Nat) : Int) * T = A.length * T + T := by
      rw [List.length_cons, Int.natCast_add, Int.add_mul]
      omega
    rw [e]
    simp only [tolls]
    split <;> omega
theorem rowG_bd {w t : Nat → Int} {g : Nat → Nat → Bool} {T W : Int} (ht : ∀ c, 0 ≤ t c ∧ t c ≤ T) (h0 : 0 ≤ T) : ∀ (X A : List Nat), (∀ y ∈ X, -W ≤ w y ∧ w y ≤ W) → A.length + X.length ≤ 24 → ∀ p ∈ rowG w t g A X, (-W ≤ p.1 ∧ p.1 ≤ W + 24 * T) ∧ 0 ≤ p.2 ∧ p.2 ≤ T
  | [], _, _, _, p, hp => by cases hp
  | y :: X, A, hw, hl, p, hp => by
    simp only [List.length_cons] at hl
    rcases List.mem_cons.mp hp with rfl | hp
    · obtain ⟨a, b⟩ := tl_le ht h0 (fun c => g c y) A
      obtain ⟨c, d⟩ := hw y (by simp)
      have m : (A.length : Int) * T ≤ 24 * T := Int.mul_le_mul_of_nonneg_right (by omega) h0
      exact ⟨⟨by simp only; omega, by simp only; omega⟩, ht y⟩
    · exact rowG_bd ht h0 X (A ++ [y]) (fun z hz => hw z (List.mem_cons_of_mem _ hz)) (by simp; omega) p hp
theorem gR_bd {S T : Int} {l : Row} (ok : RowOk S T l) (hS : 0 ≤ S) (hT : 0 ≤ T) (c : Nat) : (-S ≤ (gR l c).1 ∧ (gR l c).1 ≤ S) ∧ 0 ≤ (gR l c).2 ∧ (gR l c).2 ≤ T := by
  by_cases hc : c < l.length
  · exact ⟨ok.s _ (gR_mem hc), ok.t _ (gR_mem hc)⟩
  · have : gR l c = (0, 0) := by
      unfold gR
      rw [List.getD_eq_getElem?_getD, List.getElem?_eq_none (by omega)]
      rfl
    rw [this]
    exact ⟨⟨by simp only; omega, by simp only; omega⟩, by simp only; omega, by simp only; omega⟩
theorem lastR_bd {S T : Int} {l : Row} (ok : RowOk S T l) (hS : 0 ≤ S) (hT : 0 ≤ T) (h0 : T0 l) (hl : l.length ≤ 24) : RowOk (S + 48 * T) T (lastR l) := by
  have tp : ∀ c, 0 ≤ tP l c ∧ tP l c ≤ T := fun c => (gR_bd ok hS hT c).2
  have key := rowG_bd (w := wP l) (t := tP l) (g := gP) (W := S + 24 * T) tp hT (lastO l) [] (fun y hy => ?_) (by rw [lastO_len h0]; simp; omega)
  · refine ⟨fun p hp => ?_, fun p hp => (key p hp).2⟩
    have := (key p hp).1
    omega
  · have hy' : y < l.length := by
      have := (lastO_spec h0).1.mem_iff.mp hy
      simpa using this
    obtain ⟨⟨a, b⟩, _⟩ := gR_bd ok hS hT y
    obtain ⟨c, d⟩ := tl_le tp hT (fun c => gP c y) (List.range y)
    rw [List.length_range] at d
    have m : (y : Int) * T ≤ 24 * T := Int.mul_le_mul_of_nonneg_right (by omega) hT
    unfold wP sP
    omega
theorem firstR_bd {S T : Int} {l : Row} (ok : RowOk S T l) (hS : 0 ≤ S) (hT : 0 ≤ T) (h0 : T0 l) (hl : l.length ≤ 24) : RowOk (S + 48 * T) T (firstR l) := by
  have tp : ∀ c, 0 ≤ tP l c ∧ tP l c ≤ T := fun c => (gR_bd ok hS hT c).2
  have fl : (firstO l).length = l.length := by rw [(firstO_spec h0).1.length_eq, List.length_range]
  have key := rowG_bd (w := sP l) (t := tP l) (g := gF) (W := S) tp hT (firstO l) [] (fun y _ => (gR_bd ok hS hT y).1) (by rw [fl]; simp; omega)
  refine ⟨fun p hp => ?_, fun p hp => (key p hp).2⟩
  have := (key p hp).1
  omega
theorem turnA_bd {S T : Int} (hT : 0 ≤ T) : ∀ (l : Row) (a : Int), RowOk S T l → 0 ≤ a → ∀ p ∈ turnA a l, (-S ≤ p.1 ∧ p.1 ≤ a + l.length * T + S) ∧ 0 ≤ p.2 ∧ p.2 ≤ T
  | [], _, _, _, p, hp => by cases hp
  | q :: l, a, ok, h0, p, hp => by
    have e : (((q :: l).length : Nat) : Int) * T = l.length * T + T := by
      rw [List.length_cons, Int.natCast_add, Int.add_mul]
      omega
    have nn : 0 ≤ (l.length : Int) * T := Int.mul_nonneg (by omega) hT
    have a1 := ok.s q (by simp)
    have a2 := ok.t q (by simp)
    rw [e]
    rcases List.mem_cons.mp hp with rfl | hp
    · exact ⟨⟨by simp only; omega, by simp only; omega⟩, a2⟩
    · have := turnA_bd hT l (a + q.2) ⟨fun p hp => ok.s p (List.mem_cons_of_mem _ hp), fun p hp => ok.t p (List.mem_cons_of_mem _ hp)⟩ (by omega) p hp
      exact ⟨⟨this.1.1, by omega⟩, this.2⟩
theorem weiA_bd {S T : Int} (hT : 0 ≤ T) : ∀ (l : Row) (a : Int), RowOk S T l → 0 ≤ a → ∀ x ∈ weiA a l, -(a + l.length * T + S) ≤ x ∧ x ≤ S
  | [], _, _, _, p, hp => by cases hp
  | q :: l, a, ok, h0, x, hx => by
    have e : (((q :: l).length : Nat) : Int) * T = l.length * T + T := by
      rw [List.length_cons, Int.natCast_add, Int.add_mul]
      omega
    have nn : 0 ≤ (l.length : Int) * T := Int.mul_nonneg (by omega) hT
    have a1 := ok.s q (by simp)
    have a2 := ok.t q (by simp)
    rw [e]
    rcases List.mem_cons.mp hx with rfl | hx
    · omega
    · have := weiA_bd hT l (a + q.2) ⟨fun p hp => ok.s p (List.mem_cons_of_mem _ hp), fun p hp => ok.t p (List.mem_cons_of_mem _ hp)⟩ (by omega) x hx
      omega
theorem barN_bd {S T : Int} {l : Row} (ok : RowOk S T l) (hS : 0 ≤ S) (hT : 0 ≤ T) (i : Nat) : ∀ k : Nat, -S ≤ barN l i k ∧ barN l i k ≤ S + T + k * T
  | 0 => by
    obtain ⟨a, b⟩ := gR_bd ok hS hT i
    simp only [barN]
    omega
  | k + 1 => by
    have h := barN_bd ok hS hT i k
    obtain ⟨a, b⟩ := gR_bd ok hS hT (i + 1 + k)
    have e : (((k + 1 : Nat)) : Int) * T = k * T + T := by rw [Int.natCast_add, Int.add_mul]; omega
    rw [e]
    simp only [barN]
    split <;> omega
theorem pairsU_276 {n : Nat} {f : Nat → Nat → Bool} (hn : n ≤ 24) : (pairsU n f).length ≤ 276 := by
  have h1 : (pairsU n f).length ≤ ((List.range n).map fun i => n - (i + 1)).sum := by
    unfold pairsU
    rw [List.length_flatMap]
    generalize List.range n = R
    induction R with
    | nil => simp
    | cons i R ih =>
      simp only [List.map_cons, List.sum_cons, List.length_map]
      have := List.length_filter_le (fun j => f i (i + 1 + j)) (List.range (n - (i + 1)))
      rw [List.length_range] at this
      simp only [List.length_map] at ih
      omega
  have h2 : ∀ n ≤ 24, ((List.range n).map fun i => n - (i + 1)).sum ≤ 276 := by decide +kernel
  have := h2 n hn
  omega
theorem szA_nat (xs : List Nat) : szA (xs.map natD) = xs.length := by
  induction xs with
  | nil => rfl
  | cons a r ih =>
    rw [List.map_cons, szA, ih]
    show 1 + r.length = r.length + 1
    omega
theorem szA_pr (xs : List (Nat × Nat)) : szA (xs.map prD) = 3 * xs.length := by
  induction xs with
  | nil => rfl
  | cons a r ih => simp [szA, ih, prD, sz]; omega
theorem szA_int (xs : List Int) : szA (xs.map .int) = xs.length := by
  induction xs with
  | nil => rfl
  | cons a r ih => simp [szA, ih, sz]; omega
theorem row_tm {S T : Int} {l : Row} (ok : RowOk S T l) (hS : S < 10 ^ 14) (hT : T < 10 ^ 14) (hl : l.length ≤ 24) : Tm (10 ^ 14) 2 (rowD l) ∧ sz (rowD l) ≤ 73 := by
  obtain ⟨a, b⟩ := tm_row ok hS hT
  exact ⟨a, by omega⟩
theorem nats_tm {xs : List Nat} (h : ∀ x ∈ xs, x < 10 ^ 6) (hl : xs.length ≤ 24) : Tm (10 ^ 14) 1 (.list (xs.map natD)) ∧ sz (.list (xs.map natD)) ≤ 25 := by
  refine ⟨tm_list fun x hx => ?_, by simp only [sz]; rw [szA_nat]; omega⟩
  obtain ⟨j, hj, rfl⟩ := List.mem_map.mp hx
  have := h j hj
  show ((j : Nat) : Int).natAbs < 10 ^ 14
  omega
theorem natsT_tm {xs : List Nat} (h : ∀ x ∈ xs, x < 10 ^ 6) (hl : xs.length ≤ 24) : Tm (10 ^ 14) 1 (.tuple (xs.map natD)) ∧ sz (.tuple (xs.map natD)) ≤ 25 := by
  refine ⟨tm_tup fun x hx => ?_, by simp only [sz]; rw [szA_nat]; omega⟩
  obtain ⟨j, hj, rfl⟩ := List.mem_map.mp hx
  have := h j hj
  show ((j : Nat) : Int).natAbs < 10 ^ 14
  omega
theorem prs_tm {xs : List (Nat × Nat)} (h : ∀ x ∈ xs, x.1 < 10 ^ 6 ∧ x.2 < 10 ^ 6) (hl : xs.length ≤ 276) : Tm (10 ^ 14) 2 (prL xs) ∧ sz (prL xs) ≤ 829 := by
  refine ⟨tm_list fun x hx => ?_, by simp only [prL, sz]; rw [szA_pr]; omega⟩
  obtain ⟨p, hp, rfl⟩ := List.mem_map.mp hx
  have := h p hp
  refine tm_tup (k := 0) fun y hy => ?_
  simp at hy
  rcases hy with rfl | rfl
  · show ((p.1 : Nat) : Int).natAbs < 10 ^ 14
    omega
  · show ((p.2 : Nat) : Int).natAbs < 10 ^ 14
    omega
theorem two_tm {a b : D} {k : Nat} (ha : Tm (10 ^ 14) k a) (hb : Tm (10 ^ 14) k b) : Tm (10 ^ 14) (k + 1) (.tuple [a, b]) := tm_tup fun x hx => by
  simp at hx
  rcases hx with rfl | rfl
  · exact ha
  · exact hb
theorem never_tm {l : Row} (hl : l.length ≤ 24) : Tm (10 ^ 14) 2 (neverD l) ∧ sz (neverD l) ≤ 601 := by
  have nr : ∀ i, (nvRow l i).length ≤ 24 := fun i => by have := nv_len l i; omega
  refine ⟨tm_list fun x hx => ?_, ?_⟩
  · obtain ⟨i, _, rfl⟩ := List.mem_map.mp hx
    exact (nats_tm (fun x hx => by have := (mem_nvRow.mp hx).2.1; omega) (nr i)).1
  · have : ∀ R : List Nat, szA (R.map fun i => natsL (nvRow l i)) ≤ 25 * R.length := fun R => by
      induction R with
      | nil => simp [szA]
      | cons i R ih =>
        rw [List.map_cons, szA, List.length_cons]
        have e : sz (natsL (nvRow l i)) ≤ 25 := by
          simp only [natsL, sz]
          rw [szA_nat]
          have := nr i
          omega
        omega
    have h2 := this (List.range l.length)
    rw [List.length_range] at h2
    simp only [neverD, sz]
    omega
theorem asks_tm {S T : Int} {l : Row} {m : Nat} (ok : RowOk S T l) (hS : 0 ≤ S ∧ S < 10 ^ 13) (hT : 0 ≤ T ∧ T < 10 ^ 12) (h0 : T0 l) (hl : l.length ≤ 24) (hm : m < l.length) : Tm (10 ^ 15) 5 (asksD l m) ∧ sz (asksD l m) ≤ 3000 := by
  have up : ∀ {k : Nat} {d : D}, k ≤ 4 → Tm (10 ^ 14) k d → Tm (10 ^ 15) 4 d := fun hk h => tm_up h hk (by decide)
  have a1 := nats_tm (xs := someP l) (fun x hx => by have := List.mem_filter.mp hx; have := List.mem_range.mp this.1; omega) (by
    have := List.length_filter_le (lets l) (List.range l.length)
    rw [List.length_range] at this
    exact Nat.le_trans this hl)
  have a2 := nats_tm (xs := someF l) (fun x hx => by have := List.mem_filter.mp hx; have := List.mem_range.mp this.1; omega) (by
    have := List.length_filter_le (falls l) (List.range (l.length - 1))
    rw [List.length_range] at this
    unfold someF
    omega)
  have lo : ∀ x ∈ lastO l, x < 10 ^ 6 := fun x hx => by
    have := (lastO_spec h0).1.mem_iff.mp hx
    have := List.mem_range.mp this
    omega
  have fo : ∀ x ∈ firstO l, x < 10 ^ 6 := fun x hx => by
    have := (firstO_spec h0).1.mem_iff.mp hx
    have := List.mem_range.mp this
    omega
  have fl : (firstO l).length = l.length := by rw [(firstO_spec h0).1.length_eq, List.length_range]
  have l1 := row_tm (lastR_bd ok hS.1 hT.1 h0 hl) (by omega) (by omega) (by rw [lastR_len h0]; exact hl)
  have f1 := row_tm (firstR_bd ok hS.1 hT.1 h0 hl) (by omega) (by omega) (by rw [firstR_len h0]; exact hl)
  have l2 := natsT_tm lo (by rw [lastO_len h0]; exact hl)
  have f2 := natsT_tm fo (by rw [fl]; exact hl)
  have a3 : Tm (10 ^ 14) 3 (lastD l) ∧ sz (lastD l) ≤ 99 := ⟨two_tm l1.1 (tm_up l2.1 (by decide) (Nat.le_refl _)), by
    have := l1.2
    have := l2.2
    simp only [lastD, sz, szA] at *
    omega⟩
  have a4 : Tm (10 ^ 14) 3 (firstD l) ∧ sz (firstD l) ≤ 99 := ⟨two_tm f1.1 (tm_up f2.1 (by decide) (Nat.le_refl _)), by
    have := f1.2
    have := f2.2
    simp only [firstD, sz, szA] at *
    omega⟩
  have a5 := prs_tm (xs := passL l) (fun x hx => by have := mem_pairsU.mp hx; omega) (pairsU_276 hl)
  have a6 := prs_tm (xs := fallL l) (fun x hx => by have := mem_pairsU.mp hx; omega) (pairsU_276 hl)
  have wl : (l.length : Int) * T ≤ 24 * T := Int.mul_le_mul_of_nonneg_right (by omega) hT.1
  have a7 : Tm (10 ^ 14) 1 (.list ((weiA 0 l).map .int)) ∧ sz (.list ((weiA 0 l).map PyData.int)) ≤ 25 := ⟨tm_list fun x hx => by
    obtain ⟨i, hi, rfl⟩ := List.mem_map.mp hx
    have := weiA_bd hT.1 l 0 ok (Int.le_refl _) i hi
    show i.natAbs < 10 ^ 14
    omega, by
    simp only [sz]
    rw [szA_int, weiA_len]
    omega⟩
  have tb : RowOk (S + 24 * T) T (turn l) := ⟨fun p hp => by
    have := (turnA_bd hT.1 l 0 ok (Int.le_refl _) p hp).1
    omega, fun p hp => (turnA_bd hT.1 l 0 ok (Int.le_refl _) p hp).2⟩
  have a8 := row_tm tb (by omega) (by omega) (by rw [turnA_len]; exact hl)
  have a9 := never_tm hl
  have a10 : Tm (10 ^ 14) 0 (stopD (lastO (l.take (m + 1))) m) ∧ sz (stopD (lastO (l.take (m + 1))) m) = 1 := by
    have ht : T0 (l.take (m + 1)) := fun p hp => h0 p (List.mem_of_mem_take hp)
    unfold stopD
    split
    · exact ⟨trivial, rfl⟩
    · refine ⟨?_, rfl⟩
      generalize (lastO (l.take (m + 1))).idxOf m - 1 = k
      show ((gO (lastO (l.take (m + 1))) k : Nat) : Int).natAbs < 10 ^ 14
      have : gO (lastO (l.take (m + 1))) k < 10 ^ 6 := by
        unfold gO
        rw [List.getD_eq_getElem?_getD]
        cases e : (lastO (l.take (m + 1)))[k]? with
        | none => simp
        | some j =>
          have := (lastO_spec ht).1.mem_iff.mp (List.mem_of_getElem? e)
          have := List.mem_range.mp this
          rw [List.length_take] at this
          simp
          omega
      omega
  have tl : ∀ x ∈ (List.range m).flatMap (tailL l m), Tm (10 ^ 14) 0 x ∧ sz x = 1 := fun x hx => by
    obtain ⟨i, hi, hx⟩ := List.mem_flatMap.mp hx
    unfold tailL at hx
    simp at hx
    rcases hx with rfl | rfl
    · refine ⟨?_, rfl⟩
      have b := barN_bd ok hS.1 hT.1 i (m - (i + 1))
      have k : ((m - (i + 1) : Nat) : Int) * T ≤ 24 * T := Int.mul_le_mul_of_nonneg_right (by omega) hT.1
      show (leastR l i m).natAbs < 10 ^ 14
      unfold leastR
      omega
    · exact ⟨trivial, rfl⟩
  have sl : ∀ xs : List D, (∀ x ∈ xs, sz x = 1) → szA xs = xs.length := fun xs => by
    induction xs with
    | nil => intro _; rfl
    | cons a r ih =>
      intro h
      rw [szA, ih fun x hx => h x (List.mem_cons_of_mem _ hx), h a (by simp), List.length_cons]
      omega
  have tll : ((List.range m).flatMap (tailL l m)).length = 2 * m := by
    rw [List.length_flatMap]
    have : ∀ R : List Nat, (R.map fun i => (tailL l m i).length).sum = 2 * R.length := fun R => by
      induction R with
      | nil => rfl
      | cons i R ih =>
        rw [List.map_cons, List.sum_cons, ih, List.length_cons]
        show 2 + _ = _
        omega
    rw [this, List.length_range]
  refine ⟨tm_list (k := 4) fun x hx => ?_, ?_⟩
  · rcases List.mem_append.mp hx with hx | hx
    · unfold asksL at hx
      simp at hx
      rcases hx with rfl | rfl | rfl | rfl | rfl | rfl | rfl | rfl | rfl | rfl | rfl | rfl | rfl
      · exact up (by decide) a1.1
      · exact up (by decide) a2.1
      · exact up (by decide) a3.1
      · exact up (by decide) a4.1
      · exact up (by decide) a5.1
      · exact up (by decide) a6.1
      · exact up (by decide) a7.1
      · exact up (by decide) a8.1
      · exact up (by decide) a9.1
      · exact up (by decide) a10.1
      · exact up (k := 0) (by decide) trivial
      · exact up (k := 0) (by decide) trivial
      · exact up (k := 0) (by decide) trivial
    · exact up (by decide) (tl x hx).1
  · have t2 := sl _ fun x hx => (tl x hx).2
    have := a1.2
    have := a2.2
    have := a3.2
    have := a4.2
    have := a5.2
    have := a6.2
    have := a7.2
    have := a8.2
    have := a9.2
    have := a10.2
    unfold asksD
    rw [sz, szA_app, t2, tll]
    unfold asksL
    simp only [szA_app, szA]
    have b1 : ∀ b : Bool, sz (.bool b) = 1 := fun _ => rfl
    simp only [b1]
    omega
end TL
set_option Elab.async false
set_option linter.all false
set_option maxRecDepth 100000
set_option maxHeartbeats 4000000
namespace TL
open PySem PySem.Spec PyProof.Rows L2
theorem seq_stepH {m m' : SM} {E : En} {τ : Ev} {n : Nat} (h : ∀ Nx : Ev → Nat → Prop, (∀ τ n, m' E τ n → Nx τ n) → m { E with nx := Nx } τ n) : sSeq m m' E τ n := h (fun τ n => m' E τ n) fun _ _ h => h
noncomputable def Fright : FM := bodyM 12 fun _ => b_law_right Frow Fwith fTake Fof Fasks fNever Fever
theorem right_ok {P : D → Nat → Prop} {PX : XE → Nat → Prop} (h : ∀ n, P (.bool true) n) : Fright [.box] 0 P PX := by
  show bodyM 12 (fun _ => b_law_right Frow Fwith fTake Fof Fasks fNever Fever) _ _ _ _
  have z20 := sz20
  have bc := big_cap
  unfold bodyM b_law_right
  rw [show startE 12 [Sl.box] = [some Sl.box, none, none, none, none, none, none, none, none, none, none, none] from rfl]
  refine seq_stepH fun Nx1 k1 => ?_
  simp
  refine row_ok (by decide) (by decide) (by omega) fun l n1 ok l1 l2 hn1 => k1 _ _ ?_
  clear k1
  refine seq_stepH fun Nx2 k2 => ?_
  simp
  refine ⟨⟨by omega, by omega⟩, by omega, fun r r0 r1 => ⟨by omega, of_ok (by simp) (by simp) (by omega) fun d hd => ?_⟩⟩
  obtain ⟨c, rfl, hc1, hc2⟩ : ∃ c : Int, d = .int c ∧ -3 ≤ c ∧ c ≤ 3 := by
    simp at hd
    rcases hd with rfl | rfl | rfl <;> exact ⟨_, rfl, by decide, by decide⟩
  refine with_ok r0 r1 (by omega) (k2 _ _ ?_)
  clear k2
  have okl : RowOk (2 * 10 ^ 12 + 3) 50 l := ⟨fun p hp => by have := ok.s p hp; omega, ok.t⟩
  have okg : RowOk (2 * 10 ^ 12 + 3) 50 (withR l r.toNat c) := by
    have g1 := ok.s _ (gR_mem (l := l) (j := r.toNat) (by omega))
    have g2 := ok.t _ (gR_mem (l := l) (j := r.toNat) (by omega))
    refine ⟨fun p hp => ?_, fun p hp => ?_⟩
    · unfold withR at hp
      rcases List.mem_append.mp hp with hp | hp
      · rcases List.mem_append.mp hp with hp | hp
        · exact okl.s p (List.mem_of_mem_take hp)
        · obtain rfl : p = _ := by simpa using hp
          simp only
          omega
      · exact okl.s p (List.mem_of_mem_drop hp)
    · unfold withR at hp
      rcases List.mem_append.mp hp with hp | hp
      · rcases List.mem_append.mp hp with hp | hp
        · exact okl.t p (List.mem_of_mem_take hp)
        · obtain rfl : p = _ := by simpa using hp
          exact g2
      · exact okl.t p (List.mem_of_mem_drop hp)
  have lg : (withR l r.toNat c).length = l.length := by simp [withR]; omega
  generalize withR l r.toNat c = g at okg lg ⊢
  refine seq_stepH fun Nx3 k3 => ?_
  simp
  refine ⟨⟨by omega, by omega⟩, by omega, fun w w0 w1 => k3 _ _ ?_⟩
  clear k3
  obtain ⟨m, rfl⟩ := Int.eq_ofNat_of_zero_le w0
  have hm : m < l.length := by omega
  refine seq_stepH fun Nx4 k4 => ?_
  simp
  refine ⟨by omega, k4 _ _ ?_⟩
  clear k4
  have good : ∀ x ∈ [l, g], RowOk (2 * 10 ^ 12 + 3) 50 x ∧ x.length = l.length := fun x hx => by
    simp at hx
    rcases hx with rfl | rfl
    · exact ⟨okl, rfl⟩
    · exact ⟨okg, lg⟩
  have tm : ∀ x ∈ [l, g], Tm (10 ^ 15) 5 (asksD x m) ∧ sz (asksD x m) ≤ 3000 := fun x hx => by
    obtain ⟨a, b⟩ := good x hx
    exact asks_tm a (by decide) (by decide) a.t0 (by omega) (by omega)
  have asks : ∀ x ∈ [l, g], ∀ (n : Nat) (Q : D → Nat → Prop) (QX : XE → Nat → Prop), Q (asksD x m) n → Fasks [.d (rowD x), .d (.int (m : Nat))] n Q QX := fun x hx n Q QX q => by
    obtain ⟨a, b⟩ := good x hx
    obtain ⟨t1, t2⟩ := tm_row a (by decide) (by decide)
    exact asks_ok a.t0 (by omega) (by omega) (by omega) t1 (by omega) q
  have rp : ∀ x ∈ [l, g], ∀ Q : D → Prop, Q (.str (asksD x m).shown) → dRepr (asksD x m) Q := fun x hx Q q => by
    obtain ⟨a, b⟩ := tm x hx
    have f := tmF (by decide) a
    exact ⟨rfl, f.lay, f.sho, by have := f.dep; omega, tm_shown (by decide) b a, q⟩
  refine seq_stepH fun Nx5 k5 => ?_
  simp [wipeE]
  show lcD _ _ _ _ ([l, g].map rowD) [] _ _
  refine lc_map rowD (fun x => [some Sl.box, some (Sl.d (rowD l)), some (Sl.d (rowD g)), some (Sl.d (PyData.int (m : Nat))), some (Sl.d (PyData.tuple [rowD l, rowD g])), none, none, none, none, none, none, some (.d (rowD x))]) (fun _ => true) (fun x => .str (asksD x m).shown) [l, g] (fun x _ n R r => by simp at r ⊢; exact r) (fun x _ n R r => by simp; exact r) (fun x hx _ n R r => ?_) [] _ _ (by simp; omega) ?_
  · simp
    exact asks x hx _ _ _ (rp x hx _ r)
  rw [List.nil_append, List.filter_eq_self.mpr (fun _ _ => rfl)]
  refine k5 _ _ ?_
  clear k5
  refine seq_stepH fun Nx6 k6 => ?_
  simp
  refine for_inv (fun i τ n' => ∃ (y6 y7 y11 : Option Sl), τ = [some Sl.box, some (Sl.d (rowD l)), some (Sl.d (rowD g)), some (Sl.d (PyData.int (m : Nat))), some (Sl.d (PyData.tuple [rowD l, rowD g])), some (.d (.list [.str (asksD l m).shown, .str (asksD g m).shown])), y6, y7, none, none, none, y11] ∧ n' ≤ 300 + 10 * i) _ 0 _ _ ⟨none, none, none, rfl, by omega⟩ ?_ ?_
  · rintro i d hx τ n2 N ⟨y6, y7, y11, rfl, hn2⟩ hN
    have hi : i < 6 := by
      have := (List.getElem?_eq_some_iff.mp hx).1
      rwa [rangeD_len] at this
    rw [Nat.zero_add] at hn2 hN
    simp only [gN_ap, List.set_cons_zero, List.set_cons_succ]
    refine seq_stepH fun M1 j1 => ?_
    simp
    refine ⟨by omega, fun a a0 a1 => j1 _ _ ?_⟩
    clear j1
    obtain ⟨b, rfl⟩ := Int.eq_ofNat_of_zero_le a0
    obtain ⟨x, hx2, e4, e5⟩ : ∃ x ∈ [l, g], atI [rowD l, rowD g] (b : Nat) = some (rowD x) ∧ atI [PyData.str (asksD l m).shown, .str (asksD g m).shown] (b : Nat) = some (.str (asksD x m).shown) := by
      match b, (show b < 2 by omega) with
      | 0, _ => exact ⟨l, by simp, rfl, rfl⟩
      | 1, _ => exact ⟨g, by simp, rfl, rfl⟩
    simp
    obtain ⟨ta, tb⟩ := tm x hx2
    obtain ⟨okx, lx⟩ := good x hx2
    have sh := tm_shaped (by decide) ta
    have okH : okHet (asksD x m) := ⟨_, rfl, fun e he => ⟨tm_okT (tm_mem (.inl ta) e he), fun xs e1 => by
      have q1 := szA_mem he
      have q2 := szA_len xs
      unfold asksD at tb
      rw [sz] at tb
      rw [e1, sz] at q1
      omega⟩⟩
    have nv : ∃ y, modP [0] (oA (PyData.int 99)) (neverD x) = some y := by
      have e0 : ((List.range x.length).map fun i => natsL (nvRow x i))[0]? = some (natsL (nvRow x 0)) := by
        rw [List.getElem?_map, List.getElem?_range (by omega)]
        rfl
      have q := nv_len x 0
      show ∃ y, modP [0] (oA (PyData.int 99)) (.list ((List.range x.length).map fun i => natsL (nvRow x i))) = some y
      simp only [modP]
      rw [e0]
      simp [natsL, modP, oA]
      omega
    refine ⟨_, e4, asks x hx2 _ _ _ (rp x hx2 _ ⟨_, e5, ⟨sh, sh⟩, .inl ⟨SeqAt.eqv_refl _ (by simpa [PyData.canLay0] using (tmF (by decide) ta).txt), okH, _, e4, never_ok (by omega) ⟨nv, ?_⟩⟩⟩)⟩
    by_cases m0 : m = 0
    · exact .inl ⟨m0, hN _ _ ⟨_, _, _, rfl, by omega⟩⟩
    · refine .inr ⟨by omega, _, e4, ever_ok (i := 0) (by omega) (by omega) (by omega) ⟨_, e4, never_ok (by omega) ?_⟩⟩
      rw [show (PyData.int 0 : D) = .int ((0 : Nat) : Int) from rfl, ix_never (by omega), mem_natsL]
      have e : decide (m ∈ nvRow x 0) = !(Pv x 0 m) := by
        have : (m ∈ nvRow x 0) ↔ Pv x 0 m = false := by
          rw [mem_nvRow]
          constructor
          · exact fun h => h.2.2
          · exact fun h => ⟨by omega, by omega, h⟩
        cases q : Pv x 0 m <;> simp [this, q]
      simp [e]
      exact hN _ _ ⟨_, _, _, rfl, by omega⟩
  · rintro τ n2 ⟨y6, y7, y11, rfl, hn2⟩
    refine k6 _ _ ?_
    clear k6
    simp
    obtain ⟨t1, t2⟩ := tm_row okl (by decide) (by decide)
    obtain ⟨t3, t4⟩ := tm_row okg (by decide) (by decide)
    have tt : Tm (10 ^ 14) 3 (.tuple [rowD l, rowD g]) := two_tm t1 t3
    have ts : sz (.tuple [rowD l, rowD g]) ≤ 3000 := by
      simp only [sz, szA]
      omega
    have f := tmF (by decide) tt
    have sh := tm_shaped (by decide) tt
    have rp2 : ∀ Q : D → Prop, Q (.str (PyData.tuple [rowD l, rowD g]).shown) → dRepr (.tuple [rowD l, rowD g]) Q := fun Q q => ⟨rfl, f.lay, f.sho, by have := f.dep; omega, tm_shown (by decide) ts tt, q⟩
    refine rp2 _ ⟨by omega, rp2 _ ⟨⟨sh, sh⟩, ?_⟩⟩
    rw [SeqAt.eqv_refl _ (by simpa [PyData.canLay0] using f.txt)]
    exact h _
end TL
set_option Elab.async false
set_option linter.all false
set_option maxRecDepth 100000
set_option maxHeartbeats 4000000
namespace TL
open PySem PySem.Spec PyProof.Rows L2
/-! ### the law -/
def Fdip : FM := bodyM 3 fun _ => b_law_dip
theorem dip_ok {ns : List Int} {k n : Nat} {P : D → Nat → Prop} {PX : XE → Nat → Prop} (hk : k ≤ 64) (h : ∀ x y : Int, 0 ≤ x → 0 ≤ y → y < 2 ^ 62 → P (.list [.int x, .int y, .int 0]) n) : Fdip [.d (.list (ns.map .int)), .d (.int k)] n P PX := by
  show bodyM 3 (fun _ => b_law_dip) _ _ _ _
  have z20 := sz20
  have pw : CPowB 10 18 := ⟨by decide, by decide +kernel⟩
  have m1 : IntMulOk 39373 (k : Int) := mul64 (by omega) (by omega)
  simp [b_law_dip, -Bool.exists_bool]
  by_cases hl : k < ns.length
  · rw [if_pos hl]
    refine ⟨.int ns[k], by rw [atI_nat _ (by omega)]; simp [hl], ?_⟩
    generalize ns[k] = c
    simp [pw, m1, -Bool.exists_bool]
    have c0 : 0 ≤ (if c < 0 then -c else c) := by split <;> omega
    generalize (if c < 0 then -c else c) = a at c0 ⊢
    have d0 : 0 ≤ (if 1000000000000000000 ≤ a then (1 : Int) else 0) ∧ (if 1000000000000000000 ≤ a then (1 : Int) else 0) ≤ 1 := by split <;> omega
    generalize (if 1000000000000000000 ≤ a then (1 : Int) else 0) = b at d0 ⊢
    refine ⟨mul64 (by omega) (by omega), by omega, h _ _ (Int.mul_nonneg c0 d0.1) (by omega) (by omega)⟩
  · rw [if_neg hl]
    exact ⟨pw, mul64 (by omega) (by omega), m1, by omega, h _ _ (by omega) (by omega) (by omega)⟩
def Ffolded : FM := bodyM 5 fun _ => b_law_folded
theorem cutG_map {lo hi : Option Int} {ns : List Int} : cutG (ns.map PyData.int) lo hi = (cutG ns lo hi).map .int := by simp [cutG, List.map_take, List.map_drop]
theorem folded_ok {ns : List Int} {many : Int} {n : Nat} {P : D → Nat → Prop} {PX : XE → Nat → Prop} (hm : 1 ≤ many ∧ many ≤ 60) (hl : ns.length ≤ 63) (h : ∀ cs : List Int, cs.length ≤ many → P (.list (cs.map .int)) n) : Ffolded [.d (.list (ns.map .int)), .d (.int many)] n P PX := by
  show bodyM 5 (fun _ => b_law_folded) _ _ _ _
  have z20 := sz20
  simp [b_law_folded, cutG_map, cut_to (show 0 ≤ many by omega)]
  rw [← List.map_take]
  refine for_inv (fun i τ n' => ∃ (cs : List Int) (y3 y4 : Option Sl), τ = [some (.d (.list (ns.map .int))), some (.d (.int many)), some (.ow (cs.map .int)), y3, y4] ∧ cs.length = min ns.length many.toNat ∧ n' = n) _ 0 _ _ ⟨ns.take many.toNat, none, none, rfl, by simp [Nat.min_comm], rfl⟩ ?_ ?_
  · rintro i x hx τ n1 N ⟨cs, y3, y4, rfl, hc, rfl⟩ hN
    rw [enumD_get] at hx
    simp only [List.getElem?_map] at hx
    cases e : (cutG ns (some many) (some 63))[i]? with
    | none => rw [e] at hx; cases hx
    | some c =>
      rw [e] at hx
      simp at hx
      subst hx
      have il : i < (cutG ns (some many) (some 63)).length := (List.getElem?_eq_some_iff.mp e).1
      have il2 : i < ns.length - many.toNat := by
        unfold cutG at il
        obtain ⟨k, rfl⟩ := Int.eq_ofNat_of_zero_le (show 0 ≤ many by omega)
        rw [HT.sIx_nat] at il
        simp at il ⊢
        omega
      have hcl : (cs.length : Int) = many := by omega
      have q0 : 0 ≤ (i : Int) % many := Int.emod_nonneg _ (by omega)
      have q1 : (i : Int) % many < many := Int.emod_lt_of_pos _ (by omega)
      have q2 : ((i : Int) % many).toNat < cs.length := by omega
      have at1 : atI (cs.map PyData.int) ((i : Int) % many) = some (.int cs[((i : Int) % many).toNat]) := by
        rw [atI_nat _ q0]
        simp [q2]
      have ix1 : ixN cs.length ((i : Int) % many) = some ((i : Int) % many).toNat := by
        unfold ixN
        rw [if_pos q0, if_pos (by omega)]
      simp [at1, ix1]
      have r1 : (cs.map PyData.int).set ((i : Int) % many).toNat (PyData.int (cs[((i : Int) % many).toNat] + c * ((i : Int) + 2))) = (cs.set ((i : Int) % many).toNat (cs[((i : Int) % many).toNat] + c * ((i : Int) + 2))).map .int := by rw [List.map_set]
      rw [r1]
      exact ⟨by omega, mul64 (by omega) (by omega), by omega, hN _ _ ⟨_, _, _, rfl, by simpa using hc, rfl⟩⟩
  · rintro τ n1 ⟨cs, y3, y4, rfl, hc, rfl⟩
    simp
    exact h cs (by omega)
def Flaw : FM := bodyM 3 fun _ => b_law Ffolded Fright Fdip
theorem law_turns {k : Nat} {ns cs : List Int} (hk : k ≤ 61) (me : EM) (hme : me = mCallBx Fright (mCal 2 Fdip (kCons (mVar 1) (kCons (mVar 2) kNil)))) :
    lcD (gN 2) cYes me [some (.d (.list (ns.map .int))), some (.d (.list (cs.map .int))), none] (rangeD 0 k) [] 0 fun x _ => dAll x fun d => d = .bool true := by
  subst hme
  have z20 := sz20
  rw [rangeD_nat]
  refine lc_map natD (fun j => [some (.d (.list (ns.map .int))), some (.d (.list (cs.map .int))), some (.d (natD j))]) (fun _ => true) (fun _ => .bool true) (List.range k) (fun a ha n R r => by simpa using r) (fun a ha n R r => by simpa using r) (fun a ha _ n R r => ?_) [] 0 _ (by simp; omega) ?_
  · have ha' : a < k := by simpa using ha
    show mCal 2 Fdip (kCons (mVar 1) (kCons (mVar 2) kNil)) _ _ _
    simp
    exact dip_ok (by omega) fun x y h1 h2 h3 => ⟨x, y, rfl, h1, ⟨h2, h3⟩, right_ok fun _ => r⟩
  · rw [List.filter_eq_self.mpr (by simp)]
    exact ⟨List.replicate k true, by simp [List.map_const'], by simp⟩
theorem law_ok (ns : List Int) (hl : ns.length ≤ 63) : Flaw [.d (.list (ns.map .int))] 0 (fun d _ => d = .bool true) fun _ _ => False := by
  show bodyM 3 (fun _ => b_law Ffolded Fright Fdip) _ _ _ _
  simp [b_law]
  refine folded_ok (by decide) hl fun cs hc => ?_
  simp
  have hk : ∃ k : Nat, (if 1 < (cs.length : Int) then (cs.length : Int) else 1) = k ∧ k ≤ 60 := by
    split
    · exact ⟨cs.length, rfl, by omega⟩
    · exact ⟨1, rfl, by decide⟩
  obtain ⟨k, e, hk⟩ := hk
  simp only [e]
  refine ⟨⟨by omega, by omega⟩, ?_⟩
  simp [wipeE]
  exact law_turns (by omega) _ rfl
end TL
set_option Elab.async false
set_option linter.all false
set_option maxRecDepth 100000
set_option maxHeartbeats 4000000
namespace TL
open PySem PySem.Spec PyProof.Rows L2
section
variable {P : Program} {w : World} {K : PySem.W.Frag} {mg : Str → Option Value} {base : Heap}
theorem fnok_law {k : Nat} {fa : Addr} {fd : FuncData} (F : FunD K "law" "law" (defArgs (top 36)) (defBody (top 36)) (defScope (top 36)) [] [] fa fd) (Z : Fz mg) (C_law_folded : Cal P w K mg base "_law_folded" (defArgs (top 29)) ["_law_script", "_law_many"] k .fz Ffolded) (C_law_right : GCal P w K mg base "_law_right" (defArgs (top 35)) ["_law_box"] k .fz Fright) (C_law_dip : Cal P w K mg base "_law_dip" (defArgs (top 27)) ["_law_script", "_law_k"] k .nw Fdip) :
    GOk P w K mg base (k + 1) fa fd ["_law_script"] (Pr K .fz 1 Flaw) :=
  have nd := sc_law.nd
  gn_ok F sc_law rfl rfl (fun cdv A outer s H E hgd hr => by
    conv => arg 3; whnf
    exact (s_cons (p_set (k := .fz) (i := 1) (fun z => nomatch z) nd rfl (by first | exact Or.inl rfl | exact Or.inr rfl) (e_cal C_law_folded hr (by rfl) (a_cons (e_var (pv 0)) (a_cons e_int a_nil)))) (s_one (p_ret (e_all rfl (E2.bw (e_lc (own := [("_law_k", 2)]) rfl nd (I2.j (i_range1 (by rfl) Z.range (E2.bw (e_max2 rfl (E2.bw e_int) (E2.bw (e_len (by rfl) Z.len (E2.bw (e_var (pv 1))))) (by rfl) Z.max)))) (blkOk_by rfl) (fun _ _ _ _ _ => (g_name (i := 2) (pg_name (i := 2) nd rfl (by first | exact Or.inl rfl | exact Or.inr rfl)))) (fun _ _ _ _ _ => c_nil) (fun _ _ _ _ _ => (e_calBxG C_law_right rfl hgd hr (by rfl) (e_cal C_law_dip hr (by rfl) (a_cons (e_var (pv 1)) (a_cons (e_var (pv 2)) a_nil))))))) (by rfl) Z.all)))))
end
def dd_is_number : He.DefD := ⟨("is_number", none), "is_number", "is_number", defArgs (top 1), defBody (top 1), defScope (top 1), [], []⟩
def dd_is_beast : He.DefD := ⟨("is_beast", none), "is_beast", "is_beast", defArgs (top 2), defBody (top 2), defScope (top 2), [], []⟩
def dd_is_row : He.DefD := ⟨("is_row", none), "is_row", "is_row", defArgs (top 3), defBody (top 3), defScope (top 3), [], []⟩
def dd_lets_pass : He.DefD := ⟨("lets_pass", none), "lets_pass", "lets_pass", defArgs (top 4), defBody (top 4), defScope (top 4), [], []⟩
def dd_lets_fall : He.DefD := ⟨("lets_fall", none), "lets_fall", "lets_fall", defArgs (top 5), defBody (top 5), defScope (top 5), [], []⟩
def dd_may_pass : He.DefD := ⟨("may_pass", none), "may_pass", "may_pass", defArgs (top 6), defBody (top 6), defScope (top 6), [], []⟩
def dd_may_fall : He.DefD := ⟨("may_fall", none), "may_fall", "may_fall", defArgs (top 7), defBody (top 7), defScope (top 7), [], []⟩
def dd_is_order : He.DefD := ⟨("is_order", none), "is_order", "is_order", defArgs (top 8), defBody (top 8), defScope (top 8), [], []⟩
def dd_last : He.DefD := ⟨("last", none), "last", "last", defArgs (top 10), defBody (top 10), defScope (top 10), [], []⟩
def dd_first : He.DefD := ⟨("first", none), "first", "first", defArgs (top 11), defBody (top 11), defScope (top 11), [], []⟩
def dd_turned_pairs : He.DefD := ⟨("turned_pairs", none), "turned_pairs", "turned_pairs", defArgs (top 12), defBody (top 12), defScope (top 12), [], []⟩
def dd_passings : He.DefD := ⟨("passings", none), "passings", "passings", defArgs (top 13), defBody (top 13), defScope (top 13), [], []⟩
def dd_fallings : He.DefD := ⟨("fallings", none), "fallings", "fallings", defArgs (top 14), defBody (top 14), defScope (top 14), [], []⟩
def dd_is_last : He.DefD := ⟨("is_last", none), "is_last", "is_last", defArgs (top 15), defBody (top 15), defScope (top 15), [], []⟩
def dd_is_first : He.DefD := ⟨("is_first", none), "is_first", "is_first", defArgs (top 16), defBody (top 16), defScope (top 16), [], []⟩
def dd_never : He.DefD := ⟨("never", none), "never", "never", defArgs (top 18), defBody (top 18), defScope (top 18), [], []⟩
def dd_shows_never : He.DefD := ⟨("shows_never", none), "shows_never", "shows_never", defArgs (top 19), defBody (top 19), defScope (top 19), [], []⟩
def dd_ever : He.DefD := ⟨("ever", none), "ever", "ever", defArgs (top 20), defBody (top 20), defScope (top 20), [], []⟩
def dd_least_strength : He.DefD := ⟨("least_strength", none), "least_strength", "least_strength", defArgs (top 21), defBody (top 21), defScope (top 21), [], []⟩
def dd_stopped_by : He.DefD := ⟨("stopped_by", none), "stopped_by", "stopped_by", defArgs (top 22), defBody (top 22), defScope (top 22), [], []⟩
def dd_weighed : He.DefD := ⟨("weighed", none), "weighed", "weighed", defArgs (top 24), defBody (top 24), defScope (top 24), [], []⟩
def dd_turned : He.DefD := ⟨("turned", none), "turned", "turned", defArgs (top 25), defBody (top 25), defScope (top 25), [], []⟩
def dd_law_dip : He.DefD := ⟨("_law_dip", none), "_law_dip", "_law_dip", defArgs (top 27), defBody (top 27), defScope (top 27), [], []⟩
def dd_law_take : He.DefD := ⟨("_law_take", none), "_law_take", "_law_take", defArgs (top 28), defBody (top 28), defScope (top 28), [], []⟩
def dd_law_folded : He.DefD := ⟨("_law_folded", none), "_law_folded", "_law_folded", defArgs (top 29), defBody (top 29), defScope (top 29), [], []⟩
def dd_law_same : He.DefD := ⟨("_law_same", none), "_law_same", "_law_same", defArgs (top 30), defBody (top 30), defScope (top 30), [], []⟩
def dd_law_of : He.DefD := ⟨("_law_of", none), "_law_of", "_law_of", defArgs (top 31), defBody (top 31), defScope (top 31), [], []⟩
def dd_law_row : He.DefD := ⟨("_law_row", none), "_law_row", "_law_row", defArgs (top 32), defBody (top 32), defScope (top 32), [], []⟩
def dd_law_asks : He.DefD := ⟨("_law_asks", none), "_law_asks", "_law_asks", defArgs (top 33), defBody (top 33), defScope (top 33), [], []⟩
def dd_law_with : He.DefD := ⟨("_law_with", none), "_law_with", "_law_with", defArgs (top 34), defBody (top 34), defScope (top 34), [], []⟩
def dd_law_right : He.DefD := ⟨("_law_right", none), "_law_right", "_law_right", defArgs (top 35), defBody (top 35), defScope (top 35), [], []⟩
def dd_law : He.DefD := ⟨("law", none), "law", "law", defArgs (top 36), defBody (top 36), defScope (top 36), [], []⟩
def fnl : List He.DefD := [dd_is_number, dd_is_beast, dd_is_row, dd_lets_pass, dd_lets_fall, dd_may_pass, dd_may_fall, dd_is_order, dd_last, dd_first, dd_turned_pairs, dd_passings, dd_fallings, dd_is_last, dd_is_first, dd_never, dd_shows_never, dd_ever, dd_least_strength, dd_stopped_by, dd_weighed, dd_turned, dd_law_dip, dd_law_take, dd_law_folded, dd_law_same, dd_law_of, dd_law_row, dd_law_asks, dd_law_with, dd_law_right, dd_law]
def fal : List He.Fa := [.glo "is_number", .glo "is_beast", .glo "is_row", .glo "lets_pass", .glo "lets_fall", .glo "may_pass", .glo "may_fall", .glo "is_order", .glo "last", .glo "first", .glo "turned_pairs", .glo "passings", .glo "fallings", .glo "is_last", .glo "is_first", .glo "never", .glo "shows_never", .glo "ever", .glo "least_strength", .glo "stopped_by", .glo "weighed", .glo "turned", .glo "_law_dip", .glo "_law_take", .glo "_law_folded", .glo "_law_same", .glo "_law_of", .glo "_law_row", .glo "_law_asks", .glo "_law_with", .glo "_law_right", .glo "law", .free "len", .free "range", .free "tuple", .free "list", .free "enumerate", .free "all", .free "any", .free "int", .free "abs", .free "sorted", .free "zip", .free "dict", .free "str", .free "sum", .free "max", .free "min", .free "repr", .free "set", .free "reversed", .free "isinstance", .free "bool"]
abbrev hkL : PySem.W.Hook := He.hookD 4 fal fnl
def obL (s : PySem.W.SharedT) : He.AlD := He.obsDG 4 fal fnl (HandSHeadRun.getT s)
theorem obL_eq (s : PySem.W.SharedT) : obL s = hkL.obs s.abs := He.obsDG_eq (HandSHeadRun.getT_eq s)
def looseL : List PySem.Str := "is_number" :: "is_beast" :: "is_row" :: "lets_pass" :: "lets_fall" :: "may_pass" :: "may_fall" :: "is_order" :: "last" :: "first" :: "turned_pairs" :: "passings" :: "fallings" :: "is_last" :: "is_first" :: "never" :: "shows_never" :: "ever" :: "least_strength" :: "stopped_by" :: "weighed" :: "turned" :: "_law_dip" :: "_law_take" :: "_law_folded" :: "_law_same" :: "_law_of" :: "_law_row" :: "_law_asks" :: "_law_with" :: "_law_right" :: []
set_option maxHeartbeats 0 in
theorem runL (w : World) : HandSHeadRun.RunEq (PySem.W.OpenLaw.row PySem.Challenge.rw_hayherd_k19_asked_again_and_shared) (PySem.W.view (PySem.W.OpenLaw.row PySem.Challenge.rw_hayherd_k19_asked_again_and_shared).prog [36]) hkL obL 4000 looseL w := by
  intro os
  kernel_rfl
theorem facts {P : Program} {w : World} {K : PySem.W.Frag} {h : Heap} {mg : Str → Option Value} {f : Addr} (X : K.In h) (G : h.Ns mainGlobals mg) (hfa : mg ("law" : Str) = some (.ref f)) (c : He.SaysD fal fnl K) :
    ∃ fd : FuncData, (∀ (s : Shared) (v : Value), BindsTo s fd ⟨[v], []⟩ [("_law_script", v)]) ∧ ∀ base : Heap, K.In base → base.Ns mainGlobals mg → GOk P w K mg base 6 f fd ["_law_script"] (TL.spLaw K) := by
  obtain ⟨fd_is_number, F_is_number⟩ := c.def_ 0 (d := dd_is_number) rfl
  obtain ⟨fd_is_beast, F_is_beast⟩ := c.def_ 1 (d := dd_is_beast) rfl
  obtain ⟨fd_is_row, F_is_row⟩ := c.def_ 2 (d := dd_is_row) rfl
  obtain ⟨fd_lets_pass, F_lets_pass⟩ := c.def_ 3 (d := dd_lets_pass) rfl
  obtain ⟨fd_lets_fall, F_lets_fall⟩ := c.def_ 4 (d := dd_lets_fall) rfl
  obtain ⟨fd_may_pass, F_may_pass⟩ := c.def_ 5 (d := dd_may_pass) rfl
  obtain ⟨fd_may_fall, F_may_fall⟩ := c.def_ 6 (d := dd_may_fall) rfl
  obtain ⟨fd_is_order, F_is_order⟩ := c.def_ 7 (d := dd_is_order) rfl
  obtain ⟨fd_last, F_last⟩ := c.def_ 8 (d := dd_last) rfl
  obtain ⟨fd_first, F_first⟩ := c.def_ 9 (d := dd_first) rfl
  obtain ⟨fd_turned_pairs, F_turned_pairs⟩ := c.def_ 10 (d := dd_turned_pairs) rfl
  obtain ⟨fd_passings, F_passings⟩ := c.def_ 11 (d := dd_passings) rfl
  obtain ⟨fd_fallings, F_fallings⟩ := c.def_ 12 (d := dd_fallings) rfl
  obtain ⟨fd_is_last, F_is_last⟩ := c.def_ 13 (d := dd_is_last) rfl
  obtain ⟨fd_is_first, F_is_first⟩ := c.def_ 14 (d := dd_is_first) rfl
  obtain ⟨fd_never, F_never⟩ := c.def_ 15 (d := dd_never) rfl
  obtain ⟨fd_shows_never, F_shows_never⟩ := c.def_ 16 (d := dd_shows_never) rfl
  obtain ⟨fd_ever, F_ever⟩ := c.def_ 17 (d := dd_ever) rfl
  obtain ⟨fd_least_strength, F_least_strength⟩ := c.def_ 18 (d := dd_least_strength) rfl
  obtain ⟨fd_stopped_by, F_stopped_by⟩ := c.def_ 19 (d := dd_stopped_by) rfl
  obtain ⟨fd_weighed, F_weighed⟩ := c.def_ 20 (d := dd_weighed) rfl
  obtain ⟨fd_turned, F_turned⟩ := c.def_ 21 (d := dd_turned) rfl
  obtain ⟨fd_law_dip, F_law_dip⟩ := c.def_ 22 (d := dd_law_dip) rfl
  obtain ⟨fd_law_take, F_law_take⟩ := c.def_ 23 (d := dd_law_take) rfl
  obtain ⟨fd_law_folded, F_law_folded⟩ := c.def_ 24 (d := dd_law_folded) rfl
  obtain ⟨fd_law_same, F_law_same⟩ := c.def_ 25 (d := dd_law_same) rfl
  obtain ⟨fd_law_of, F_law_of⟩ := c.def_ 26 (d := dd_law_of) rfl
  obtain ⟨fd_law_row, F_law_row⟩ := c.def_ 27 (d := dd_law_row) rfl
  obtain ⟨fd_law_asks, F_law_asks⟩ := c.def_ 28 (d := dd_law_asks) rfl
  obtain ⟨fd_law_with, F_law_with⟩ := c.def_ 29 (d := dd_law_with) rfl
  obtain ⟨fd_law_right, F_law_right⟩ := c.def_ 30 (d := dd_law_right) rfl
  obtain ⟨fd_law, F_law⟩ := c.def_ 31 (d := dd_law) rfl
  have g_is_number := He.glo_ok X G (c.fact 0 (f := .glo "is_number") rfl)
  have g_is_beast := He.glo_ok X G (c.fact 1 (f := .glo "is_beast") rfl)
  have g_is_row := He.glo_ok X G (c.fact 2 (f := .glo "is_row") rfl)
  have g_lets_pass := He.glo_ok X G (c.fact 3 (f := .glo "lets_pass") rfl)
  have g_lets_fall := He.glo_ok X G (c.fact 4 (f := .glo "lets_fall") rfl)
  have g_may_pass := He.glo_ok X G (c.fact 5 (f := .glo "may_pass") rfl)
  have g_may_fall := He.glo_ok X G (c.fact 6 (f := .glo "may_fall") rfl)
  have g_is_order := He.glo_ok X G (c.fact 7 (f := .glo "is_order") rfl)
  have g_last := He.glo_ok X G (c.fact 8 (f := .glo "last") rfl)
  have g_first := He.glo_ok X G (c.fact 9 (f := .glo "first") rfl)
  have g_turned_pairs := He.glo_ok X G (c.fact 10 (f := .glo "turned_pairs") rfl)
  have g_passings := He.glo_ok X G (c.fact 11 (f := .glo "passings") rfl)
  have g_fallings := He.glo_ok X G (c.fact 12 (f := .glo "fallings") rfl)
  have g_is_last := He.glo_ok X G (c.fact 13 (f := .glo "is_last") rfl)
  have g_is_first := He.glo_ok X G (c.fact 14 (f := .glo "is_first") rfl)
  have g_never := He.glo_ok X G (c.fact 15 (f := .glo "never") rfl)
  have g_shows_never := He.glo_ok X G (c.fact 16 (f := .glo "shows_never") rfl)
  have g_ever := He.glo_ok X G (c.fact 17 (f := .glo "ever") rfl)
  have g_least_strength := He.glo_ok X G (c.fact 18 (f := .glo "least_strength") rfl)
  have g_stopped_by := He.glo_ok X G (c.fact 19 (f := .glo "stopped_by") rfl)
  have g_weighed := He.glo_ok X G (c.fact 20 (f := .glo "weighed") rfl)
  have g_turned := He.glo_ok X G (c.fact 21 (f := .glo "turned") rfl)
  have g_law_dip := He.glo_ok X G (c.fact 22 (f := .glo "_law_dip") rfl)
  have g_law_take := He.glo_ok X G (c.fact 23 (f := .glo "_law_take") rfl)
  have g_law_folded := He.glo_ok X G (c.fact 24 (f := .glo "_law_folded") rfl)
  have g_law_same := He.glo_ok X G (c.fact 25 (f := .glo "_law_same") rfl)
  have g_law_of := He.glo_ok X G (c.fact 26 (f := .glo "_law_of") rfl)
  have g_law_row := He.glo_ok X G (c.fact 27 (f := .glo "_law_row") rfl)
  have g_law_asks := He.glo_ok X G (c.fact 28 (f := .glo "_law_asks") rfl)
  have g_law_with := He.glo_ok X G (c.fact 29 (f := .glo "_law_with") rfl)
  have g_law_right := He.glo_ok X G (c.fact 30 (f := .glo "_law_right") rfl)
  have g_law := He.glo_ok X G (c.fact 31 (f := .glo "law") rfl)
  have Z : Fz mg := ⟨He.free_ok X G (c.fact 32 (f := .free "len") rfl), He.free_ok X G (c.fact 33 (f := .free "range") rfl), He.free_ok X G (c.fact 34 (f := .free "tuple") rfl), He.free_ok X G (c.fact 35 (f := .free "list") rfl), He.free_ok X G (c.fact 36 (f := .free "enumerate") rfl), He.free_ok X G (c.fact 37 (f := .free "all") rfl), He.free_ok X G (c.fact 38 (f := .free "any") rfl), He.free_ok X G (c.fact 39 (f := .free "int") rfl), He.free_ok X G (c.fact 40 (f := .free "abs") rfl), He.free_ok X G (c.fact 41 (f := .free "sorted") rfl), He.free_ok X G (c.fact 42 (f := .free "zip") rfl), He.free_ok X G (c.fact 43 (f := .free "dict") rfl), He.free_ok X G (c.fact 44 (f := .free "str") rfl), He.free_ok X G (c.fact 45 (f := .free "sum") rfl), He.free_ok X G (c.fact 46 (f := .free "max") rfl), He.free_ok X G (c.fact 47 (f := .free "min") rfl), He.free_ok X G (c.fact 48 (f := .free "repr") rfl), He.free_ok X G (c.fact 49 (f := .free "set") rfl), He.free_ok X G (c.fact 50 (f := .free "reversed") rfl), He.free_ok X G (c.fact 51 (f := .free "isinstance") rfl), He.free_ok X G (c.fact 52 (f := .free "bool") rfl)⟩
  have e := hfa.symm.trans g_law
  cases e
  have b := FunD.bindsA (ps := ["_law_script"]) F_law fun _ _ _ _ _ _ us hl => match us, hl with | [_], _ => rfl
  refine ⟨fd_law, fun s v => b s [v] rfl, fun base _ _ => ?_⟩
  have C_law_folded : Cal P w K mg base "_law_folded" (defArgs (top 29)) ["_law_script", "_law_many"] 1 .fz Ffolded := raw_law_folded (k := 0) F_law_folded g_law_folded Z 
  have C_law_take : Cal P w K mg base "_law_take" (defArgs (top 28)) ["_law_box", "_law_many"] 1 .fz fTake := raw_law_take F_law_take g_law_take
  have C_law_of : Cal P w K mg base "_law_of" (defArgs (top 31)) ["_law_box", "_law_pool"] 2 .fz Fof := raw_law_of (k := 1) F_law_of g_law_of Z C_law_take
  have C_law_row : Cal P w K mg base "_law_row" (defArgs (top 32)) ["_law_box", "_law_most"] 3 .fz Frow := raw_law_row (k := 2) F_law_row g_law_row Z (C_law_take.up (by decide)) C_law_of
  have C_law_with : Cal P w K mg base "_law_with" (defArgs (top 34)) ["_law_pen", "_law_spot", "_law_more"] 1 .fz Fwith := raw_law_with (k := 0) F_law_with g_law_with Z 
  have C_lets_pass : Cal P w K mg base "lets_pass" (defArgs (top 4)) ["ahead", "behind"] 1 .fz Flets_pass := raw_lets_pass (k := 0) F_lets_pass g_lets_pass Z 
  have C_may_pass : Cal P w K mg base "may_pass" (defArgs (top 6)) ["row"] 2 .nw Fmay_pass := raw_may_pass (k := 1) F_may_pass g_may_pass Z C_lets_pass
  have C_lets_fall : Cal P w K mg base "lets_fall" (defArgs (top 5)) ["ahead", "behind"] 1 .fz Flets_fall := raw_lets_fall (k := 0) F_lets_fall g_lets_fall Z 
  have C_may_fall : Cal P w K mg base "may_fall" (defArgs (top 7)) ["row"] 2 .nw Fmay_fall := raw_may_fall (k := 1) F_may_fall g_may_fall Z C_lets_fall
  have C_last : Cal P w K mg base "last" (defArgs (top 10)) ["row"] 2 .fz Flast := raw_last (k := 1) F_last g_last Z C_lets_pass
  have C_first : Cal P w K mg base "first" (defArgs (top 11)) ["row"] 2 .fz Ffirst := raw_first (k := 1) F_first g_first Z C_lets_fall
  have C_turned_pairs : Cal P w K mg base "turned_pairs" (defArgs (top 12)) ["order"] 1 .nw Fturned_pairs := raw_turned_pairs (k := 0) F_turned_pairs g_turned_pairs Z 
  have C_passings : Cal P w K mg base "passings" (defArgs (top 13)) ["row"] 3 .nw Fpassings := raw_passings (k := 2) F_passings g_passings Z (C_turned_pairs.up (by decide)) C_last
  have C_stopped_by : Cal P w K mg base "stopped_by" (defArgs (top 22)) ["row", "who"] 3 .fz Fstopped_by := raw_stopped_by (k := 2) F_stopped_by g_stopped_by Z C_last
  have C_never : Cal P w K mg base "never" (defArgs (top 18)) ["row"] 1 (.nn 2) fNever := raw_never (k := 0) F_never g_never Z 
  have C_is_number : Cal P w K mg base "is_number" (defArgs (top 1)) ["thing"] 1 .fz Fis_number := raw_is_number (k := 0) F_is_number g_is_number Z 
  have C_shows_never : Cal P w K mg base "shows_never" (defArgs (top 19)) ["row", "thing"] 2 .fz Fshows_never := raw_shows_never (k := 1) F_shows_never g_shows_never Z C_never C_is_number
  have C_fallings : Cal P w K mg base "fallings" (defArgs (top 14)) ["row"] 3 .nw Ffallings := raw_fallings (k := 2) F_fallings g_fallings Z (C_turned_pairs.up (by decide)) C_first
  have C_weighed : Cal P w K mg base "weighed" (defArgs (top 24)) ["row"] 1 .nw Fweighed := raw_weighed (k := 0) F_weighed g_weighed Z 
  have C_turned : Cal P w K mg base "turned" (defArgs (top 25)) ["row"] 2 .fz Fturned := raw_turned (k := 1) F_turned g_turned Z C_weighed
  have C_is_last : Cal P w K mg base "is_last" (defArgs (top 15)) ["row"] 3 .fz Fis_last := raw_is_last (k := 2) F_is_last g_is_last Z C_may_pass
  have C_is_first : Cal P w K mg base "is_first" (defArgs (top 16)) ["row"] 3 .fz Fis_first := raw_is_first (k := 2) F_is_first g_is_first Z C_may_fall
  have C_is_beast : Cal P w K mg base "is_beast" (defArgs (top 2)) ["thing"] 2 .fz Fis_beast := raw_is_beast (k := 1) F_is_beast g_is_beast Z C_is_number
  have C_is_row : Cal P w K mg base "is_row" (defArgs (top 3)) ["thing"] 3 .fz Fis_row := raw_is_row (k := 2) F_is_row g_is_row Z C_is_beast
  have C_is_order : Cal P w K mg base "is_order" (defArgs (top 8)) ["row", "thing"] 2 .fz Fis_order := raw_is_order (k := 1) F_is_order g_is_order Z C_is_number
  have C_least_strength : Cal P w K mg base "least_strength" (defArgs (top 21)) ["row", "one", "other"] 2 .fz Fleast_strength := raw_least_strength (k := 1) F_least_strength g_least_strength Z C_never
  have C_ever : Cal P w K mg base "ever" (defArgs (top 20)) ["row", "one", "other"] 2 .fz Fever := raw_ever (k := 1) F_ever g_ever Z C_never
  have C_law_asks : Cal P w K mg base "_law_asks" (defArgs (top 33)) ["_law_pen", "_law_whom"] 4 .het Fasks := raw_law_asks (k := 3) F_law_asks g_law_asks Z (C_may_pass.up (by decide)) (C_may_fall.up (by decide)) (C_last.up (by decide)) (C_first.up (by decide)) C_passings C_stopped_by (C_shows_never.up (by decide)) C_fallings (C_weighed.up (by decide)) (C_turned.up (by decide)) (C_never.up (by decide)) C_is_last C_is_first C_is_row (C_is_order.up (by decide)) (C_least_strength.up (by decide)) (C_ever.up (by decide))
  have C_law_right : GCal P w K mg base "_law_right" (defArgs (top 35)) ["_law_box"] 5 .fz Fright := raw_law_right (k := 4) F_law_right g_law_right Z (C_law_row.up (by decide)) (C_law_with.up (by decide)) (C_law_take.up (by decide)) (C_law_of.up (by decide)) C_law_asks (C_never.up (by decide)) (C_ever.up (by decide))
  have C_law_dip : Cal P w K mg base "_law_dip" (defArgs (top 27)) ["_law_script", "_law_k"] 1 .nw Fdip := raw_law_dip (k := 0) F_law_dip g_law_dip Z 
  exact law_fnG (fnok_law (k := 5) F_law Z (C_law_folded.up (by decide)) C_law_right (C_law_dip.up (by decide))) law_ok
end TL
open PySem PySem.W PySem.Calls PyProof.Rows
set_option maxHeartbeats 0 in
theorem PySem.Challenge.cw_hayherd_k19_asked_again_and_shared_holds : PySem.Challenge.rw_hayherd_k19_asked_again_and_shared.Holds := by
  w_on; o_law
  refine HandSHeadRun.head_any (r := OpenLaw.row PySem.Challenge.rw_hayherd_k19_asked_again_and_shared) (q := view (OpenLaw.row PySem.Challenge.rw_hayherd_k19_asked_again_and_shared).prog [36]) (H := TL.hkL) (ob := TL.obL) (M := 4000) (loose := TL.looseL) (d := HandSHeadRun.topDef (OpenLaw.row PySem.Challenge.rw_hayherd_k19_asked_again_and_shared).prog 36) (kwd := []) TL.obL_eq
    (by kernel_rfl) (fun s => by kernel_rfl) TL.runL (by kernel_rfl) (by kernel_rfl) (by kernel_rfl) (by rfl) (by first | assumption | decide +kernel) (by decide +kernel) ⟨rfl, rfl, rfl, rfl, rfl, by decide +kernel⟩ ?hw ?hc
  case hw => w_witness2
  case hc =>
    refine TL.walk_G (l := PySem.Challenge.rw_hayherd_k19_asked_again_and_shared) (n := 63) (k := 6) (x := "_law_script") rfl (by decide) (by kernel_rfl) ⟨rfl, by decide, by decide⟩ ?F
    intro w mg fa h Y G hmg0
    obtain ⟨K, KX, c⟩ := Y
    have hmg : mg ("law" : PySem.Str) = some (.ref fa) := by
      have e : (HandSHeadRun.topDef (OpenLaw.row PySem.Challenge.rw_hayherd_k19_asked_again_and_shared).prog 36).name = ("law" : PySem.Str) := by kernel_rfl
      rw [← e]
      exact hmg0
    obtain ⟨fd, hb, hF⟩ := TL.facts (P := (PySem.Challenge.rw_hayherd_k19_asked_again_and_shared).prog) (w := w) KX G hmg c
    exact ⟨K, fd, TL.spLaw K, KX, hb, fun H a ns hl _ hS => ⟨a, ns, rfl, hS, hl, fun _ => rfl⟩, hF⟩
